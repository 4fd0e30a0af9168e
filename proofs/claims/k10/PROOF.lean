import PyProof.Rows.All
import Wide.All
import OpenK.AllK
import Wide.FinOn
import HandS.ForMost
import HandS.ForExc
import HandS.Wide
import HandS.IsInst
import HandS.Deep
import HandS.TupAny
import HandS.Flow
import HandS.Conv
import KE.DataFind
import HandS.Text
import KE.GoesMore
import HandS.Iter
import HandS.Zip
import HandS.Style
import KE.KDictPairs
import KE.KIntText
import HandS.FStr
import PyProof.StrOps2
import KE.DataCmp
import HandS.TupLen
import PyProof.Rows.SortShellAny
import PyProof.Rows.SetFrom
import HandS.Strs
import HandS.Set
import KE.KDictSum
import PySem.Challenge.RW_handedon_k10_variables_of_rules
set_option Elab.async false
set_option linter.all false
set_option maxRecDepth 100000
set_option autoImplicit false
/-! Ev1: values, memories, results; how they stand in the abstract heap. -/
namespace Ev
open PySem PySem.Spec PyProof.Rows L2

/-- a value: deep where nothing of it changes; ref: the number of a thing that may change; scr: the script's list -/
inductive D where
  | non | bl (b : Bool) | int (i : Int) | str (s : Str)
  | tup (ds : List D) | lst (ds : List D) | scr (ns : List Int)
  | dk (ks : List Key) (ds : List D) | dt (ks : List (List Key)) (ds : List D)
  | ref (i : Nat)

/-- a thing that may change -/
inductive Ob where
  | lst (ds : List D)
  | dk (ks : List Key) (ds : List D)
  | dt (ks : List (List Key)) (ds : List D)
  | ins (C : Str) (fs : List (Str × D))

structure Mem where
  nx : Nat
  ob : Nat → Option Ob
def Mem.put (m : Mem) (i : Nat) (o : Ob) : Mem := ⟨m.nx, fun j => if j = i then some o else m.ob j⟩
def Mem.add (m : Mem) (o : Ob) : Mem := ⟨m.nx + 1, fun j => if j = m.nx then some o else m.ob j⟩
def Mem.kill (m : Mem) (i : Nat) : Mem := ⟨m.nx, fun j => if j = i then none else m.ob j⟩
/-- what is new is forgotten -/
def Mem.back (m : Mem) (n : Nat) : Mem := ⟨m.nx, fun j => if j < n then m.ob j else none⟩

inductive Res (α : Type) where
  | ok (a : α) (m : Mem)
  | exc (C : Str) (fs : List (Str × D)) (m : Mem)
  | bad
def Res.bind {α β : Type} (r : Res α) (k : α → Mem → Res β) : Res β := match r with
  | .ok a m => k a m
  | .exc C fs m => .exc C fs m
  | .bad => .bad
@[simp] theorem Res.bind_ok {α β : Type} (a : α) (m : Mem) (k : α → Mem → Res β) : (Res.ok a m).bind k = k a m := rfl
@[simp] theorem Res.bind_exc {α β : Type} (C : Str) (fs : List (Str × D)) (m : Mem) (k : α → Mem → Res β) : (Res.exc C fs m : Res α).bind k = .exc C fs m := rfl
@[simp] theorem Res.bind_bad {α β : Type} (k : α → Mem → Res β) : (Res.bad : Res α).bind k = .bad := rfl
def Res.of {α : Type} (o : Option α) (m : Mem) : Res α := match o with
  | some a => .ok a m
  | none => .bad
@[simp] theorem Res.of_some {α : Type} (a : α) (m : Mem) : Res.of (some a) m = .ok a m := rfl
@[simp] theorem Res.of_none {α : Type} (m : Mem) : (Res.of none m : Res α) = .bad := rfl

/-! ### how they stand -/
/-- a written tuple -/
def Kt (K : PySem.W.Frag) (a : Addr) (xs : List V) : Prop :=
  ∃ (o : Obj) (its : Array Value) (n : Nat), K.lookup a = some o ∧ o.cls = .type "tuple" ∧ o.data = .seq its n ∧ its.size ≤ sizeLine ∧ Vals xs its.toList
/-- .. that begins with a text: so no place is written -/
def TupF (K : PySem.W.Frag) (F : Addr → Prop) (H : Hp) (a : Addr) (xs : List V) : Prop := (F a ∧ H a = some (.tup xs)) ∨ (Kt K a xs ∧ ∃ z r, xs = V.str z :: r)
theorem TupF.sq {K : PySem.W.Frag} {F : Addr → Prop} {H : Hp} {a : Addr} {xs : List V} (h : TupF K F H a xs) : SqT K H a xs := by
  rcases h with ⟨_, h⟩ | h
  · exact .inl (.inl h)
  · exact .inr h.1
/-- a written list; the script's -/
def Kl (K : PySem.W.Frag) (a : Addr) (xs : List V) : Prop :=
  ∃ (o : Obj) (its : Array Value) (n : Nat), K.lookup a = some o ∧ o.cls = .type "list" ∧ o.dict = none ∧ o.data = .seq its n ∧ its.size ≤ sizeLine ∧ Vals xs its.toList
def ScrF (K : PySem.W.Frag) (F : Addr → Prop) (H : Hp) (a : Addr) (ns : List Int) : Prop := (F a ∧ ∃ o, H a = some (.frz o (.lst (ns.map V.int)))) ∨ Kl K a (ns.map V.int)
theorem ScrF.sq {K : PySem.W.Frag} {F : Addr → Prop} {H : Hp} {a : Addr} {ns : List Int} (h : ScrF K F H a ns) : SqL K H a (ns.map V.int) := by
  rcases h with ⟨_, o, h⟩ | h
  · exact .inl (.inr ⟨o, h⟩)
  · exact .inr h
theorem ScrF.ty {K : PySem.W.Frag} {F : Addr → Prop} {H : Hp} {a : Addr} {ns : List Int} (h : ScrF K F H a ns) : TyX K H (.ref a) (.type "list") := by
  rcases h with ⟨_, o, h⟩ | ⟨o, its, n, h1, h2, _⟩
  · exact .base (.frz h)
  · exact .kList h1 h2
mutual
def RelD (K : PySem.W.Frag) (io : Nat → Addr) (F : Addr → Prop) (n : Nat) (H : Hp) : D → V → Prop
  | .non, v => v = .non
  | .bl b, v => v = .bl b
  | .int i, v => v = .int i
  | .str s, v => v = .str s
  | .tup ds, v => ∃ a xs, v = .ref a ∧ TupF K F H a xs ∧ RelDs K io F n H ds xs
  | .lst ds, v => ∃ a xs, v = .ref a ∧ F a ∧ H a = some (.lst xs) ∧ RelDs K io F n H ds xs
  | .scr ns, v => ∃ a, v = .ref a ∧ ScrF K F H a ns
  | .dk ks ds, v => ∃ a kvs, v = .ref a ∧ F a ∧ Rd H a (.dK kvs) ∧ kvs.map (·.1) = ks ∧ RelDs K io F n H ds (kvs.map (·.2))
  | .dt ks ds, v => ∃ a kvs, v = .ref a ∧ F a ∧ Rd H a (.dT kvs) ∧ kvs.map (·.1) = ks ∧ RelDs K io F n H ds (kvs.map (·.2))
  | .ref i, v => i < n ∧ v = .ref (io i)
def RelDs (K : PySem.W.Frag) (io : Nat → Addr) (F : Addr → Prop) (n : Nat) (H : Hp) : List D → List V → Prop
  | [], [] => True
  | d :: ds, v :: vs => RelD K io F n H d v ∧ RelDs K io F n H ds vs
  | _, _ => False
end
def RelF (K : PySem.W.Frag) (io : Nat → Addr) (F : Addr → Prop) (n : Nat) (H : Hp) : List (Str × D) → List (Str × V) → Prop
  | [], [] => True
  | d :: ds, v :: vs => (d.1 = v.1 ∧ RelD K io F n H d.2 v.2) ∧ RelF K io F n H ds vs
  | _, _ => False
/-- the static part: what is written, the module's names, the classes' addresses -/
structure Ct where
  K : PySem.W.Frag
  mg : Str → Option Value
def RelO (T : Ct) (io : Nat → Addr) (F : Addr → Prop) (n : Nat) (H : Hp) : Ob → Addr → Prop
  | .lst ds, a => ∃ xs, H a = some (.lst xs) ∧ RelDs T.K io F n H ds xs
  | .dk ks ds, a => ∃ kvs, H a = some (.dK kvs) ∧ kvs.map (·.1) = ks ∧ RelDs T.K io F n H ds (kvs.map (·.2))
  | .dt ks ds, a => ∃ kvs, H a = some (.dT kvs) ∧ kvs.map (·.1) = ks ∧ RelDs T.K io F n H ds (kvs.map (·.2))
  | .ins C fs, a => ∃ Ca dx fs', T.mg C = some (.ref Ca) ∧ H a = some (.ins Ca dx fs') ∧ RelF T.K io F n H fs fs'

structure Sim (T : Ct) (io : Nat → Addr) (F : Addr → Prop) (m : Mem) (H : Hp) : Prop where
  inj : ∀ i j o u, m.ob i = some o → m.ob j = some u → io i = io j → i = j
  lt : ∀ i o, m.ob i = some o → i < m.nx
  nf : ∀ i o, m.ob i = some o → ¬ F (io i)
  ob : ∀ i o, m.ob i = some o → RelO T io F m.nx H o (io i)
  fh : ∀ a, F a → ∃ o, H a = some o
structure Ext (io : Nat → Addr) (F : Addr → Prop) (m : Mem) (H : Hp) (io' : Nat → Addr) (F' : Addr → Prop) (m' : Mem) (H' : Hp) : Prop where
  nx : m.nx ≤ m'.nx
  eio : ∀ i, i < m.nx → io' i = io i
  eF : ∀ a, F a → F' a
  keep : ∀ a o, H a = some o → (∀ i u, m.ob i = some u → a ≠ io i) → H' a = some o
  new : ∀ i, m.nx ≤ i → i < m'.nx → H (io' i) = none
  dead : ∀ i, i < m.nx → m.ob i = none → m'.ob i = none
  lt : ∀ i o, m'.ob i = some o → i < m'.nx
  there : ∀ a o, H a = some o → ∃ o', H' a = some o'
  newF : ∀ a, F' a → F a ∨ H a = none ∨ ∃ i u, m.ob i = some u ∧ a = io i
theorem Ext.refl {T : Ct} {io : Nat → Addr} {F : Addr → Prop} {m : Mem} {H : Hp} (S : Sim T io F m H) : Ext io F m H io F m H :=
  ⟨Nat.le_refl _, fun _ _ => rfl, fun _ h => h, fun _ _ h _ => h, fun i h1 h2 => absurd (Nat.lt_of_lt_of_le h2 h1) (Nat.lt_irrefl _), fun _ _ h => h, S.lt, fun _ o h => ⟨o, h⟩, fun _ h => .inl h⟩
theorem Ext.trans {io io1 io2 : Nat → Addr} {F F1 F2 : Addr → Prop} {m m1 m2 : Mem} {H H1 H2 : Hp} (a : Ext io F m H io1 F1 m1 H1) (b : Ext io1 F1 m1 H1 io2 F2 m2 H2) : Ext io F m H io2 F2 m2 H2 where
  nx := Nat.le_trans a.nx b.nx
  eio := fun i h => (b.eio i (Nat.lt_of_lt_of_le h a.nx)).trans (a.eio i h)
  eF := fun x h => b.eF x (a.eF x h)
  keep := fun x o h hl => by
    refine b.keep x o (a.keep x o h hl) fun i u hu e => ?_
    by_cases hi : i < m.nx
    · cases q : m.ob i with
      | none => rw [a.dead i hi q] at hu; cases hu
      | some z => exact hl i z q (e.trans (a.eio i hi))
    · have := a.new i (Nat.le_of_not_lt hi) (a.lt i u hu)
      rw [← e, h] at this; cases this
  new := fun i h1 h2 => by
    by_cases hi : i < m1.nx
    · rw [b.eio i hi]; exact a.new i h1 hi
    · have q := b.new i (Nat.le_of_not_lt hi) h2
      cases z : H (io2 i) with
      | none => rfl
      | some o =>
        obtain ⟨o', z'⟩ := a.there _ o z
        rw [q] at z'; cases z'
  dead := fun i h q => b.dead i (Nat.lt_of_lt_of_le h a.nx) (a.dead i h q)
  lt := b.lt
  there := fun x o h => by
    obtain ⟨o', h'⟩ := a.there x o h
    exact b.there x o' h'
  newF := fun x h => by
    have none_ : H1 x = none → H x = none := fun q => by
      cases z : H x with
      | none => rfl
      | some o =>
        obtain ⟨o', z'⟩ := a.there _ o z
        rw [q] at z'; cases z'
    rcases b.newF x h with h | h | ⟨i, u, hu, e⟩
    · exact a.newF x h
    · exact .inr (.inl (none_ h))
    · by_cases hi : i < m.nx
      · cases q : m.ob i with
        | none => rw [a.dead i hi q] at hu; cases hu
        | some z => exact .inr (.inr ⟨i, z, q, e.trans (a.eio i hi)⟩)
      · rw [e]; exact .inr (.inl (a.new i (Nat.le_of_not_lt hi) (a.lt i u hu)))

section
variable {K : PySem.W.Frag} {io io' : Nat → Addr} {F F' : Addr → Prop} {n n' : Nat} {H H' : Hp}
/-- what a value's standing leans on -/
structure Mono (K : PySem.W.Frag) (io : Nat → Addr) (F : Addr → Prop) (n : Nat) (H : Hp) (io' : Nat → Addr) (F' : Addr → Prop) (n' : Nat) (H' : Hp) : Prop where
  nx : n ≤ n'
  eio : ∀ i, i < n → io' i = io i
  eF : ∀ a, F a → F' a
  kt : ∀ a xs, F a → H a = some (.tup xs) → H' a = some (.tup xs)
  kl : ∀ a xs, F a → H a = some (.lst xs) → H' a = some (.lst xs)
  kf : ∀ a o xs, F a → H a = some (.frz o (.lst xs)) → H' a = some (.frz o (.lst xs))
  kd : ∀ a kvs, F a → Rd H a (.dK kvs) → Rd H' a (.dK kvs)
  ke : ∀ a kvs, F a → Rd H a (.dT kvs) → Rd H' a (.dT kvs)
mutual
theorem RelD.mono (M : Mono K io F n H io' F' n' H') : ∀ (d : D) {v : V}, RelD K io F n H d v → RelD K io' F' n' H' d v
  | .non, v, h => h
  | .bl _, v, h => h
  | .int _, v, h => h
  | .str _, v, h => h
  | .tup ds, v, h => by
    simp only [RelD] at h ⊢
    obtain ⟨a, xs, e, t, r⟩ := h
    refine ⟨a, xs, e, ?_, RelDs.mono M ds r⟩
    rcases t with ⟨f, t⟩ | t
    · exact .inl ⟨M.eF a f, M.kt a xs f t⟩
    · exact .inr t
  | .lst ds, v, h => by
    simp only [RelD] at h ⊢
    obtain ⟨a, xs, e, f, t, r⟩ := h
    exact ⟨a, xs, e, M.eF a f, M.kl a xs f t, RelDs.mono M ds r⟩
  | .scr ns, v, h => by
    simp only [RelD] at h ⊢
    obtain ⟨a, e, t⟩ := h
    refine ⟨a, e, ?_⟩
    rcases t with ⟨f, o, t⟩ | t
    · exact .inl ⟨M.eF a f, o, M.kf a o _ f t⟩
    · exact .inr t
  | .dk ks ds, v, h => by
    simp only [RelD] at h ⊢
    obtain ⟨a, kvs, e, f, t, q, r⟩ := h
    exact ⟨a, kvs, e, M.eF a f, M.kd a kvs f t, q, RelDs.mono M ds r⟩
  | .dt ks ds, v, h => by
    simp only [RelD] at h ⊢
    obtain ⟨a, kvs, e, f, t, q, r⟩ := h
    exact ⟨a, kvs, e, M.eF a f, M.ke a kvs f t, q, RelDs.mono M ds r⟩
  | .ref i, v, h => by
    simp only [RelD] at h ⊢
    exact ⟨Nat.lt_of_lt_of_le h.1 M.nx, by rw [M.eio i h.1]; exact h.2⟩
theorem RelDs.mono (M : Mono K io F n H io' F' n' H') : ∀ (ds : List D) {vs : List V}, RelDs K io F n H ds vs → RelDs K io' F' n' H' ds vs
  | [], [], _ => by simp only [RelDs]
  | [], _ :: _, h => by simp only [RelDs] at h
  | _ :: _, [], h => by simp only [RelDs] at h
  | d :: ds, v :: vs, h => by
    simp only [RelDs] at h ⊢
    exact ⟨RelD.mono M d h.1, RelDs.mono M ds h.2⟩
end
theorem RelF.mono (M : Mono K io F n H io' F' n' H') : ∀ (fs : List (Str × D)) {vs : List (Str × V)}, RelF K io F n H fs vs → RelF K io' F' n' H' fs vs
  | [], [], _ => by simp only [RelF]
  | [], _ :: _, h => by simp only [RelF] at h
  | _ :: _, [], h => by simp only [RelF] at h
  | d :: ds, v :: vs, h => by
    simp only [RelF] at h ⊢
    exact ⟨⟨h.1.1, h.1.2.mono M⟩, RelF.mono M ds h.2⟩
theorem Sim.mono {T : Ct} {m m' : Mem} (S : Sim T io F m H) (E : Ext io F m H io' F' m' H') : Mono T.K io F m.nx H io' F' m'.nx H' := by
  have live : ∀ a, F a → ∀ i u, m.ob i = some u → a ≠ io i := fun a f i u hu e => S.nf i u hu (e ▸ f)
  refine ⟨E.nx, E.eio, E.eF, fun a xs f h => E.keep a _ h (live a f), fun a xs f h => E.keep a _ h (live a f), fun a o xs f h => E.keep a _ h (live a f), fun a kvs f h => ?_, fun a kvs f h => ?_⟩
  · rcases h with h | ⟨o, h⟩
    · exact .inl (E.keep a _ h (live a f))
    · exact .inr ⟨o, E.keep a _ h (live a f)⟩
  · rcases h with h | ⟨o, h⟩
    · exact .inl (E.keep a _ h (live a f))
    · exact .inr ⟨o, E.keep a _ h (live a f)⟩
end

/-! ### slots -/
abbrev Slots := List (Option D)
def RelSl (K : PySem.W.Frag) (io : Nat → Addr) (F : Addr → Prop) (n : Nat) (H : Hp) (sd : Slots) (σ : L2.St) : Prop :=
  sd.length = σ.length ∧ ∀ (i : Nat) (d : D), sd[i]? = some (some d) → ∃ v, σ[i]? = some (some v) ∧ RelD K io F n H d v
section
variable {K : PySem.W.Frag} {io io' : Nat → Addr} {F F' : Addr → Prop} {n n' : Nat} {H H' : Hp} {sd : Slots} {σ : L2.St}
theorem RelSl.mono (M : Mono K io F n H io' F' n' H') (h : RelSl K io F n H sd σ) : RelSl K io' F' n' H' sd σ :=
  ⟨h.1, fun i d e => let ⟨v, a, b⟩ := h.2 i d e; ⟨v, a, b.mono M⟩⟩
theorem RelSl.set (h : RelSl K io F n H sd σ) {i : Nat} {d : D} {v : V} (r : RelD K io F n H d v) : RelSl K io F n H (sd.set i (some d)) (σ.set i (some v)) := by
  refine ⟨by rw [List.length_set, List.length_set]; exact h.1, fun j e q => ?_⟩
  by_cases hj : i = j
  · subst hj
    by_cases hl : i < sd.length
    · rw [List.getElem?_set_self hl] at q
      cases q
      exact ⟨v, by rw [List.getElem?_set_self (by rw [← h.1]; exact hl)], r⟩
    · rw [List.getElem?_eq_none (by rw [List.length_set]; omega)] at q; cases q
  · rw [List.getElem?_set_ne hj] at q
    obtain ⟨w, a, b⟩ := h.2 j e q
    exact ⟨w, by rw [List.getElem?_set_ne hj]; exact a, b⟩
theorem RelDs.get : ∀ {ds : List D} {vs : List V} {i : Nat} {d : D}, RelDs K io F n H ds vs → ds[i]? = some d → ∃ v, vs[i]? = some v ∧ RelD K io F n H d v
  | [], _, _, _, _, e => by simp at e
  | _ :: _, [], _, _, h, _ => by simp only [RelDs] at h
  | a :: ds, v :: vs, 0, d, h, e => by
    simp only [RelDs] at h
    simp only [List.getElem?_cons_zero, Option.some.injEq] at e
    subst e
    exact ⟨v, by simp, h.1⟩
  | a :: ds, v :: vs, i + 1, d, h, e => by
    simp only [RelDs] at h
    obtain ⟨w, a, b⟩ := RelDs.get (i := i) h.2 (by simpa using e)
    exact ⟨w, by simpa using a, b⟩
theorem RelDs.len : ∀ {ds : List D} {vs : List V}, RelDs K io F n H ds vs → ds.length = vs.length
  | [], [], _ => rfl
  | [], _ :: _, h => by simp only [RelDs] at h
  | _ :: _, [], h => by simp only [RelDs] at h
  | _ :: ds, _ :: vs, h => by
    simp only [RelDs] at h
    rw [List.length_cons, List.length_cons, RelDs.len h.2]
theorem RelDs.app : ∀ {ds es : List D} {vs ws : List V}, RelDs K io F n H ds vs → RelDs K io F n H es ws → RelDs K io F n H (ds ++ es) (vs ++ ws)
  | [], _, [], _, _, k => k
  | [], _, _ :: _, _, h, _ => by simp only [RelDs] at h
  | _ :: _, _, [], _, h, _ => by simp only [RelDs] at h
  | _ :: ds, _, _ :: vs, _, h, k => by
    simp only [RelDs] at h
    simp only [List.cons_append, RelDs]
    exact ⟨h.1, RelDs.app h.2 k⟩
theorem RelDs.take : ∀ {ds : List D} {vs : List V} (j : Nat), RelDs K io F n H ds vs → RelDs K io F n H (ds.take j) (vs.take j)
  | _, _, 0, _ => by simp only [List.take_zero, RelDs]
  | [], [], _ + 1, _ => by simp only [List.take_nil, RelDs]
  | [], _ :: _, _ + 1, h => by simp only [RelDs] at h
  | _ :: _, [], _ + 1, h => by simp only [RelDs] at h
  | _ :: ds, _ :: vs, j + 1, h => by
    simp only [RelDs] at h
    simp only [List.take_succ_cons, RelDs]
    exact ⟨h.1, RelDs.take j h.2⟩
theorem RelDs.drop : ∀ {ds : List D} {vs : List V} (j : Nat), RelDs K io F n H ds vs → RelDs K io F n H (ds.drop j) (vs.drop j)
  | _, _, 0, h => h
  | [], [], _ + 1, _ => by simp only [List.drop_nil, RelDs]
  | [], _ :: _, _ + 1, h => by simp only [RelDs] at h
  | _ :: _, [], _ + 1, h => by simp only [RelDs] at h
  | _ :: ds, _ :: vs, j + 1, h => by
    simp only [RelDs] at h
    simp only [List.drop_succ_cons]
    exact RelDs.drop j h.2
theorem RelDs.set : ∀ {ds : List D} {vs : List V} (j : Nat) {d : D} {v : V}, RelDs K io F n H ds vs → RelD K io F n H d v → RelDs K io F n H (ds.set j d) (vs.set j v)
  | [], [], _, _, _, _, _ => by simp only [List.set_nil, RelDs]
  | [], _ :: _, _, _, _, h, _ => by simp only [RelDs] at h
  | _ :: _, [], _, _, _, h, _ => by simp only [RelDs] at h
  | _ :: ds, _ :: vs, 0, d, v, h, r => by
    simp only [RelDs] at h
    simp only [List.set_cons_zero, RelDs]
    exact ⟨r, h.2⟩
  | _ :: ds, _ :: vs, j + 1, d, v, h, r => by
    simp only [RelDs] at h
    simp only [List.set_cons_succ, RelDs]
    exact ⟨h.1, RelDs.set j h.2 r⟩
theorem RelDs.rev : ∀ {ds : List D} {vs : List V}, RelDs K io F n H ds vs → RelDs K io F n H ds.reverse vs.reverse
  | [], [], _ => by simp only [List.reverse_nil, RelDs]
  | [], _ :: _, h => by simp only [RelDs] at h
  | _ :: _, [], h => by simp only [RelDs] at h
  | d :: ds, v :: vs, h => by
    simp only [RelDs] at h
    rw [List.reverse_cons, List.reverse_cons]
    refine RelDs.app (RelDs.rev h.2) ?_
    simp only [RelDs]
    exact ⟨h.1, trivial⟩
end
end Ev

set_option Elab.async false
set_option linter.all false
set_option maxRecDepth 100000
set_option autoImplicit false
/-! Ev2: what is laid, put, frozen; readings of computations; how they follow one another. -/
namespace Ev
open PySem PySem.Spec PyProof.Rows L2

section
variable {T : Ct} {io : Nat → Addr} {F : Addr → Prop} {m : Mem} {H : Hp} {p : Addr} {o : HO}
def orF (F : Addr → Prop) (p : Addr) : Addr → Prop := fun a => F a ∨ a = p
def ioN (io : Nat → Addr) (n : Nat) (p : Addr) : Nat → Addr := fun i => if i = n then p else io i
theorem ioN_lt {n i : Nat} (h : i < n) : ioN io n p i = io i := if_neg (Nat.ne_of_lt h)
theorem ioN_self {n : Nat} : ioN io n p n = p := if_pos rfl
theorem RelO.mono {io' : Nat → Addr} {F' : Addr → Prop} {n n' : Nat} {H' : Hp} {u : Ob} {a : Addr} (M : Mono T.K io F n H io' F' n' H') (ha : ∀ z, H a = some z → H' a = some z) (h : RelO T io F n H u a) : RelO T io' F' n' H' u a := by
  cases u with
  | lst ds => obtain ⟨xs, e, r⟩ := h; exact ⟨xs, ha _ e, r.mono M⟩
  | dk ks ds => obtain ⟨xs, e, q, r⟩ := h; exact ⟨xs, ha _ e, q, r.mono M⟩
  | dt ks ds => obtain ⟨xs, e, q, r⟩ := h; exact ⟨xs, ha _ e, q, r.mono M⟩
  | ins C fs => obtain ⟨Ca, dx, fs', g, e, r⟩ := h; exact ⟨Ca, dx, fs', g, ha _ e, r.mono M⟩
/-- a new thing that stays as it is -/
theorem Ext.addF (S : Sim T io F m H) (hp : H p = none) : Ext io F m H io (orF F p) m (upd H p o) :=
  ⟨Nat.le_refl _, fun _ _ => rfl, fun _ h => .inl h, fun a z h _ => by rw [upd_ne (ne_of_none h hp)]; exact h,
    fun i h1 h2 => absurd (Nat.lt_of_lt_of_le h2 h1) (Nat.lt_irrefl _), fun _ _ h => h, S.lt, fun a z h => ⟨z, by rw [upd_ne (ne_of_none h hp)]; exact h⟩, fun a h => h.elim .inl fun e => .inr (.inl (e ▸ hp))⟩
theorem RelO.some_ {n : Nat} {u : Ob} {a : Addr} (h : RelO T io F n H u a) : ∃ z, H a = some z := by
  cases u with
  | lst ds => obtain ⟨xs, e, r⟩ := h; exact ⟨_, e⟩
  | dk ks ds => obtain ⟨xs, e, r⟩ := h; exact ⟨_, e⟩
  | dt ks ds => obtain ⟨xs, e, r⟩ := h; exact ⟨_, e⟩
  | ins C fs => obtain ⟨Ca, dx, fs', g, e, r⟩ := h; exact ⟨_, e⟩
theorem Sim.newF (S : Sim T io F m H) (hp : H p = none) : Sim T io (orF F p) m (upd H p o) := by
  have M := S.mono (Ext.addF (o := o) S hp)
  refine ⟨S.inj, S.lt, fun i u h => ?_, fun i u h => ?_, fun a h => ?_⟩
  · rintro (q | q)
    · exact S.nf i u h q
    · obtain ⟨z, e⟩ := (S.ob i u h).some_
      rw [q, hp] at e; cases e
  · exact (S.ob i u h).mono M fun z e => by rw [upd_ne (ne_of_none e hp)]; exact e
  · rcases h with h | h
    · obtain ⟨z, e⟩ := S.fh a h
      exact ⟨z, by rw [upd_ne (ne_of_none e hp)]; exact e⟩
    · subst h; exact ⟨o, upd_same⟩
/-- a new thing that may change -/
theorem Ext.alloc {u : Ob} (S : Sim T io F m H) (hp : H p = none) : Ext io F m H (ioN io m.nx p) F (m.add u) (upd H p o) :=
  ⟨Nat.le_succ _, fun i h => ioN_lt h, fun _ h => h, fun a z h _ => by rw [upd_ne (ne_of_none h hp)]; exact h,
    fun i h1 h2 => by
      have : i = m.nx := Nat.le_antisymm (Nat.le_of_lt_succ h2) h1
      subst this; rw [ioN_self]; exact hp,
    fun i h q => by show (if i = m.nx then _ else m.ob i) = none; rw [if_neg (Nat.ne_of_lt h)]; exact q,
    fun i z h => by
      have h : (if i = m.nx then some u else m.ob i) = some z := h
      split at h
      · rename_i e; subst e; exact Nat.lt_succ_self _
      · exact Nat.lt_succ_of_lt (S.lt i z h),
    fun a z h => ⟨z, by rw [upd_ne (ne_of_none h hp)]; exact h⟩, fun a h => .inl h⟩
theorem Sim.alloc {u : Ob} (S : Sim T io F m H) (hp : H p = none) (hu : RelO T (ioN io m.nx p) F (m.nx + 1) (upd H p o) u p) : Sim T (ioN io m.nx p) F (m.add u) (upd H p o) := by
  have M := S.mono (Ext.alloc (u := u) (o := o) S hp)
  have at_ : ∀ {i z}, (m.add u).ob i = some z → (i = m.nx ∧ z = u) ∨ (i ≠ m.nx ∧ m.ob i = some z ∧ i < m.nx) := fun {i z} h => by
    have h : (if i = m.nx then some u else m.ob i) = some z := h
    split at h
    · rename_i e; cases h; exact .inl ⟨e, rfl⟩
    · rename_i e; exact .inr ⟨e, h, S.lt i z h⟩
  have np : ∀ {i z}, m.ob i = some z → io i ≠ p := fun {i z} h e => by
    obtain ⟨w, q⟩ := (S.ob i z h).some_
    rw [e, hp] at q; cases q
  refine ⟨fun i j z w hi hj e => ?_, fun i z h => ?_, fun i z h => ?_, fun i z h => ?_, fun a h => ?_⟩
  · rcases at_ hi with ⟨rfl, rfl⟩ | ⟨n1, h1, l1⟩
    · rcases at_ hj with ⟨rfl, rfl⟩ | ⟨n2, h2, l2⟩
      · rfl
      · rw [ioN_self, ioN_lt l2] at e; exact absurd e.symm (np h2)
    · rcases at_ hj with ⟨rfl, rfl⟩ | ⟨n2, h2, l2⟩
      · rw [ioN_self, ioN_lt l1] at e; exact absurd e (np h1)
      · rw [ioN_lt l1, ioN_lt l2] at e; exact S.inj i j z w h1 h2 e
  · rcases at_ h with ⟨rfl, rfl⟩ | ⟨n1, h1, l1⟩
    · exact Nat.lt_succ_self _
    · exact Nat.lt_succ_of_lt l1
  · rcases at_ h with ⟨rfl, rfl⟩ | ⟨n1, h1, l1⟩
    · rw [ioN_self]; intro f
      obtain ⟨w, q⟩ := S.fh p f
      rw [hp] at q; cases q
    · rw [ioN_lt l1]; exact S.nf i z h1
  · rcases at_ h with ⟨rfl, rfl⟩ | ⟨n1, h1, l1⟩
    · rw [ioN_self]; exact hu
    · rw [ioN_lt l1]
      exact (S.ob i z h1).mono M fun w e => by rw [upd_ne (ne_of_none e hp)]; exact e
  · obtain ⟨z, e⟩ := S.fh a h
    exact ⟨z, by rw [upd_ne (ne_of_none e hp)]; exact e⟩
/-- a thing is changed -/
theorem Ext.put {i : Nat} {u u' : Ob} (S : Sim T io F m H) (hi : m.ob i = some u) : Ext io F m H io F (m.put i u') (upd H (io i) o) :=
  ⟨Nat.le_refl _, fun _ _ => rfl, fun _ h => h, fun a z h hl => by rw [upd_ne (hl i u hi)]; exact h,
    fun i h1 h2 => absurd (Nat.lt_of_lt_of_le h2 h1) (Nat.lt_irrefl _),
    fun j h q => by
      show (if j = i then _ else m.ob j) = none
      rw [if_neg (by rintro rfl; rw [hi] at q; cases q)]; exact q,
    fun j z h => by
      have h : (if j = i then some u' else m.ob j) = some z := h
      split at h
      · rename_i e; subst e; exact S.lt _ _ hi
      · exact S.lt j z h,
    fun a z h => by
      by_cases e : a = io i
      · subst e; exact ⟨o, upd_same⟩
      · exact ⟨z, by rw [upd_ne e]; exact h⟩, fun a h => .inl h⟩
theorem Sim.put {i : Nat} {u u' : Ob} (S : Sim T io F m H) (hi : m.ob i = some u) (hu : RelO T io F m.nx (upd H (io i) o) u' (io i)) : Sim T io F (m.put i u') (upd H (io i) o) := by
  have M := S.mono (Ext.put (u' := u') (o := o) S hi)
  have at_ : ∀ {j z}, (m.put i u').ob j = some z → (j = i ∧ z = u') ∨ (j ≠ i ∧ m.ob j = some z) := fun {j z} h => by
    have h : (if j = i then some u' else m.ob j) = some z := h
    split at h
    · rename_i e; cases h; exact .inl ⟨e, rfl⟩
    · rename_i e; exact .inr ⟨e, h⟩
  have hl : ∀ {j z}, (m.put i u').ob j = some z → ∃ w, m.ob j = some w := fun {j z} h => by
    rcases at_ h with ⟨rfl, rfl⟩ | ⟨_, h⟩
    · exact ⟨u, hi⟩
    · exact ⟨z, h⟩
  refine ⟨fun j k z w hj hk e => ?_, fun j z h => ?_, fun j z h => ?_, fun j z h => ?_, fun a h => ?_⟩
  · obtain ⟨_, h1⟩ := hl hj
    obtain ⟨_, h2⟩ := hl hk
    exact S.inj j k _ _ h1 h2 e
  · obtain ⟨_, h1⟩ := hl h
    exact S.lt j _ h1
  · obtain ⟨_, h1⟩ := hl h
    exact S.nf j _ h1
  · rcases at_ h with ⟨rfl, rfl⟩ | ⟨ne, h1⟩
    · exact hu
    · refine (S.ob j z h1).mono M fun w e => ?_
      rw [upd_ne (fun q => ne (S.inj j i z u h1 hi q))]; exact e
  · obtain ⟨z, e⟩ := S.fh a h
    by_cases q : a = io i
    · subst q; exact ⟨o, upd_same⟩
    · exact ⟨z, by rw [upd_ne q]; exact e⟩
/-- a thing is forgotten -/
theorem Ext.kill {i : Nat} (S : Sim T io F m H) : Ext io F m H io F (m.kill i) H :=
  ⟨Nat.le_refl _, fun _ _ => rfl, fun _ h => h, fun a z h hl => h,
    fun i h1 h2 => absurd (Nat.lt_of_lt_of_le h2 h1) (Nat.lt_irrefl _),
    fun j h q => by show (if j = i then none else m.ob j) = none; rw [q]; split <;> rfl,
    fun j z h => by
      have h : (if j = i then none else m.ob j) = some z := h
      split at h
      · cases h
      · exact S.lt j z h, fun a z h => ⟨z, h⟩, fun a h => .inl h⟩
theorem Mem.kill_ob {m : Mem} {i j : Nat} {z : Ob} (h : (m.kill i).ob j = some z) : j ≠ i ∧ m.ob j = some z := by
  have h : (if j = i then none else m.ob j) = some z := h
  split at h
  · cases h
  · rename_i e; exact ⟨e, h⟩
/-- a list is frozen: it stays from now on -/
theorem Sim.frz {i : Nat} {u : Ob} (S : Sim T io F m H) (hi : m.ob i = some u) : Sim T io (orF F (io i)) (m.kill i) H ∧ Ext io F m H io (orF F (io i)) (m.kill i) H := by
  have E : Ext io F m H io (orF F (io i)) (m.kill i) H :=
    ⟨Nat.le_refl _, fun _ _ => rfl, fun _ h => .inl h, fun a z h hl => h,
      fun i h1 h2 => absurd (Nat.lt_of_lt_of_le h2 h1) (Nat.lt_irrefl _), (Ext.kill S).dead, (Ext.kill S).lt, fun a z h => ⟨z, h⟩,
      fun a h => h.elim .inl fun e => .inr (.inr ⟨i, u, hi, e⟩)⟩
  have M := S.mono E
  refine ⟨⟨fun j k z w hj hk e => S.inj j k z w (Mem.kill_ob hj).2 (Mem.kill_ob hk).2 e, fun j z h => S.lt j z (Mem.kill_ob h).2, fun j z h => ?_, fun j z h => ?_, fun a h => ?_⟩, E⟩
  · obtain ⟨ne, h1⟩ := Mem.kill_ob h
    rintro (q | q)
    · exact S.nf j z h1 q
    · exact ne (S.inj j i z u h1 hi q)
  · exact (S.ob j z (Mem.kill_ob h).2).mono M fun w e => e
  · rcases h with h | h
    · exact S.fh a h
    · subst h; exact (S.ob i u hi).some_
/-- a thing that nobody speaks of -/
theorem Sim.extra (S : Sim T io F m H) (hp : H p = none) : Sim T io F m (upd H p o) ∧ Ext io F m H io F m (upd H p o) := by
  have E : Ext io F m H io F m (upd H p o) :=
    ⟨Nat.le_refl _, fun _ _ => rfl, fun _ h => h, fun a z h _ => by rw [upd_ne (ne_of_none h hp)]; exact h,
      fun i h1 h2 => absurd (Nat.lt_of_lt_of_le h2 h1) (Nat.lt_irrefl _), fun _ _ h => h, S.lt, fun a z h => ⟨z, by rw [upd_ne (ne_of_none h hp)]; exact h⟩, fun a h => .inl h⟩
  refine ⟨⟨S.inj, S.lt, S.nf, fun i u h => ?_, fun a h => ?_⟩, E⟩
  · exact (S.ob i u h).mono (S.mono E) fun z e => by rw [upd_ne (ne_of_none e hp)]; exact e
  · obtain ⟨z, e⟩ := S.fh a h
    exact ⟨z, by rw [upd_ne (ne_of_none e hp)]; exact e⟩
/-- nobody speaks of p -/
structure Loose (io : Nat → Addr) (F : Addr → Prop) (m : Mem) (p : Addr) : Prop where
  nf : ¬ F p
  nl : ∀ i u, m.ob i = some u → io i ≠ p
theorem Loose.new (S : Sim T io F m H) (hp : H p = none) : Loose io F m p := by
  refine ⟨fun f => ?_, fun i u h e => ?_⟩
  · obtain ⟨z, e⟩ := S.fh p f; rw [hp] at e; cases e
  · obtain ⟨z, q⟩ := (S.ob i u h).some_; rw [e, hp] at q; cases q
theorem Loose.ne (L : Loose io F m p) {a : Addr} (f : F a) : a ≠ p := by rintro rfl; exact L.nf f
theorem Loose.ext {io' : Nat → Addr} {F' : Addr → Prop} {m' : Mem} {H' : Hp} (L : Loose io F m p) (E : Ext io F m H io' F' m' H') (hp : H p = some o) : Loose io' F' m' p ∧ H' p = some o := by
  refine ⟨⟨fun f => ?_, fun i u h e => ?_⟩, E.keep p o hp fun i u h e => L.nl i u h e.symm⟩
  · rcases E.newF p f with h | h | ⟨i, u, h, e⟩
    · exact L.nf h
    · rw [hp] at h; cases h
    · exact L.nl i u h e.symm
  · by_cases hi : i < m.nx
    · cases q : m.ob i with
      | none => rw [E.dead i hi q] at h; cases h
      | some z => rw [E.eio i hi] at e; exact L.nl i z q e
    · have := E.new i (Nat.le_of_not_lt hi) (E.lt i u h)
      rw [e, hp] at this; cases this
/-- it is changed -/
theorem Loose.put {o' : HO} (S : Sim T io F m H) (L : Loose io F m p) : Sim T io F m (upd H p o') := by
  have M : Mono T.K io F m.nx H io F m.nx (upd H p o') :=
    ⟨Nat.le_refl _, fun _ _ => rfl, fun _ h => h, fun a xs f h => by rw [upd_ne (L.ne f)]; exact h, fun a xs f h => by rw [upd_ne (L.ne f)]; exact h,
      fun a ob xs f h => by rw [upd_ne (L.ne f)]; exact h, fun a kvs f h => by unfold Rd; rw [upd_ne (L.ne f)]; exact h, fun a kvs f h => by unfold Rd; rw [upd_ne (L.ne f)]; exact h⟩
  refine ⟨S.inj, S.lt, S.nf, fun i u h => (S.ob i u h).mono M fun z e => by rw [upd_ne (L.nl i u h)]; exact e, fun a h => ?_⟩
  obtain ⟨z, e⟩ := S.fh a h
  exact ⟨z, by rw [upd_ne (L.ne h)]; exact e⟩
theorem Loose.mono {o' : HO} (L : Loose io F m p) : Mono T.K io F m.nx H io F m.nx (upd H p o') :=
  ⟨Nat.le_refl _, fun _ _ => rfl, fun _ h => h, fun a xs f h => by rw [upd_ne (L.ne f)]; exact h, fun a xs f h => by rw [upd_ne (L.ne f)]; exact h,
    fun a ob xs f h => by rw [upd_ne (L.ne f)]; exact h, fun a kvs f h => by unfold Rd; rw [upd_ne (L.ne f)]; exact h, fun a kvs f h => by unfold Rd; rw [upd_ne (L.ne f)]; exact h⟩
/-- behind all: p stays as it is from now on, or is a thing with a number -/
theorem Ext.loose {io' : Nat → Addr} {F' : Addr → Prop} {m' : Mem} {H' : Hp} (hp : H p = none) (E : Ext io F m (upd H p o) io' F' m' H') {o' : HO} : Ext io F m H io' F' m' (upd H' p o') := by
  refine ⟨E.nx, E.eio, E.eF, fun a z h hl => ?_, fun i h1 h2 => ?_, E.dead, E.lt, fun a z h => ?_, fun a h => ?_⟩
  · rw [upd_ne (ne_of_none h hp)]; exact E.keep a z (by rw [upd_ne (ne_of_none h hp)]; exact h) hl
  · have q := E.new i h1 h2
    cases z : H (io' i) with
    | none => rfl
    | some w =>
      rw [upd_ne (ne_of_none z hp), z] at q
      cases q
  · obtain ⟨w, q⟩ := E.there a z (by rw [upd_ne (ne_of_none h hp)]; exact h)
    exact ⟨w, by rw [upd_ne (ne_of_none h hp)]; exact q⟩
  · rcases E.newF a h with h | h | h
    · exact .inl h
    · refine .inr (.inl ?_)
      cases z : H a with
      | none => rfl
      | some w =>
        rw [upd_ne (ne_of_none z hp), z] at h
        cases h
    · exact .inr (.inr h)
theorem Sim.ownF (S : Sim T io F m H) (L : Loose io F m p) (hp : H p = some o) : Sim T io (orF F p) m H ∧ Mono T.K io F m.nx H io (orF F p) m.nx H := by
  have M : Mono T.K io F m.nx H io (orF F p) m.nx H :=
    ⟨Nat.le_refl _, fun _ _ => rfl, fun _ h => .inl h, fun _ _ _ h => h, fun _ _ _ h => h, fun _ _ _ _ h => h, fun _ _ _ h => h, fun _ _ _ h => h⟩
  refine ⟨⟨S.inj, S.lt, fun i u h => ?_, fun i u h => (S.ob i u h).mono M fun z e => e, fun a h => ?_⟩, M⟩
  · rintro (q | q)
    · exact S.nf i u h q
    · exact L.nl i u h q
  · rcases h with h | h
    · exact S.fh a h
    · subst h; exact ⟨o, hp⟩
theorem Ext.ownF {io' : Nat → Addr} {F' : Addr → Prop} {m' : Mem} {H' : Hp} (E : Ext io F m H io' F' m' H') (hp : H p = none) : Ext io F m H io' (orF F' p) m' H' :=
  ⟨E.nx, E.eio, fun a h => .inl (E.eF a h), E.keep, E.new, E.dead, E.lt, E.there, fun a h => h.elim (E.newF a) fun e => .inr (.inl (e ▸ hp))⟩
theorem Sim.ownO {u : Ob} (S : Sim T io F m H) (L : Loose io F m p) (hu : RelO T (ioN io m.nx p) F (m.nx + 1) H u p) : Sim T (ioN io m.nx p) F (m.add u) H ∧ Mono T.K io F m.nx H (ioN io m.nx p) F (m.nx + 1) H := by
  have M : Mono T.K io F m.nx H (ioN io m.nx p) F (m.nx + 1) H :=
    ⟨Nat.le_succ _, fun i h => ioN_lt h, fun _ h => h, fun _ _ _ h => h, fun _ _ _ h => h, fun _ _ _ _ h => h, fun _ _ _ h => h, fun _ _ _ h => h⟩
  have at_ : ∀ {i z}, (m.add u).ob i = some z → (i = m.nx ∧ z = u) ∨ (i ≠ m.nx ∧ m.ob i = some z ∧ i < m.nx) := fun {i z} h => by
    have h : (if i = m.nx then some u else m.ob i) = some z := h
    split at h
    · rename_i e; cases h; exact .inl ⟨e, rfl⟩
    · rename_i e; exact .inr ⟨e, h, S.lt i z h⟩
  refine ⟨⟨fun i j z w hi hj e => ?_, fun i z h => ?_, fun i z h => ?_, fun i z h => ?_, S.fh⟩, M⟩
  · rcases at_ hi with ⟨rfl, rfl⟩ | ⟨n1, h1, l1⟩
    · rcases at_ hj with ⟨rfl, rfl⟩ | ⟨n2, h2, l2⟩
      · rfl
      · rw [ioN_self, ioN_lt l2] at e; exact absurd e.symm (L.nl _ _ h2)
    · rcases at_ hj with ⟨rfl, rfl⟩ | ⟨n2, h2, l2⟩
      · rw [ioN_self, ioN_lt l1] at e; exact absurd e (L.nl _ _ h1)
      · rw [ioN_lt l1, ioN_lt l2] at e; exact S.inj i j z w h1 h2 e
  · rcases at_ h with ⟨rfl, rfl⟩ | ⟨n1, h1, l1⟩
    · exact Nat.lt_succ_self _
    · exact Nat.lt_succ_of_lt l1
  · rcases at_ h with ⟨rfl, rfl⟩ | ⟨n1, h1, l1⟩
    · rw [ioN_self]; exact L.nf
    · rw [ioN_lt l1]; exact S.nf i z h1
  · rcases at_ h with ⟨rfl, rfl⟩ | ⟨n1, h1, l1⟩
    · rw [ioN_self]; exact hu
    · rw [ioN_lt l1]
      exact (S.ob i z h1).mono M fun w e => e
theorem Ext.ownO {io' : Nat → Addr} {F' : Addr → Prop} {m' : Mem} {H' : Hp} {u : Ob} (E : Ext io F m H io' F' m' H') (hp : H p = none) : Ext io F m H (ioN io' m'.nx p) F' (m'.add u) H' :=
  ⟨Nat.le_succ_of_le E.nx, fun i h => (ioN_lt (Nat.lt_of_lt_of_le h E.nx)).trans (E.eio i h), E.eF, E.keep,
    fun i h1 h2 => by
      by_cases e : i = m'.nx
      · subst e; rw [ioN_self]; exact hp
      · have : i < m'.nx := Nat.lt_of_le_of_ne (Nat.le_of_lt_succ h2) e
        rw [ioN_lt this]; exact E.new i h1 this,
    fun i h q => by show (if i = m'.nx then _ else m'.ob i) = none; rw [if_neg (Nat.ne_of_lt (Nat.lt_of_lt_of_le h E.nx))]; exact E.dead i h q,
    fun i z h => by
      have h : (if i = m'.nx then some u else m'.ob i) = some z := h
      split at h
      · rename_i e; subst e; exact Nat.lt_succ_self _
      · exact Nat.lt_succ_of_lt (E.lt i z h), E.there, E.newF⟩
/-- what is new is forgotten -/
theorem Mem.back_ob {m : Mem} {n j : Nat} {z : Ob} (h : (m.back n).ob j = some z) : j < n ∧ m.ob j = some z := by
  have h : (if j < n then m.ob j else none) = some z := h
  split at h
  · rename_i e; exact ⟨e, h⟩
  · cases h
theorem Sim.back {n : Nat} (S : Sim T io F m H) : Sim T io F (m.back n) H ∧ Ext io F m H io F (m.back n) H := by
  have E : Ext io F m H io F (m.back n) H :=
    ⟨Nat.le_refl _, fun _ _ => rfl, fun _ h => h, fun a z h hl => h,
      fun i h1 h2 => absurd (Nat.lt_of_lt_of_le h2 h1) (Nat.lt_irrefl _),
      fun j h q => by show (if j < n then m.ob j else none) = none; rw [q]; split <;> rfl,
      fun j z h => S.lt j z (Mem.back_ob h).2, fun a z h => ⟨z, h⟩, fun a h => .inl h⟩
  exact ⟨⟨fun j k z w hj hk e => S.inj j k z w (Mem.back_ob hj).2 (Mem.back_ob hk).2 e, fun j z h => S.lt j z (Mem.back_ob h).2, fun j z h => S.nf j z (Mem.back_ob h).2,
    fun j z h => (S.ob j z (Mem.back_ob h).2).mono (S.mono E) fun w e => e, S.fh⟩, E⟩
end

/-! ### readings -/
abbrev RelT (α β : Type) := (Nat → Addr) → (Addr → Prop) → Nat → Hp → α → β → Prop
abbrev RD (T : Ct) : RelT D V := fun io F n H d v => RelD T.K io F n H d v
abbrev RDs (T : Ct) : RelT (List D) (List V) := fun io F n H d v => RelDs T.K io F n H d v
abbrev RB : RelT Bool Bool := fun _ _ _ _ a b => a = b
structure MonoR (T : Ct) {α β : Type} (R : RelT α β) : Prop where
  m : ∀ {io io' : Nat → Addr} {F F' : Addr → Prop} {n n' : Nat} {H H' : Hp} {a : α} {b : β}, Mono T.K io F n H io' F' n' H' → R io F n H a b → R io' F' n' H' a b
theorem monoD (T : Ct) : MonoR T (RD T) := ⟨fun M h => h.mono M⟩
theorem monoDs (T : Ct) : MonoR T (RDs T) := ⟨fun M h => h.mono M⟩
theorem monoB (T : Ct) : MonoR T RB := ⟨fun _ h => h⟩
/-- an error: its class's name, its fields -/
def ExR (T : Ct) (io : Nat → Addr) (F : Addr → Prop) (n : Nat) (H : Hp) (C : Str) (fs : List (Str × D)) (cls : Value) (d : Option Addr) : Prop :=
  ∃ Ca, T.mg C = some (.ref Ca) ∧ cls = .ref Ca ∧ ((fs = [] ∧ d = none) ∨ ∃ dx fs', d = some dx ∧ H dx = some (.xd fs') ∧ RelF T.K io F n H fs fs')
section
variable {α β γ δ : Type} {T : Ct}
def Post (R : RelT α β) (T : Ct) (W : Value → Option Addr → Hp → Prop) (io : Nat → Addr) (F : Addr → Prop) (m : Mem) (H : Hp) (r : Res α) (Q : β → Hp → Prop) : Prop := match r with
  | .ok a m' => ∀ io' F' H' b, Ext io F m H io' F' m' H' → Sim T io' F' m' H' → R io' F' m'.nx H' a b → Q b H'
  | .exc C fs m' => ∀ io' F' H' cls d, Ext io F m H io' F' m' H' → Sim T io' F' m' H' → ExR T io' F' m'.nx H' C fs cls d → W cls d H'
  | .bad => False
variable {R : RelT α β} {W : Value → Option Addr → Hp → Prop} {io io1 : Nat → Addr} {F F1 : Addr → Prop} {m m1 : Mem} {H H1 : Hp} {r : Res α} {Q Q' : β → Hp → Prop}
theorem Post.ext (h : Post R T W io F m H r Q) (E : Ext io F m H io1 F1 m1 H1) : Post R T W io1 F1 m1 H1 r Q := by
  cases r with
  | ok a m' => exact fun io' F' H' b E' => h io' F' H' b (E.trans E')
  | exc C fs m' => exact fun io' F' H' cls d E' => h io' F' H' cls d (E.trans E')
  | bad => exact h
theorem Post.imp (h : Post R T W io F m H r Q) (hQ : ∀ b H', Q b H' → Q' b H') : Post R T W io F m H r Q' := by
  cases r with
  | ok a m' => exact fun io' F' H' b E S q => hQ _ _ (h io' F' H' b E S q)
  | exc C fs m' => exact h
  | bad => exact h
/-- what comes first, what comes behind -/
theorem Post.bind {R' : RelT γ δ} {k : α → Mem → Res γ} {Q : δ → Hp → Prop} (S : Sim T io F m H) (h : Post R' T W io F m H (r.bind k) Q) :
    Post R T W io F m H r fun b H1 => ∃ io1 F1 m1 a, Ext io F m H io1 F1 m1 H1 ∧ Sim T io1 F1 m1 H1 ∧ R io1 F1 m1.nx H1 a b ∧ Post R' T W io1 F1 m1 H1 (k a m1) Q := by
  cases r with
  | ok a m' => exact fun io' F' H' b E S' q => ⟨io', F', m', a, E, S', q, h.ext E⟩
  | exc C fs m' => exact h
  | bad => exact h
/-- it is there at once -/
theorem Post.now {a : α} {b : β} (S : Sim T io F m H) (h : Post R T W io F m H (.ok a m) Q) (q : R io F m.nx H a b) : Q b H := h io F H b (Ext.refl S) S q

abbrev WT := Value → Option Addr → L2.St → Hp → Prop
abbrev W0 : WT := fun _ _ _ _ => False
/-- the reading of a computation -/
def tG (R : RelT α β) (T : Ct) (W : WT) (c : Slots → Mem → Res α) : L2.St → Hp → (β → Hp → Prop) → Prop := fun σ H Q =>
  ∃ io F m sd, Sim T io F m H ∧ RelSl T.K io F m.nx H sd σ ∧ Post R T (fun cls d H' => W cls d σ H') io F m H (c sd m) Q
/-- .. of what comes behind something that is known -/
def tK (R : RelT α β) (R' : RelT γ δ) (T : Ct) (W : WT) (k : α → Slots → Mem → Res γ) (b : β) : L2.St → Hp → (δ → Hp → Prop) → Prop := fun σ H Q =>
  ∃ io F m sd a, Sim T io F m H ∧ RelSl T.K io F m.nx H sd σ ∧ R io F m.nx H a b ∧ Post R' T (fun cls d H' => W cls d σ H') io F m H (k a sd m) Q
def prodR {α β γ δ : Type} (R : RelT α β) (R' : RelT γ δ) : RelT (α × γ) (β × δ) := fun io F n H a b => R io F n H a.1 b.1 ∧ R' io F n H a.2 b.2
theorem monoP {R : RelT α β} {R' : RelT γ δ} (h : MonoR T R) (h' : MonoR T R') : MonoR T (prodR R R') := ⟨fun M q => ⟨h.m M q.1, h'.m M q.2⟩⟩
abbrev ME := Slots → Mem → Res D
abbrev MA := Slots → Mem → Res (List D)
abbrev MT := Slots → Mem → Res Bool
abbrev tE (T : Ct) (W : WT) (c : ME) : TE := tG (RD T) T W c
abbrev tA (T : Ct) (W : WT) (c : MA) : TA := tG (RDs T) T W c
abbrev tT (T : Ct) (W : WT) (c : MT) : TT := tG RB T W c

theorem tG.bind {R' : RelT γ δ} {WW : WT} {c : Slots → Mem → Res α} {k : α → Slots → Mem → Res γ} {σ : L2.St} {Q : δ → Hp → Prop} (h : tG R' T WW (fun s m => (c s m).bind fun a m' => k a s m') σ H Q) :
    tG R T WW c σ H fun b H1 => tK R R' T WW k b σ H1 Q := by
  obtain ⟨io, F, m, sd, S, rs, p⟩ := h
  refine ⟨io, F, m, sd, S, rs, (Post.bind S p).imp fun b H1 ⟨io1, F1, m1, a, E, S1, q, p1⟩ => ?_⟩
  exact ⟨io1, F1, m1, sd, a, S1, rs.mono (S.mono E), q, p1⟩
theorem tK.bind {ε ζ : Type} {R0 : RelT ε ζ} {R' : RelT γ δ} {WW : WT} {c : Slots → Mem → Res α} {k : ε → α → Slots → Mem → Res γ} {σ : L2.St} {Q : δ → Hp → Prop} {b0 : ζ} (hm : MonoR T R0)
    (h : tK R0 R' T WW (fun e s m => (c s m).bind fun a m' => k e a s m') b0 σ H Q) :
    tG R T WW c σ H fun b H1 => tK (prodR R0 R) R' T WW (fun x => k x.1 x.2) (b0, b) σ H1 Q := by
  obtain ⟨io, F, m, sd, a0, S, rs, r0, p⟩ := h
  refine ⟨io, F, m, sd, S, rs, (Post.bind S p).imp fun b H1 ⟨io1, F1, m1, a, E, S1, q, p1⟩ => ?_⟩
  exact ⟨io1, F1, m1, sd, (a0, a), S1, rs.mono (S.mono E), ⟨hm.m (S.mono E) r0, q⟩, p1⟩
theorem tG.imp {WW : WT} {c : Slots → Mem → Res α} {σ : L2.St} (h : tG R T WW c σ H Q) (hQ : ∀ b H', Q b H' → Q' b H') : tG R T WW c σ H Q' := by
  obtain ⟨io, F, m, sd, S, rs, p⟩ := h
  exact ⟨io, F, m, sd, S, rs, p.imp hQ⟩
end
/-- another reading of the same -/
theorem pe_imp {X : Cx} {e : Expr} {t t' : TE} (h : PE X e t) (i : ∀ σ H Q, t' σ H Q → t σ H Q) : PE X e t' := ⟨fun pins s σ H Q I q => h.run pins s σ H Q I (i _ _ _ q)⟩
theorem pt_imp {X : Cx} {e : Expr} {t t' : TT} (h : PT X e t) (i : ∀ σ H Q, t' σ H Q → t σ H Q) : PT X e t' := ⟨fun pins s σ H Q I q => h.run pins s σ H Q I (i _ _ _ q)⟩
theorem pw_imp {X : Cx} {e : Expr} {t t' : TT} (h : PW X e t) (i : ∀ σ H Q, t' σ H Q → t σ H Q) : PW X e t' := ⟨fun wh pins s σ H Q I q => h.run wh pins s σ H Q I (i _ _ _ q)⟩
theorem pa_imp {X : Cx} {es : List Expr} {t t' : TA} (h : PA X es t) (i : ∀ σ H Q, t' σ H Q → t σ H Q) : PA X es t' := ⟨fun pos pins s σ H Q I q => h.run pos pins s σ H Q I (i _ _ _ q)⟩
end Ev

set_option Elab.async false
set_option linter.all false
set_option maxRecDepth 100000
set_option autoImplicit false
/-! Ev3: where one stands; defs by their computations; calls. -/
namespace Ev
open PySem PySem.Spec PyProof.Rows L2

abbrev ctOf (X : Cx) : Ct := ⟨X.K, X.mg⟩
/-- where one stands: no repr runs, room for k calls, errors go to W -/
structure Here (k : Nat) (W : WT) (X : Cx) : Prop where
  gd : X.A.guards = some []
  calm : X.calm = true
  nd : X.N.Nodup
  rm : Room k X.A
  po : PassesOwn (model X.prog X.w) X.A X.env X.xe
  tk : L2.Takes X W
theorem Here.blk {k : Nat} {W : WT} {X : Cx} (h : Here k W X) (s : Shared) (H : Hp) (scope : Scope) (cenv : Env) (fp : List Addr) : Here k W0 (X.blk s H scope cenv fp) :=
  ⟨h.gd, h.calm, h.nd, h.rm, PassesOwn.never, L2.takes0⟩
theorem Here.hu {k : Nat} {W : WT} {X : Cx} (h : Here k W X) : X.A.units + 65 < cLine := by have := h.rm.un; omega

/-- as FnOk, where no repr runs -/
structure FnG (P : Program) (w : World) (K : PySem.W.Frag) (mg : Str → Option Value) (base : Heap) (k : Nat) (f : Addr) (fd : FuncData) (ps : List Str) (sp : Sp) : Prop where
  len : ∀ vs H Q E, sp vs H Q E → vs.length = ps.length
  run : ∀ (A : Around) (outer : List Env) (s : Shared) (H : Hp) (args : Args) (us : List Value) (vs : List V) (Q : VK) (E : XK),
    A.guards = some [] → Room k A → Env0 P w K mg base A outer s H → BindsTo s fd args (ps.zip us) → Vals vs us → sp vs H Q E →
    codeAny (model P w) A (.call (.ref f) args) (CR (L2.CX P w) outer P w H s Q E) s
theorem FnG.mono {P : Program} {w : World} {K : PySem.W.Frag} {mg : Str → Option Value} {base : Heap} {j k : Nat} {f : Addr} {fd : FuncData} {ps : List Str} {sp : Sp} (F : FnG P w K mg base j f fd ps sp) (h : j ≤ k) :
    FnG P w K mg base k f fd ps sp := ⟨F.len, fun A outer s H args us vs Q E hg hr => F.run A outer s H args us vs Q E hg (hr.mono h)⟩
theorem FnG.imp {P : Program} {w : World} {K : PySem.W.Frag} {mg : Str → Option Value} {base : Heap} {k : Nat} {f : Addr} {fd : FuncData} {ps : List Str} {sp sp' : Sp} (F : FnG P w K mg base k f fd ps sp)
    (h : ∀ vs H Q E, sp' vs H Q E → sp vs H Q E) : FnG P w K mg base k f fd ps sp' :=
  ⟨fun vs H Q E q => F.len vs H Q E (h _ _ _ _ q), fun A outer s H args us vs Q E hg hr he hb hv hs => F.run A outer s H args us vs Q E hg hr he hb hv (h _ _ _ _ hs)⟩

/-- the promise of a def: it does what the computation g does -/
def spM (T : Ct) (n : Nat) (g : List D → Mem → Res D) : Sp := fun vs H Q E =>
  vs.length = n ∧ ∃ io F m ds, Sim T io F m H ∧ RelDs T.K io F m.nx H ds vs ∧ Post (RD T) T (fun cls d H' => E cls d H') io F m H (g ds m) Q
/-- another computation that tells the same wherever it tells -/
theorem spM.of {T : Ct} {n : Nat} {g g' : List D → Mem → Res D} (h : ∀ ds m, g' ds m ≠ .bad → g ds m = g' ds m) (vs : List V) (H : Hp) (Q : VK) (E : XK) (q : spM T n g' vs H Q E) : spM T n g vs H Q E := by
  obtain ⟨hl, io, F, m, ds, S, r, p⟩ := q
  refine ⟨hl, io, F, m, ds, S, r, ?_⟩
  rw [h ds m (fun e => by rw [e] at p; exact p)]
  exact p
theorem FnG.as {P : Program} {w : World} {T : Ct} {base : Heap} {k : Nat} {f : Addr} {fd : FuncData} {ps : List Str} {n : Nat} {g g' : List D → Mem → Res D} (F : FnG P w T.K T.mg base k f fd ps (spM T n g)) (h : ∀ ds m, g' ds m ≠ .bad → g ds m = g' ds m) :
    FnG P w T.K T.mg base k f fd ps (spM T n g') := F.imp fun vs H Q E q => spM.of h vs H Q E q

/-! ### what a statement comes to -/
inductive Out where
  | nx (s : Slots) (m : Mem)
  | bk (s : Slots) (m : Mem)
  | ct (s : Slots) (m : Mem)
  | rt (d : D) (m : Mem)
  | xc (C : Str) (fs : List (Str × D)) (s : Slots) (m : Mem)
  | bad
abbrev MS := Slots → Mem → Out
def PostS (T : Ct) (W : WT) (io : Nat → Addr) (F : Addr → Prop) (m : Mem) (H : Hp) (r : Out) (N : Ends) : Prop := match r with
  | .nx sd m' => ∀ io' F' H' σ', Ext io F m H io' F' m' H' → Sim T io' F' m' H' → RelSl T.K io' F' m'.nx H' sd σ' → N.nx σ' H'
  | .bk sd m' => ∀ io' F' H' σ', Ext io F m H io' F' m' H' → Sim T io' F' m' H' → RelSl T.K io' F' m'.nx H' sd σ' → N.bk σ' H'
  | .ct sd m' => ∀ io' F' H' σ', Ext io F m H io' F' m' H' → Sim T io' F' m' H' → RelSl T.K io' F' m'.nx H' sd σ' → N.ct σ' H'
  | .rt d m' => ∀ io' F' H' v, Ext io F m H io' F' m' H' → Sim T io' F' m' H' → RelD T.K io' F' m'.nx H' d v → N.rt v H'
  | .xc C fs sd m' => ∀ io' F' H' cls d σ', Ext io F m H io' F' m' H' → Sim T io' F' m' H' → ExR T io' F' m'.nx H' C fs cls d → RelSl T.K io' F' m'.nx H' sd σ' → W cls d σ' H'
  | .bad => False
def tS (T : Ct) (W : WT) (c : MS) : TS := fun N σ H => ∃ io F m sd, Sim T io F m H ∧ RelSl T.K io F m.nx H sd σ ∧ PostS T W io F m H (c sd m) N
theorem PostS.ext {T : Ct} {W : WT} {io io1 : Nat → Addr} {F F1 : Addr → Prop} {m m1 : Mem} {H H1 : Hp} {r : Out} {N : Ends} (h : PostS T W io F m H r N) (E : Ext io F m H io1 F1 m1 H1) : PostS T W io1 F1 m1 H1 r N := by
  cases r with
  | nx sd m' => exact fun io' F' H' b E' => h io' F' H' b (E.trans E')
  | bk sd m' => exact fun io' F' H' b E' => h io' F' H' b (E.trans E')
  | ct sd m' => exact fun io' F' H' b E' => h io' F' H' b (E.trans E')
  | rt sd m' => exact fun io' F' H' b E' => h io' F' H' b (E.trans E')
  | xc C fs sd m' => exact fun io' F' H' cls d σ' E' => h io' F' H' cls d σ' (E.trans E')
  | bad => exact h

/-- the slots at a def's entry -/
def entry (n : Nat) (ds : List D) : Slots := ds.map some ++ List.replicate (n - ds.length) none
theorem RelSl.entry {K : PySem.W.Frag} {io : Nat → Addr} {F : Addr → Prop} {n : Nat} {H : Hp} {N : List Str} {ds : List D} {vs : List V} (r : RelDs K io F n H ds vs) : RelSl K io F n H (entry N.length ds) (L2.start N vs) := by
  have hl := r.len
  refine ⟨?_, fun i d e => ?_⟩
  · unfold Ev.entry L2.start
    rw [List.length_append, List.length_append, List.length_map, List.length_map, List.length_replicate, List.length_replicate, hl]
  · unfold Ev.entry at e
    unfold L2.start
    by_cases hi : i < ds.length
    · rw [List.getElem?_append_left (by rw [List.length_map]; exact hi), List.getElem?_map] at e
      cases q : ds[i]? with
      | none => rw [q] at e; cases e
      | some z =>
        rw [q] at e; cases e
        obtain ⟨v, h1, h2⟩ := r.get q
        refine ⟨v, ?_, h2⟩
        rw [List.getElem?_append_left (by rw [List.length_map, ← hl]; exact hi), List.getElem?_map, h1]
        rfl
    · rw [List.getElem?_append_right (by rw [List.length_map]; omega), List.getElem?_replicate] at e
      split at e <;> cases e
/-- what a def tells, by its body -/
def body (np n : Nat) (c : MS) : List D → Mem → Res D := fun ds m => if ds.length = np then (match c (entry n ds) m with
  | .nx _ m' => .ok .non m'
  | .rt d m' => .ok d m'
  | .xc C fs _ m' => .exc C fs m'
  | _ => .bad) else .bad

section
variable {P : Program} {w : World} {K : PySem.W.Frag} {mg : Str → Option Value} {base : Heap}
/-- THE RULE for a def -/
theorem fnG_of {x qual : Str} {st : Stmt} {f : Addr} {fd : FuncData} {N ps : List Str} {k : Nat} {sp : Sp} (U : L2.Fun K x qual st f fd) (S : FnScope N ps (defScope st))
    (len : ∀ vs H Q E, sp vs H Q E → vs.length = ps.length)
    (hb : ∀ (cdv : Value) (A : Around) (outer : List Env) (s : Shared) (H : Hp) (vs : List V) (Q : VK) (E : XK),
      A.guards = some [] → Room k (A.deeper (envOfC qual (defScope st) s.heap.objs.size f cdv)) → sp vs H Q E →
      ∃ t, PSs (cxOf (L2.CX P w) P w K mg base N qual (defScope st) f cdv A outer s H E) (defBody st) t ∧ t { nx := fun _ H' => Q .non H', rt := Q } (L2.start N vs) H) :
    FnG P w K mg base (k + 1) f fd ps sp := by
  obtain ⟨oc, od, kV, doc, pm, an, cdv, ct, osl, rfl, lk, hcd⟩ := U.ex
  refine ⟨len, fun A outer s H args us vs Q E hgd hr e0 hbd r hsp => ?_⟩
  have hl := len _ _ _ _ hsp
  have KX : K.In s.heap := e0.mod.kin.keeps fun b o e => (e0.bs b o e).1
  have lim : s.heap.NoLimit := e0.mod.nolimit.keeps
    fun b o e => (e0.bs b o e).1
  have hkind : ∀ y ∈ ps.zip us, (defScope st).names.lookup y.1 = some .local ∨
      ((defScope st).names.lookup y.1 = some .cell ∧ ((cellsFrom (s.heap.objs.size + 1) (defScope st).names []).lookup y.1).isSome = true) := by
    rintro ⟨n, v⟩ hy
    rcases S.par n (List.of_mem_zip hy).1 with q | q
    · exact .inl q
    · exact .inr ⟨q, PySem.W.cellsFrom_some _ _ _ (.inl q)⟩
  refine codeAny_call_function hr.depth (KX _ _ lk) rfl S.co S.gen rfl (PySem.W.codeRec_of KX hcd) (hbd _ _ _ _ ?_)
  refine wpAny_newFunctionEnv_cells S.kind hkind fun env he s1 x => ?_
  subst he
  refine ⟨lim.keeps x.toInCall.keep, codeAny_func ?_⟩
  obtain ⟨t, ht, hq⟩ := hb cdv A outer s H vs Q E hgd (hr.deeper _) hsp
  have I := inv_start (CX := L2.CX P w) (P := P) (w := w) (K := K) (mg := mg) (base := base) (E := E)
    S hr.hd e0 hl r x
  refine wpAny_mono (ht.run [] s1 (L2.start N vs) H _ I hq) (fun fl s' hs => ?_) fun e s' hs => hs
  cases fl with
  | ret u => obtain ⟨v, σ', H', J, rv, q⟩ := hs; exact ⟨v, H', J.os, J.bare, J.base, J.hok, rv, q⟩
  | next => obtain ⟨σ', H', J, q⟩ := hs; exact ⟨V.non, H', J.os, J.bare, J.base, J.hok, rfl, q⟩
  | brk => obtain ⟨_, _, _, q⟩ := hs; exact q.elim
  | cont => obtain ⟨_, _, _, q⟩ := hs; exact q.elim
end

/-! ### calls -/
def mNil : MA := fun _ m => .ok [] m
def mCons (a : ME) (r : MA) : MA := fun s m => (a s m).bind fun d m1 => (r s m1).bind fun ds m2 => .ok (d :: ds) m2
def mCall (g : List D → Mem → Res D) (a : MA) : ME := fun s m => (a s m).bind g
/-- what is known of a def at a call -/
structure DefG (P : Program) (w : World) (K : PySem.W.Frag) (mg : Str → Option Value) (base : Heap) (k : Nat) (x : Str) (n : Nat) (g : List D → Mem → Res D) : Prop where
  ex : ∃ (f : Addr) (fd : FuncData) (ps : List Str), FnG P w K mg base k f fd ps (spM ⟨K, mg⟩ n g) ∧ mg x = some (.ref f) ∧ PySem.W.keepIn K (.ref f) = true ∧ Binds K fd ps []
  ar : ∀ ds m, ds.length ≠ n → g ds m = .bad
abbrev DefOk (X : Cx) (k : Nat) (x : Str) (n : Nat) (g : List D → Mem → Res D) : Prop := DefG X.prog X.w X.K X.mg X.base k x n g
theorem DefG.mono {P : Program} {w : World} {K : PySem.W.Frag} {mg : Str → Option Value} {base : Heap} {j k : Nat} {x : Str} {n : Nat} {g : List D → Mem → Res D} (d : DefG P w K mg base j x n g) (h : j ≤ k) : DefG P w K mg base k x n g := by
  obtain ⟨f, fd, ps, h1, h2⟩ := d.ex
  exact ⟨⟨f, fd, ps, h1.mono h, h2⟩, d.ar⟩
/-- another computation that tells the same wherever it tells -/
theorem DefG.as {P : Program} {w : World} {K : PySem.W.Frag} {mg : Str → Option Value} {base : Heap} {k : Nat} {x : Str} {n : Nat} {g g' : List D → Mem → Res D} (d : DefG P w K mg base k x n g) (h : ∀ ds m, g' ds m ≠ .bad → g ds m = g' ds m) : DefG P w K mg base k x n g' := by
  obtain ⟨f, fd, ps, h1, h2⟩ := d.ex
  refine ⟨⟨f, fd, ps, FnG.as (T := ⟨K, mg⟩) h1 h, h2⟩, fun ds m hn => ?_⟩
  cases q : g' ds m with
  | bad => rfl
  | ok a m' =>
    have := h ds m (by rw [q]; exact fun z => by cases z)
    rw [d.ar ds m hn, q] at this
    cases this
  | exc C fs m' =>
    have := h ds m (by rw [q]; exact fun z => by cases z)
    rw [d.ar ds m hn, q] at this
    cases this
/-- a def as it stands behind the top -/
structure DefAt (K : PySem.W.Frag) (mg : Str → Option Value) (x : Str) (st : Stmt) (ps : List Str) (f : Addr) (fd : FuncData) : Prop where
  U : L2.Fun K x x st f fd
  mg_ : mg x = some (.ref f)
  bd : ∀ us : List Value, us.length = ps.length → bindArgs fd ⟨us, []⟩ = pure (ps.zip us)
theorem defAt_mk {K : PySem.W.Frag} {mg : Str → Option Value} {h : Heap} (X : K.In h) (G : h.Ns mainGlobals mg) {x : Str} {st : Stmt} {ps : List Str} {f : Addr} {oc : Value} {od an : Option Addr} {sl : Array (Option Value)} {kV dc pm cd ct : Value}
    (a : PySem.W.nsIn K mainGlobals x = some (some (.ref f))) (l : K.lookup f = some ⟨oc, od, .func (PySem.W.fnOf x x (defArgs st) (defBody st) (defScope st) .none kV dc pm an cd ct), sl⟩) (c : PySem.W.codeIn K cd x = true) (kk : PySem.W.keepIn K (.ref f) = true)
    (hb : ∀ (kV doc pm : Value) (an : Option Addr) (cdv ct : Value) (us : List Value), us.length = ps.length → bindArgs (PySem.W.fnOf x x (defArgs st) (defBody st) (defScope st) .none kV doc pm an cdv ct) ⟨us, []⟩ = pure (ps.zip us)) :
    DefAt K mg x st ps f (PySem.W.fnOf x x (defArgs st) (defBody st) (defScope st) .none kV dc pm an cd ct) :=
  ⟨fun_mk l c kk, PySem.W.mg_of X G a, hb _ _ _ _ _ _⟩
section
variable {P : Program} {w : World} {K : PySem.W.Frag} {mg : Str → Option Value} {base : Heap}
/-- a def by the computation of its body -/
theorem fn_bodyX {x qual : Str} {st : Stmt} {f : Addr} {fd : FuncData} {N ps : List Str} {k : Nat} {c : MS} (U : L2.Fun K x qual st f fd) (S : FnScope N ps (defScope st))
    (hb : ∀ (cdv : Value) (A : Around) (outer : List Env) (s : Shared) (H : Hp) (E : XK), Here k (fun cls d _ H => E cls d H) (cxOf (L2.CX P w) P w K mg base N qual (defScope st) f cdv A outer s H E) →
      PSs (cxOf (L2.CX P w) P w K mg base N qual (defScope st) f cdv A outer s H E) (defBody st) (tS ⟨K, mg⟩ (fun cls d _ H => E cls d H) c)) :
    FnG P w K mg base (k + 1) f fd ps (spM ⟨K, mg⟩ ps.length (body ps.length N.length c)) := by
  refine fnG_of U S (fun vs H Q E q => q.1) fun cdv A outer s H vs Q E hgd hr q => ?_
  have hh : Here k (fun cls d _ H => E cls d H) (cxOf (L2.CX P w) P w K mg base N qual (defScope st) f cdv A outer s H E) :=
    ⟨hgd, rfl, S.nd, hr, L2.passes_of rfl, L2.takes_of rfl rfl rfl rfl⟩
  refine ⟨_, hb _ _ _ _ _ _ hh, ?_⟩
  obtain ⟨_, io, F, m, ds, Si, r, p⟩ := q
  refine ⟨io, F, m, entry N.length ds, Si, RelSl.entry r, ?_⟩
  unfold body at p
  split at p
  · cases e : c (entry N.length ds) m with
    | nx sd m' =>
      rw [e] at p
      exact fun io' F' H' σ' E' S' _ => p io' F' H' .non E' S' (by simp only [RD, RelD])
    | rt d m' =>
      rw [e] at p
      exact p
    | xc C fs sd m' =>
      rw [e] at p
      exact fun io' F' H' cls d σ' E' S' x _ => p io' F' H' cls d E' S' x
    | bk sd m' => rw [e] at p; exact p.elim
    | ct sd m' => rw [e] at p; exact p.elim
    | bad => rw [e] at p; exact p.elim
  · exact p.elim
theorem fn_body {x : Str} {st : Stmt} {f : Addr} {fd : FuncData} {N ps : List Str} {k : Nat} {c : MS} (A : DefAt K mg x st ps f fd) (S : FnScope N ps (defScope st))
    (hb : ∀ (cdv : Value) (A : Around) (outer : List Env) (s : Shared) (H : Hp) (E : XK), Here k (fun cls d _ H => E cls d H) (cxOf (L2.CX P w) P w K mg base N x (defScope st) f cdv A outer s H E) →
      PSs (cxOf (L2.CX P w) P w K mg base N x (defScope st) f cdv A outer s H E) (defBody st) (tS ⟨K, mg⟩ (fun cls d _ H => E cls d H) c)) :
    DefG P w K mg base (k + 1) x ps.length (body ps.length N.length c) :=
  ⟨⟨f, fd, ps, fn_bodyX A.U S hb, A.mg_, A.U.kp, .all A.bd⟩, fun ds m h => if_neg h⟩
end
section
variable {X : Cx} {k : Nat} {W : WT} {x : Str} {p pos : Pos} {e : Expr} {es : List Expr} {n : Nat} {g : List D → Mem → Res D} {ca : ME} {cr : MA}
theorem d_nil : PA X [] (tA (ctOf X) W mNil) := pa_imp pa_nil fun σ H Q h => by
  obtain ⟨io, F, m, sd, S, rs, p⟩ := h
  exact p.now S (by simp only [RDs, RelDs])
theorem d_cons (ha : PE X e (tE (ctOf X) W ca)) (hr : PA X es (tA (ctOf X) W cr)) (hs : starEach (e :: es) X.env = (false, eval e X.env) :: starEach es X.env := by rfl) : PA X (e :: es) (tA (ctOf X) W (mCons ca cr)) :=
  pa_imp (pa_cons ha hr hs) fun σ H Q h => by
    have h1 := tG.bind (R := RD (ctOf X)) (c := ca) (k := fun d s m => (cr s m).bind fun ds m2 => .ok (d :: ds) m2) h
    refine h1.imp fun v H1 h2 => ?_
    have h3 := tK.bind (R := RDs (ctOf X)) (monoD _) h2
    refine h3.imp fun vs H2 h4 => ?_
    obtain ⟨io, F, m, sd, ⟨d, ds⟩, S, rs, ⟨r1, r2⟩, p⟩ := h4
    exact p.now S (by simp only [RDs, RelDs]; exact ⟨r1, r2⟩)
/-- the callee runs -/
theorem runG {k : Nat} {f : Addr} {fd : FuncData} {ps : List Str} {sp : Sp} {E : L2.St → XK} {pins : List (Addr × Obj)} {σ : L2.St} {H : Hp} {s : Shared} {Q : VK} {us : List Value} {vs : List V} (F : FnG X.prog X.w X.K X.mg X.base k f fd ps sp) (hh : Here k W X) (hb : Binds X.K fd ps [])
    (hx : PassesAt (L2.CX X.prog X.w) X σ (E σ)) (I : L2.Inv X pins σ H s) (r : Vals vs us) (h : sp vs H Q (E σ)) : wpAny (model X.prog X.w) X.A (call (.ref f) us) (EP X pins σ Q) X.xe s := by
  have hl : us.length = ps.length := by rw [← r.length]; exact F.len _ _ _ _ h
  have hbd := hb s us I.kIn (by rw [List.append_nil]; exact hl)
  rw [List.append_nil] at hbd
  refine wpAny_call (codeAny_mono (F.run X.A X.stack s H ⟨us, []⟩ us vs Q (E σ) hh.gd hh.rm I.env0 hbd r h) fun rr s' hq => ?_)
  cases rr with
  | error e => exact hx pins H s e s' I hq
  | ok fl =>
    cases fl with
    | ret u => exact I.after hq
    | next => exact hq.elim
    | brk => exact hq.elim
    | cont => exact hq.elim
theorem spM_call {σ : L2.St} {H : Hp} {Q : VK} {vs : List V} (ar : ∀ ds m, ds.length ≠ n → g ds m = .bad) (h : tK (RDs (ctOf X)) (RD (ctOf X)) (ctOf X) W (fun ds _ m => g ds m) vs σ H Q) : spM (ctOf X) n g vs H Q (WE W σ) := by
  obtain ⟨io, F, m, sd, ds, S, rs, r, p⟩ := h
  refine ⟨?_, io, F, m, ds, S, r, p⟩
  rw [← r.len]
  exact Decidable.byContradiction fun q => by
    have p : Post (RD (ctOf X)) (ctOf X) (fun cls d H' => W cls d σ H') io F m H (g ds m) Q := p
    rw [ar ds m q] at p; exact p
/-- f(e, ..) -/
theorem d_call (hh : Here k W X) (D : DefOk X k x n g) (hg : Gl X x) (ha : PA X (e :: es) (tA (ctOf X) W cr)) (hdb : (x == ("__debug__" : Str)) = false := by decide)
    (he : starEach (e :: es) X.env = (false, eval e X.env) :: starEach es X.env := by rfl) (hpl : (backTo pos (starEach es X.env)).any (·.1) = false := by rfl) :
    PE X (.Call (.Name x p) (e :: es) [] pos) (tE (ctOf X) W (mCall g cr)) := by
  obtain ⟨f, fd, ps, FF, hm, hk, hb⟩ := D.ex
  refine ⟨fun pins s σ H Q I h => ?_⟩
  refine wpAny_Call_Name_kw (ld_glob I hg hm ?_ hdb)
  have h1 : tA (ctOf X) W cr σ H fun vs H1 => spM (ctOf X) n g vs H1 Q (WE W σ) := by
    refine (tG.bind (R := RDs (ctOf X)) (c := cr) (k := fun ds _ m => g ds m) h).imp fun vs H1 h2 => ?_
    exact spM_call D.ar h2
  refine PySem.W.callWith_K (h₀ := X.base) I.ok.mod.kin hk (thn (ha.run pos pins s σ H _ I h1) fun us s1 ⟨vs, H1, I1, r, q⟩ => ⟨I1.kIn, ?_⟩) he hpl
  exact runG (E := WE W) FF hh hb (passAt hh.tk σ) I1 r q
/-- f() -/
theorem d_call0 (hh : Here k W X) (D : DefOk X k x 0 g) (hg : Gl X x) (hdb : (x == ("__debug__" : Str)) = false := by decide) :
    PE X (.Call (.Name x p) [] [] pos) (tE (ctOf X) W (mCall g mNil)) := by
  obtain ⟨f, fd, ps, FF, hm, hk, hb⟩ := D.ex
  refine ⟨fun pins s σ H Q I h => ?_⟩
  refine wpAny_Call_Name_kw (ld_glob I hg hm ?_ hdb)
  obtain ⟨io, F, m, sd, S, rs, p⟩ := h
  refine PySem.W.callWith_K0 I.kIn hk (runG (E := WE W) (us := []) (vs := []) FF hh hb (passAt hh.tk σ) I .nil ?_)
  exact ⟨rfl, io, F, m, [], S, by simp only [RelDs], p⟩
end
end Ev

set_option Elab.async false
set_option linter.all false
set_option maxRecDepth 100000
set_option autoImplicit false
/-! Ev4: operators by values. -/
namespace Ev
open PySem PySem.Spec PyProof.Rows L2

/-- what stands at a number is looked at -/
def viewO (i : Nat) : Option Ob → D
  | some (.lst ds) => .lst ds
  | some (.dk ks ds) => .dk ks ds
  | some (.dt ks ds) => .dt ks ds
  | _ => .ref i
def view (m : Mem) (d : D) : D := match d with
  | .ref i => viewO i (m.ob i)
  | d => d
theorem view_ref (m : Mem) (i : Nat) : view m (.ref i) = viewO i (m.ob i) := rfl
@[simp] theorem view_non (m : Mem) : view m .non = .non := rfl
@[simp] theorem view_bl (m : Mem) (b : Bool) : view m (.bl b) = .bl b := rfl
@[simp] theorem view_int (m : Mem) (i : Int) : view m (.int i) = .int i := rfl
@[simp] theorem view_str (m : Mem) (s : Str) : view m (.str s) = .str s := rfl
@[simp] theorem view_tup (m : Mem) (ds : List D) : view m (.tup ds) = .tup ds := rfl
@[simp] theorem view_lst (m : Mem) (ds : List D) : view m (.lst ds) = .lst ds := rfl
@[simp] theorem view_scr (m : Mem) (ns : List Int) : view m (.scr ns) = .scr ns := rfl
@[simp] theorem view_dk (m : Mem) (ks : List Key) (ds : List D) : view m (.dk ks ds) = .dk ks ds := rfl
@[simp] theorem view_dt (m : Mem) (ks : List (List Key)) (ds : List D) : view m (.dt ks ds) = .dt ks ds := rfl
section
variable {T : Ct} {io : Nat → Addr} {F : Addr → Prop} {m : Mem} {H : Hp} {d : D} {v : V}
abbrev Any : Addr → Prop := fun _ => True
theorem monoAny (K : PySem.W.Frag) (io : Nat → Addr) (F : Addr → Prop) (n : Nat) (H : Hp) : Mono K io F n H io Any n H :=
  ⟨Nat.le_refl _, fun _ _ => rfl, fun _ _ => trivial, fun _ _ _ h => h, fun _ _ _ h => h, fun _ _ _ _ h => h, fun _ _ _ h => h, fun _ _ _ h => h⟩
/-- a list, whether it may change or not -/
theorem at_lst (S : Sim T io F m H) (r : RelD T.K io F m.nx H d v) {ds : List D} (e : view m d = .lst ds) : ∃ a xs, v = .ref a ∧ H a = some (.lst xs) ∧ RelDs T.K io F m.nx H ds xs := by
  cases d with
  | lst es =>
    simp only [view_lst, D.lst.injEq] at e; subst e
    simp only [RelD] at r
    obtain ⟨a, xs, e, f, t, q⟩ := r
    exact ⟨a, xs, e, t, q⟩
  | ref i =>
    simp only [RelD] at r
    rw [view_ref] at e
    cases q : m.ob i with
    | none => rw [q] at e; cases e
    | some u =>
      rw [q] at e
      cases u with
      | lst es =>
        cases e
        obtain ⟨xs, h1, h2⟩ := S.ob i _ q
        exact ⟨_, xs, r.2, h1, h2⟩
      | dk _ _ => cases e
      | dt _ _ => cases e
      | ins _ _ => cases e
  | non => cases e
  | bl _ => cases e
  | int _ => cases e
  | str _ => cases e
  | tup _ => cases e
  | scr _ => cases e
  | dk _ _ => cases e
  | dt _ _ => cases e
theorem at_dk (S : Sim T io F m H) (r : RelD T.K io F m.nx H d v) {ks : List Key} {ds : List D} (e : view m d = .dk ks ds) : ∃ a kvs, v = .ref a ∧ Rd H a (.dK kvs) ∧ kvs.map (·.1) = ks ∧ RelDs T.K io F m.nx H ds (kvs.map (·.2)) := by
  cases d with
  | dk ks' es =>
    simp only [view_dk, D.dk.injEq] at e; obtain ⟨rfl, rfl⟩ := e
    simp only [RelD] at r
    obtain ⟨a, xs, e, f, t, q⟩ := r
    exact ⟨a, xs, e, t, q⟩
  | ref i =>
    simp only [RelD] at r
    rw [view_ref] at e
    cases q : m.ob i with
    | none => rw [q] at e; cases e
    | some u =>
      rw [q] at e
      cases u with
      | dk ks' es =>
        cases e
        obtain ⟨xs, h1, h2⟩ := S.ob i _ q
        exact ⟨_, xs, r.2, .inl h1, h2⟩
      | lst _ => cases e
      | dt _ _ => cases e
      | ins _ _ => cases e
  | non => cases e
  | bl _ => cases e
  | int _ => cases e
  | str _ => cases e
  | tup _ => cases e
  | lst _ => cases e
  | scr _ => cases e
  | dt _ _ => cases e
theorem at_dt (S : Sim T io F m H) (r : RelD T.K io F m.nx H d v) {ks : List (List Key)} {ds : List D} (e : view m d = .dt ks ds) : ∃ a kvs, v = .ref a ∧ Rd H a (.dT kvs) ∧ kvs.map (·.1) = ks ∧ RelDs T.K io F m.nx H ds (kvs.map (·.2)) := by
  cases d with
  | dt ks' es =>
    simp only [view_dt, D.dt.injEq] at e; obtain ⟨rfl, rfl⟩ := e
    simp only [RelD] at r
    obtain ⟨a, xs, e, f, t, q⟩ := r
    exact ⟨a, xs, e, t, q⟩
  | ref i =>
    simp only [RelD] at r
    rw [view_ref] at e
    cases q : m.ob i with
    | none => rw [q] at e; cases e
    | some u =>
      rw [q] at e
      cases u with
      | dt ks' es =>
        cases e
        obtain ⟨xs, h1, h2⟩ := S.ob i _ q
        exact ⟨_, xs, r.2, .inl h1, h2⟩
      | lst _ => cases e
      | dk _ _ => cases e
      | ins _ _ => cases e
  | non => cases e
  | bl _ => cases e
  | int _ => cases e
  | str _ => cases e
  | tup _ => cases e
  | lst _ => cases e
  | scr _ => cases e
  | dk _ _ => cases e
/-- what has no number is itself -/
theorem view_inv {e : D} (h : view m d = e) : (∃ i, d = .ref i) ∨ d = e := by
  cases d with
  | ref i => exact .inl ⟨i, rfl⟩
  | non => exact .inr h
  | bl _ => exact .inr h
  | int _ => exact .inr h
  | str _ => exact .inr h
  | tup _ => exact .inr h
  | lst _ => exact .inr h
  | scr _ => exact .inr h
  | dk _ _ => exact .inr h
  | dt _ _ => exact .inr h
theorem view_ref_ne {i : Nat} {e : D} (h : view m (.ref i) = e) : (∃ ds, e = .lst ds) ∨ (∃ ks ds, e = .dk ks ds) ∨ (∃ ks ds, e = .dt ks ds) ∨ e = .ref i := by
  rw [view_ref] at h
  cases q : m.ob i with
  | none => rw [q] at h; exact .inr (.inr (.inr h.symm))
  | some u =>
    rw [q] at h
    cases u with
    | lst ds => exact .inl ⟨ds, h.symm⟩
    | dk ks ds => exact .inr (.inl ⟨ks, ds, h.symm⟩)
    | dt ks ds => exact .inr (.inr (.inl ⟨ks, ds, h.symm⟩))
    | ins _ _ => exact .inr (.inr (.inr h.symm))
theorem at_int (e : ∃ i, view m d = .int i) : ∃ i, d = .int i ∧ view m d = .int i := by
  obtain ⟨i, e⟩ := e
  rcases view_inv e with ⟨j, rfl⟩ | rfl
  · rcases view_ref_ne e with ⟨_, z⟩ | ⟨_, _, z⟩ | ⟨_, _, z⟩ | z <;> cases z
  · exact ⟨i, rfl, rfl⟩
theorem is_int {i : Int} (r : RelD T.K io F m.nx H d v) (e : view m d = .int i) : v = .int i := by
  rcases view_inv e with ⟨j, rfl⟩ | rfl
  · rcases view_ref_ne e with ⟨_, z⟩ | ⟨_, _, z⟩ | ⟨_, _, z⟩ | z <;> cases z
  · simpa only [RelD] using r
theorem is_bl {b : Bool} (r : RelD T.K io F m.nx H d v) (e : view m d = .bl b) : v = .bl b := by
  rcases view_inv e with ⟨j, rfl⟩ | rfl
  · rcases view_ref_ne e with ⟨_, z⟩ | ⟨_, _, z⟩ | ⟨_, _, z⟩ | z <;> cases z
  · simpa only [RelD] using r
theorem is_str {s : Str} (r : RelD T.K io F m.nx H d v) (e : view m d = .str s) : v = .str s := by
  rcases view_inv e with ⟨j, rfl⟩ | rfl
  · rcases view_ref_ne e with ⟨_, z⟩ | ⟨_, _, z⟩ | ⟨_, _, z⟩ | z <;> cases z
  · simpa only [RelD] using r
theorem is_tup {ds : List D} (r : RelD T.K io F m.nx H d v) (e : view m d = .tup ds) : ∃ a xs, v = .ref a ∧ TupF T.K F H a xs ∧ RelDs T.K io F m.nx H ds xs := by
  rcases view_inv e with ⟨j, rfl⟩ | rfl
  · rcases view_ref_ne e with ⟨_, z⟩ | ⟨_, _, z⟩ | ⟨_, _, z⟩ | z <;> cases z
  · simpa only [RelD] using r
theorem is_scr {ns : List Int} (r : RelD T.K io F m.nx H d v) (e : view m d = .scr ns) : ∃ a, v = .ref a ∧ ScrF T.K F H a ns := by
  rcases view_inv e with ⟨j, rfl⟩ | rfl
  · rcases view_ref_ne e with ⟨_, z⟩ | ⟨_, _, z⟩ | ⟨_, _, z⟩ | z <;> cases z
  · simpa only [RelD] using r
/-- behind an operator: the same memory -/
def Then (T : Ct) (io : Nat → Addr) (F : Addr → Prop) (m : Mem) (H : Hp) (z : D) (Q : VK) : Prop :=
  ∀ io' F' H' v, Ext io F m H io' F' m H' → Sim T io' F' m H' → RelD T.K io' F' m.nx H' z v → Q v H'
theorem Then.now {z : D} {Q : VK} (k : Then T io F m H z Q) (S : Sim T io F m H) {v : V} (r : RelD T.K io F m.nx H z v) : Q v H := k io F H v (Ext.refl S) S r
/-- a new thing at p that stays -/
theorem Then.new {z : D} {Q : VK} (k : Then T io F m H z Q) (S : Sim T io F m H) {p : Addr} {o : HO} (hp : H p = none) (r : RelD T.K io (orF F p) m.nx (upd H p o) z (.ref p)) : Q (.ref p) (upd H p o) :=
  k _ _ _ _ (Ext.addF S hp) (S.newF hp) r
theorem Then.newT {ds : List D} {xs : List V} {Q : VK} (k : Then T io F m H (.tup ds) Q) (S : Sim T io F m H) {p : Addr} (hp : H p = none) (r : RelDs T.K io F m.nx H ds xs) : Q (.ref p) (upd H p (.tup xs)) :=
  k.new S hp (by
    simp only [RelD]
    exact ⟨p, xs, rfl, .inl ⟨.inr rfl, upd_same⟩, r.mono (S.mono (Ext.addF S hp))⟩)
theorem Then.newL {ds : List D} {xs : List V} {Q : VK} (k : Then T io F m H (.lst ds) Q) (S : Sim T io F m H) {p : Addr} (hp : H p = none) (r : RelDs T.K io F m.nx H ds xs) : Q (.ref p) (upd H p (.lst xs)) :=
  k.new S hp (by
    simp only [RelD]
    exact ⟨p, xs, rfl, .inr rfl, upd_same, r.mono (S.mono (Ext.addF S hp))⟩)
theorem Then.newK {ks : List Key} {ds : List D} {kvs : List (Key × V)} {Q : VK} (k : Then T io F m H (.dk ks ds) Q) (S : Sim T io F m H) {p : Addr} (hp : H p = none) (hk : kvs.map (·.1) = ks) (r : RelDs T.K io F m.nx H ds (kvs.map (·.2))) : Q (.ref p) (upd H p (.dK kvs)) :=
  k.new S hp (by
    simp only [RelD]
    exact ⟨p, kvs, rfl, .inr rfl, .inl upd_same, hk, r.mono (S.mono (Ext.addF S hp))⟩)
theorem Post.of_ {W : Value → Option Addr → Hp → Prop} {o : Option D} {Q : VK} (h : Post (RD T) T W io F m H (Res.of o m) Q) : ∃ z, o = some z ∧ Then T io F m H z Q := by
  cases o with
  | none => exact h.elim
  | some z => exact ⟨z, rfl, h⟩
end

/-! ### two operands -/
abbrev O2 := D → D → Mem → Option D
/-- what an operator asks, by a function of values -/
def rD (T : Ct) (f : O2) : R2 := fun x y H Q => ∃ io F m d e, Sim T io F m H ∧ RelD T.K io F m.nx H d x ∧ RelD T.K io F m.nx H e y ∧ ∃ z, f d e m = some z ∧ Then T io F m H z Q
def mOp (f : O2) (a b : ME) : ME := fun s m => (a s m).bind fun x m1 => (b s m1).bind fun y m2 => Res.of (f x y m2) m2
section
variable {X : Cx} {W : WT} {f : O2} {ca cb : ME}
theorem tOp_of {σ : L2.St} {H : Hp} {Q : VK} (h : tE (ctOf X) W (mOp f ca cb) σ H Q) : tOp (rD (ctOf X) f) (tE (ctOf X) W ca) (tE (ctOf X) W cb) σ H Q := by
  have h1 := tG.bind (R := RD (ctOf X)) (c := ca) (k := fun x s m1 => (cb s m1).bind fun y m2 => Res.of (f x y m2) m2) h
  refine h1.imp fun x H1 h2 => ?_
  refine (tK.bind (R := RD (ctOf X)) (monoD _) h2).imp fun y H2 h3 => ?_
  obtain ⟨io, F, m, sd, ⟨d, e⟩, S, rs, ⟨r1, r2⟩, p⟩ := h3
  obtain ⟨z, hz, k⟩ := p.of_
  exact ⟨io, F, m, d, e, S, r1, r2, z, hz, k⟩
variable {op : Operator} {a b : Expr} {pos : Pos}
theorem d_bin (hop : OpR X (binaryOp op) (rD (ctOf X) f)) (ha : PE X a (tE (ctOf X) W ca)) (hb : PE X b (tE (ctOf X) W cb)) : PE X (.BinOp a op b pos) (tE (ctOf X) W (mOp f ca cb)) :=
  pe_imp (pe_op hop ha hb) fun σ H Q h => tOp_of h
theorem d_cmp {op : CmpOp} (hop : OpR X (compareOp op) (rD (ctOf X) f)) (ha : PE X a (tE (ctOf X) W ca)) (hb : PE X b (tE (ctOf X) W cb)) (hm : behindInMarks op b = false := by first | exact nomark _ | rfl) :
    PE X (.Compare a [op] [b] pos) (tE (ctOf X) W (mOp f ca cb)) := pe_imp (pe_cmpR hop ha hb hm) fun σ H Q h => tOp_of h

def opAdd : O2 := fun x y m => match view m x, view m y with
  | .int i, .int j => some (.int (i + j))
  | .str s, .str t => if s.length + t.length ≤ sizeLine then some (.str (s ++ t)) else none
  | .tup a, .tup b => if a.length + b.length ≤ sizeLine then some (.tup (a ++ b)) else none
  | .lst a, .lst b => if a.length + b.length ≤ sizeLine then some (.lst (a ++ b)) else none
  | _, _ => none
theorem o_add : OpR X (binaryOp .Add) (rD (ctOf X) opAdd) := by
  intro pins s σ H x y v u Q I rx ry h
  obtain ⟨io, F, m, d, e, S, rd, re, z, hz, k⟩ := h
  unfold opAdd at hz
  split at hz
  · rename_i i j e1 e2
    cases hz
    exact op_add pins s σ H _ _ v u Q I rx ry ⟨i, j, is_int rd e1, is_int re e2, k.now S (by simp only [RelD])⟩
  · rename_i i j e1 e2
    split at hz
    · rename_i hl
      cases hz
      exact op_add_str pins s σ H _ _ v u Q I rx ry ⟨i, j, is_str rd e1, is_str re e2, hl, k.now S (by simp only [RelD])⟩
    · cases hz
  · rename_i i j e1 e2
    split at hz
    · rename_i hl
      cases hz
      obtain ⟨a, xs, ha, ta, qa⟩ := is_tup rd e1
      obtain ⟨b, ys, hb, tb, qb⟩ := is_tup re e2
      have la := qa.len
      have lb := qb.len
      refine op_catA pins s σ H _ _ v u Q I rx ry ⟨a, b, xs, ys, ha, hb, ta.sq, tb.sq, by omega, fun z => ?_, fun z1 z2 => ?_, fun z1 z2 p hp => ?_⟩
      · subst z
        have z : i = [] := List.eq_nil_of_length_eq_zero la
        subst z
        exact k.now S (by simp only [RelD, List.nil_append]; exact ⟨b, ys, rfl, tb, qb⟩)
      · subst z2
        have z : j = [] := List.eq_nil_of_length_eq_zero lb
        subst z
        exact k.now S (by simp only [RelD, List.append_nil]; exact ⟨a, xs, rfl, ta, qa⟩)
      · exact k.newT S hp (qa.app qb)
    · cases hz
  · rename_i i j e1 e2
    split at hz
    · rename_i hl
      cases hz
      obtain ⟨a, xs, ha, ta, qa⟩ := at_lst S rd e1
      obtain ⟨b, ys, hb, tb, qb⟩ := at_lst S re e2
      have la := qa.len
      have lb := qb.len
      exact op_cat pins s σ H _ _ v u Q I rx ry ⟨a, b, xs, ys, ha, hb, ta, tb, by omega, fun p hp => k.newL S hp (qa.app qb)⟩
    · cases hz
  · cases hz
/-- two ints, under a condition -/
def opInt (C : Int → Int → Bool) (g : Int → Int → D) : O2 := fun x y m => match view m x, view m y with
  | .int i, .int j => if C i j = true then some (g i j) else none
  | _, _ => none
theorem o_int {pop : Value → Value → Sem Value} {C : Int → Int → Bool} {C' : Int → Int → Prop} {g : Int → Int → D} {g' : Int → Int → V} (h : OpR X pop (rI C' g')) (hC : ∀ i j, C i j = true → C' i j)
    (hg : ∀ K io F n H i j, RelD K io F n H (g i j) (g' i j)) : OpR X pop (rD (ctOf X) (opInt C g)) := by
  intro pins s σ H x y v u Q I rx ry q
  obtain ⟨io, F, m, d, e, S, rd, re, z, hz, k⟩ := q
  unfold opInt at hz
  split at hz
  · rename_i i j e1 e2
    split at hz
    · rename_i hc
      cases hz
      exact h pins s σ H _ _ v u Q I rx ry ⟨i, j, is_int rd e1, is_int re e2, hC i j hc, k.now S (hg _ _ _ _ _ i j)⟩
    · cases hz
  · cases hz
theorem o_int0 {pop : Value → Value → Sem Value} {C : Int → Int → Bool} {g : Int → Int → D} {g' : Int → Int → V} (h : OpR X pop (rI0 g'))
    (hg : ∀ K io F n H i j, RelD K io F n H (g i j) (g' i j)) : OpR X pop (rD (ctOf X) (opInt C g)) :=
  o_int (C' := fun _ _ => True) (fun pins s σ H x y v u Q I rx ry ⟨i, j, a, b, _, q⟩ => h pins s σ H x y v u Q I rx ry ⟨i, j, a, b, q⟩) (fun _ _ _ => trivial) hg
def yes : Int → Int → Bool := fun _ _ => true
def opSub : O2 := opInt yes fun i j => .int (i - j)
def cMul : Int → Int → Bool := fun i j => decide (i.natAbs.log2 + j.natAbs.log2 < 1000000)
def opMul : O2 := opInt cMul fun i j => .int (i * j)
def cPos : Int → Int → Bool := fun _ j => decide (0 < j)
def opMod : O2 := opInt cPos fun i j => .int (i % j)
def cDiv : Int → Int → Bool := fun _ j => decide (0 < j) && decide (j.natAbs.log2 < 9000)
def opDiv : O2 := opInt cDiv fun i j => .int (i / j)
def cPow : Int → Int → Bool := fun i j => decide (0 ≤ j) && decide (j ≤ 1000000) && decide (i.natAbs < 2 ^ 64)
def opPow : O2 := opInt cPow fun i j => .int (i ^ j.toNat)
theorem o_sub : OpR X (binaryOp .Sub) (rD (ctOf X) opSub) := o_int0 op_sub fun _ _ _ _ _ _ _ => by simp only [RelD]
theorem o_mul : OpR X (binaryOp .Mult) (rD (ctOf X) opMul) := o_int op_mulW (fun i j h => by
  simp only [cMul, decide_eq_true_eq] at h; exact h) fun _ _ _ _ _ _ _ => by simp only [RelD]
theorem o_mod : OpR X (binaryOp .Mod) (rD (ctOf X) opMod) := o_int op_mod (fun i j h => by
  simp only [cPos, decide_eq_true_eq] at h; exact h) fun _ _ _ _ _ _ _ => by simp only [RelD]
theorem o_div : OpR X (binaryOp .FloorDiv) (rD (ctOf X) opDiv) := o_int op_fdivW (fun _ _ h => by
  simp only [cDiv, Bool.and_eq_true, decide_eq_true_eq] at h; exact h) fun _ _ _ _ _ _ _ => by simp only [RelD]
theorem o_pow : OpR X (binaryOp .Pow) (rD (ctOf X) opPow) := o_int op_pow (fun _ _ h => by
  simp only [cPow, Bool.and_eq_true, decide_eq_true_eq] at h; exact ⟨h.1.1, h.1.2, h.2⟩) fun _ _ _ _ _ _ _ => by simp only [RelD]
def opLt : O2 := opInt yes fun i j => .bl (decide (i < j))
def opLe : O2 := opInt yes fun i j => .bl (decide (i ≤ j))
def opGt : O2 := opInt yes fun i j => .bl (decide (j < i))
def opGe : O2 := opInt yes fun i j => .bl (decide (j ≤ i))
theorem o_lt : OpR X (compareOp .Lt) (rD (ctOf X) opLt) := o_int0 op_lt fun _ _ _ _ _ _ _ => by simp only [RelD]
theorem o_le : OpR X (compareOp .LtE) (rD (ctOf X) opLe) := o_int0 op_le fun _ _ _ _ _ _ _ => by simp only [RelD]
theorem o_gt : OpR X (compareOp .Gt) (rD (ctOf X) opGt) := o_int0 op_gt fun _ _ _ _ _ _ _ => by simp only [RelD]
theorem o_ge : OpR X (compareOp .GtE) (rD (ctOf X) opGe) := o_int0 op_ge fun _ _ _ _ _ _ _ => by simp only [RelD]

/-! ### what is compared deep -/
mutual
def toPy : D → Option PyData
  | .non => some .none
  | .bl b => some (.bool b)
  | .int i => some (.int i)
  | .str s => some (.str s)
  | .tup ds => (toPys ds).map PyData.tuple
  | .lst ds => (toPys ds).map PyData.list
  | .scr ns => some (.list (ns.map PyData.int))
  | .dk _ _ => none
  | .dt _ _ => none
  | .ref _ => none
def toPys : List D → Option (List PyData)
  | [] => some []
  | d :: ds => match toPy d, toPys ds with
    | some p, some ps => some (p :: ps)
    | _, _ => none
end
section
variable {io : Nat → Addr} {F : Addr → Prop} {n : Nat} {H : Hp}
theorem dpInts (K : PySem.W.Frag) (H : Hp) : ∀ ns : List Int, DpAll K H (ns.map V.int) (ns.map PyData.int)
  | [] => .nil
  | i :: r => .cons (.int i) (dpInts K H r)
mutual
theorem toDp (K : PySem.W.Frag) : ∀ (d : D) {v : V} {p : PyData}, RelD K io F n H d v → toPy d = some p → Dp K H v p
  | .non, v, p, r, e => by simp only [RelD] at r; simp only [toPy, Option.some.injEq] at e; subst r; subst e; exact .non
  | .bl b, v, p, r, e => by simp only [RelD] at r; simp only [toPy, Option.some.injEq] at e; subst r; subst e; exact .bl b
  | .int b, v, p, r, e => by simp only [RelD] at r; simp only [toPy, Option.some.injEq] at e; subst r; subst e; exact .int b
  | .str b, v, p, r, e => by simp only [RelD] at r; simp only [toPy, Option.some.injEq] at e; subst r; subst e; exact .str b
  | .tup ds, v, p, r, e => by
    simp only [RelD] at r
    obtain ⟨a, xs, rfl, t, q⟩ := r
    simp only [toPy, Option.map_eq_some_iff] at e
    obtain ⟨ps, e, rfl⟩ := e
    exact .tup t.sq (toDps K ds q e)
  | .lst ds, v, p, r, e => by
    simp only [RelD] at r
    obtain ⟨a, xs, rfl, f, t, q⟩ := r
    simp only [toPy, Option.map_eq_some_iff] at e
    obtain ⟨ps, e, rfl⟩ := e
    exact .lst (.inl (.inl t)) (toDps K ds q e)
  | .scr ns, v, p, r, e => by
    simp only [RelD] at r
    obtain ⟨a, rfl, t⟩ := r
    simp only [toPy, Option.some.injEq] at e
    subst e
    exact .lst t.sq (dpInts K H ns)
  | .dk _ _, v, p, r, e => by simp only [toPy] at e; cases e
  | .dt _ _, v, p, r, e => by simp only [toPy] at e; cases e
  | .ref _, v, p, r, e => by simp only [toPy] at e; cases e
theorem toDps (K : PySem.W.Frag) : ∀ (ds : List D) {vs : List V} {ps : List PyData}, RelDs K io F n H ds vs → toPys ds = some ps → DpAll K H vs ps
  | [], [], ps, _, e => by simp only [toPys, Option.some.injEq] at e; subst e; exact .nil
  | [], _ :: _, _, r, _ => by simp only [RelDs] at r
  | _ :: _, [], _, r, _ => by simp only [RelDs] at r
  | d :: ds, v :: vs, ps, r, e => by
    simp only [RelDs] at r
    unfold toPys at e
    split at e
    · rename_i p qs e1 e2
      cases e
      exact .cons (toDp K d r.1 e1) (toDps K ds r.2 e2)
    · cases e
end
end
/-- .. whatever stands at a number at the top -/
theorem topDp {T : Ct} {io : Nat → Addr} {F : Addr → Prop} {m : Mem} {H : Hp} {d : D} {v : V} {p : PyData} (S : Sim T io F m H) (r : RelD T.K io F m.nx H d v) (e : toPy (view m d) = some p) : Dp T.K H v p := by
  cases d with
  | ref i =>
    rcases view_ref_ne (rfl : view m (.ref i) = view m (.ref i)) with ⟨ds, z⟩ | ⟨_, _, z⟩ | ⟨_, _, z⟩ | z
    · obtain ⟨a, xs, rfl, t, q⟩ := at_lst S r z
      rw [z] at e
      simp only [toPy, Option.map_eq_some_iff] at e
      obtain ⟨ps, e, rfl⟩ := e
      exact .lst (.inl (.inl t)) (toDps _ ds q e)
    · rw [z] at e; simp only [toPy] at e; cases e
    · rw [z] at e; simp only [toPy] at e; cases e
    · rw [z] at e; simp only [toPy] at e; cases e
  | non => exact toDp _ _ r e
  | bl _ => exact toDp _ _ r e
  | int _ => exact toDp _ _ r e
  | str _ => exact toDp _ _ r e
  | tup _ => exact toDp _ _ r e
  | lst _ => exact toDp _ _ r e
  | scr _ => exact toDp _ _ r e
  | dk _ _ => exact toDp _ _ r e
  | dt _ _ => exact toDp _ _ r e
/-- a == b -/
def twoStr : D → D → Option Bool
  | .str a, .str b => some (decide (a = b))
  | _, _ => none
def pyEq (x y : D) (m : Mem) : Option Bool := match twoStr (view m x) (view m y) with
  | some c => some c
  | none => (match toPy (view m x), toPy (view m y) with
    | some p, some q => if SeqAt.shaped p = true ∧ SeqAt.shaped q = true then some (PyData.eqv p q) else none
    | _, _ => none)
theorem twoStr_inv {x y : D} {b : Bool} (h : twoStr x y = some b) : ∃ s t, x = .str s ∧ y = .str t ∧ b = decide (s = t) := by
  unfold twoStr at h
  split at h
  · cases h; exact ⟨_, _, rfl, rfl, rfl⟩
  · cases h
def opEq : O2 := fun x y m => (pyEq x y m).map D.bl
def opNe : O2 := fun x y m => (pyEq x y m).map fun b => .bl (!b)
theorem pyEq_inv {x y : D} {m : Mem} {b : Bool} (h : pyEq x y m = some b) : (∃ s t, view m x = .str s ∧ view m y = .str t ∧ b = decide (s = t)) ∨ ∃ p q, toPy (view m x) = some p ∧ toPy (view m y) = some q ∧ SeqAt.shaped p = true ∧ SeqAt.shaped q = true ∧ b = PyData.eqv p q := by
  unfold pyEq at h
  split at h
  · rename_i c e
    cases h
    exact .inl (twoStr_inv e)
  · split at h
    · rename_i p q e1 e2
      split at h
      · rename_i hs
        cases h
        exact .inr ⟨p, q, e1, e2, hs.1, hs.2, rfl⟩
      · cases h
    · cases h
theorem o_eq (hu : X.A.units + 65 < cLine) : OpR X (compareOp .Eq) (rD (ctOf X) opEq) := by
  intro pins s σ H x y v u Q I rx ry h
  obtain ⟨io, F, m, d, e, S, rd, re, z, hz, k⟩ := h
  unfold opEq at hz
  rw [Option.map_eq_some_iff] at hz
  obtain ⟨b, hz, rfl⟩ := hz
  rcases pyEq_inv hz with ⟨a, b, e1, e2, rfl⟩ | ⟨p, q, e1, e2, s1, s2, rfl⟩
  · have ex := is_str rd e1
    have ey := is_str re e2
    subst ex ey
    exact op_eq pins s σ H _ _ v u Q I rx ry ⟨rfl, k.now S (by simp only [RelD, V.str.injEq])⟩
  exact op_eqD (Nat.lt_of_succ_lt hu) pins s σ H _ _ v u Q I rx ry ⟨p, q, topDp S rd e1, topDp S re e2, s1, s2, k.now S (by simp only [RelD])⟩
theorem o_ne (hu : X.A.units + 65 < cLine) : OpR X (compareOp .NotEq) (rD (ctOf X) opNe) := by
  intro pins s σ H x y v u Q I rx ry h
  obtain ⟨io, F, m, d, e, S, rd, re, z, hz, k⟩ := h
  unfold opNe at hz
  rw [Option.map_eq_some_iff] at hz
  obtain ⟨b, hz, rfl⟩ := hz
  rcases pyEq_inv hz with ⟨a, b, e1, e2, rfl⟩ | ⟨p, q, e1, e2, s1, s2, rfl⟩
  · have ex := is_str rd e1
    have ey := is_str re e2
    subst ex ey
    exact op_ne pins s σ H _ _ v u Q I rx ry ⟨rfl, k.now S (by simp only [RelD, V.str.injEq])⟩
  exact op_neD (Nat.lt_of_succ_lt hu) pins s σ H _ _ v u Q I rx ry ⟨p, q, topDp S rd e1, topDp S re e2, s1, s2, k.now S (by simp only [RelD])⟩
/-- keys -/
def keyOf : D → Option Key
  | .int i => some (.inl i)
  | .str s => some (.inr s)
  | _ => none
def keysOf : List D → Option (List Key)
  | [] => some []
  | d :: ds => match keyOf d, keysOf ds with
    | some k, some ks => some (k :: ks)
    | _, _ => none
/-- a place's -/
def ikeysOf : List D → Option (List Key)
  | [] => some []
  | .int i :: ds => (ikeysOf ds).map fun ks => .inl i :: ks
  | _ => none
theorem ikeys_keys : ∀ {ds : List D} {ks : List Key}, ikeysOf ds = some ks → keysOf ds = some ks
  | [], ks, e => e
  | .int i :: ds, ks, e => by
    simp only [ikeysOf, Option.map_eq_some_iff] at e
    obtain ⟨r, e, rfl⟩ := e
    simp only [keysOf, keyOf, ikeys_keys e]
  | .non :: _, _, e => by simp only [ikeysOf] at e; cases e
  | .bl _ :: _, _, e => by simp only [ikeysOf] at e; cases e
  | .str _ :: _, _, e => by simp only [ikeysOf] at e; cases e
  | .tup _ :: _, _, e => by simp only [ikeysOf] at e; cases e
  | .lst _ :: _, _, e => by simp only [ikeysOf] at e; cases e
  | .scr _ :: _, _, e => by simp only [ikeysOf] at e; cases e
  | .dk _ _ :: _, _, e => by simp only [ikeysOf] at e; cases e
  | .dt _ _ :: _, _, e => by simp only [ikeysOf] at e; cases e
  | .ref _ :: _, _, e => by simp only [ikeysOf] at e; cases e
def look {κ : Type} [DecidableEq κ] : List κ → List D → κ → Option D
  | k :: ks, d :: ds, x => if k = x then some d else look ks ds x
  | _, _, _ => none
@[simp] theorem look_nil {κ : Type} [DecidableEq κ] (ds : List D) (x : κ) : look [] ds x = none := by cases ds <;> rfl
@[simp] theorem look_cons {κ : Type} [DecidableEq κ] (k : κ) (ks : List κ) (d : D) (ds : List D) (x : κ) : look (k :: ks) (d :: ds) x = if k = x then some d else look ks ds x := rfl
/-- x in y -/
def pyIn (x y : D) (m : Mem) : Option Bool := match view m y with
  | .str t => (match view m x with
    | .str s => some (!(Builtin.Str.occurrences t s 0 t.length 1).isEmpty)
    | _ => none)
  | .dk ks ds => (keyOf (view m x)).map fun k => (look ks ds k).isSome
  | .dt ks ds => (match view m x with
    | .tup es => (ikeysOf es).map fun k => (look ks ds k).isSome
    | _ => none)
  | w => (match toPy (view m x), toPy w with
    | some p, some (.list qs) => if SeqAt.shaped p = true ∧ SeqAt.shaped (.list qs) = true then some (qs.any fun z => PyData.eqv z p) else none
    | some p, some (.tuple qs) => if SeqAt.shaped p = true ∧ SeqAt.shaped (.tuple qs) = true then some (qs.any fun z => PyData.eqv z p) else none
    | _, _ => none)
def opIn : O2 := fun x y m => (pyIn x y m).map D.bl
def opNotIn : O2 := fun x y m => (pyIn x y m).map fun b => .bl (!b)
section
variable {io : Nat → Addr} {F : Addr → Prop} {n : Nat} {H : Hp} {K : PySem.W.Frag}
theorem keyOf_rel {d : D} {v : V} {k : Key} (r : RelD K io F n H d v) (e : keyOf d = some k) : v = kV k := by
  unfold keyOf at e
  split at e <;> first | (cases e; simp only [RelD] at r; exact r) | cases e
theorem keysOf_rel : ∀ {ds : List D} {vs : List V} {ks : List Key}, RelDs K io F n H ds vs → keysOf ds = some ks → vs = ks.map kV
  | [], [], ks, _, e => by simp only [keysOf, Option.some.injEq] at e; subst e; rfl
  | [], _ :: _, _, r, _ => by simp only [RelDs] at r
  | _ :: _, [], _, r, _ => by simp only [RelDs] at r
  | d :: ds, v :: vs, ks, r, e => by
    simp only [RelDs] at r
    unfold keysOf at e
    split at e
    · rename_i k ks' e1 e2
      cases e
      rw [keyOf_rel r.1 e1, keysOf_rel r.2 e2]
      rfl
    · cases e
theorem look_rel {κ : Type} [DecidableEq κ] {x : κ} : ∀ {ks : List κ} {ds : List D} {kvs : List (κ × V)}, kvs.map (·.1) = ks → RelDs K io F n H ds (kvs.map (·.2)) →
    (∀ d, look ks ds x = some d → ∃ v, valV kvs x = some v ∧ RelD K io F n H d v) ∧ (look ks ds x = none → valV kvs x = none)
  | [], _, [], _, _ => ⟨fun d e => by (rw [look_nil] at e; cases e), fun _ => rfl⟩
  | [], _, _ :: _, e, _ => by cases e
  | _ :: _, _, [], e, _ => by cases e
  | k :: ks, [], p :: kvs, _, r => by simp only [List.map_cons, RelDs] at r
  | k :: ks, d :: ds, p :: kvs, e, r => by
    simp only [List.map_cons, List.cons.injEq] at e
    simp only [List.map_cons, RelDs] at r
    obtain ⟨e1, e2⟩ := e
    subst e1
    unfold look valV
    rw [List.find?_cons]
    by_cases hx : p.1 = x
    · rw [if_pos hx, decide_eq_true hx]
      refine ⟨fun d' q => ?_, fun q => by cases q⟩
      cases q
      exact ⟨p.2, rfl, r.1⟩
    · rw [if_neg hx, decide_eq_false hx]
      exact look_rel e2 r.2
end
theorem pyIn_inv {x y : D} {m : Mem} {b : Bool} (h : pyIn x y m = some b) :
    (∃ s t, view m x = .str s ∧ view m y = .str t ∧ b = !(Builtin.Str.occurrences t s 0 t.length 1).isEmpty) ∨
    (∃ ks ds k, view m y = .dk ks ds ∧ keyOf (view m x) = some k ∧ b = (look ks ds k).isSome) ∨
    (∃ ks ds es k, view m y = .dt ks ds ∧ view m x = .tup es ∧ ikeysOf es = some k ∧ b = (look ks ds k).isSome) ∨
    (∃ p qs, toPy (view m x) = some p ∧ toPy (view m y) = some (.list qs) ∧ SeqAt.shaped p = true ∧ SeqAt.shaped (.list qs) = true ∧ b = qs.any fun z => PyData.eqv z p) ∨
    (∃ p qs, toPy (view m x) = some p ∧ toPy (view m y) = some (.tuple qs) ∧ SeqAt.shaped p = true ∧ SeqAt.shaped (.tuple qs) = true ∧ b = qs.any fun z => PyData.eqv z p) := by
  unfold pyIn at h
  split at h
  · rename_i t e
    split at h
    · rename_i s e2
      cases h
      exact .inl ⟨s, t, e2, e, rfl⟩
    · cases h
  · rename_i ks ds e
    rw [Option.map_eq_some_iff] at h
    obtain ⟨k, e2, rfl⟩ := h
    exact .inr (.inl ⟨ks, ds, k, e, e2, rfl⟩)
  · rename_i ks ds e
    split at h
    · rename_i es e2
      rw [Option.map_eq_some_iff] at h
      obtain ⟨k, e3, rfl⟩ := h
      exact .inr (.inr (.inl ⟨ks, ds, es, k, e, e2, e3, rfl⟩))
    · cases h
  · split at h
    · rename_i p qs e1 e2
      split at h
      · rename_i hs
        cases h
        exact .inr (.inr (.inr (.inl ⟨p, qs, e1, e2, hs.1, hs.2, rfl⟩)))
      · cases h
    · rename_i p qs e1 e2
      split at h
      · rename_i hs
        cases h
        exact .inr (.inr (.inr (.inr ⟨p, qs, e1, e2, hs.1, hs.2, rfl⟩)))
      · cases h
    · cases h
theorem keyOf_view {T : Ct} {io : Nat → Addr} {F : Addr → Prop} {m : Mem} {H : Hp} {d : D} {v : V} {k : Key} (r : RelD T.K io F m.nx H d v) (e : keyOf (view m d) = some k) : v = kV k := by
  rcases view_inv (rfl : view m d = view m d) with ⟨j, rfl⟩ | z
  · rcases view_ref_ne (rfl : view m (.ref j) = view m (.ref j)) with ⟨_, z⟩ | ⟨_, _, z⟩ | ⟨_, _, z⟩ | z <;> (rw [z] at e; simp only [keyOf] at e; cases e)
  · rw [← z] at e; exact keyOf_rel r e
/-- a dict's entry -/
theorem dget {T : Ct} {io : Nat → Addr} {F : Addr → Prop} {m : Mem} {H : Hp} {x y : D} {v u : V} {ks : List Key} {ds : List D} {k : Key} (S : Sim T io F m H) (rx : RelD T.K io F m.nx H x v) (ry : RelD T.K io F m.nx H y u)
    (e1 : view m y = .dk ks ds) (e2 : keyOf (view m x) = some k) : ∃ a o, u = .ref a ∧ DGet H a v o ∧ (∀ d, look ks ds k = some d → ∃ w, o = some w ∧ RelD T.K io F m.nx H d w) ∧ (look ks ds k = none → o = none) := by
  obtain ⟨a, kvs, rfl, h1, h2, h3⟩ := at_dk S ry e1
  have := keyOf_view rx e2
  subst this
  exact ⟨a, valV kvs k, rfl, .inl ⟨kvs, k, h1, rfl, rfl⟩, (look_rel h2 h3).1, (look_rel h2 h3).2⟩
/-- a tuple of ints is a tuple that H tracks -/
theorem dgetT {T : Ct} {io : Nat → Addr} {F : Addr → Prop} {m : Mem} {H : Hp} {x y : D} {v u : V} {ks : List (List Key)} {ds es : List D} {k : List Key} (S : Sim T io F m H) (rx : RelD T.K io F m.nx H x v) (ry : RelD T.K io F m.nx H y u)
    (e1 : view m y = .dt ks ds) (e2 : view m x = .tup es) (e3 : ikeysOf es = some k) : ∃ a o, u = .ref a ∧ DGet H a v o ∧ (∀ d, look ks ds k = some d → ∃ w, o = some w ∧ RelD T.K io F m.nx H d w) ∧ (look ks ds k = none → o = none) := by
  obtain ⟨a, kvs, rfl, h1, h2, h3⟩ := at_dt S ry e1
  obtain ⟨b, xs, rfl, t, q⟩ := is_tup rx e2
  have e := keysOf_rel q (ikeys_keys e3)
  subst e
  rcases t with ⟨_, t⟩ | ⟨t, z, r, e⟩
  · exact ⟨a, valV kvs k, rfl, .inr ⟨kvs, k, b, h1, rfl, t, rfl⟩, (look_rel h2 h3).1, (look_rel h2 h3).2⟩
  · cases es with
    | nil => simp only [ikeysOf, Option.some.injEq] at e3; subst e3; cases e
    | cons d es =>
      cases d with
      | int i =>
        simp only [ikeysOf, Option.map_eq_some_iff] at e3
        obtain ⟨r', e3, rfl⟩ := e3
        cases e
      | _ => simp only [ikeysOf] at e3; cases e3
theorem o_in (hu : X.A.units + 65 < cLine) : OpR X (compareOp .In) (rD (ctOf X) opIn) := by
  intro pins s σ H x y v u Q I rx ry h
  obtain ⟨io, F, m, d, e, S, rd, re, z, hz, k⟩ := h
  unfold opIn at hz
  rw [Option.map_eq_some_iff] at hz
  obtain ⟨b, hz, rfl⟩ := hz
  have fin := k.now S (v := V.bl b) (by simp only [RelD])
  rcases pyIn_inv hz with ⟨p, q, e1, e2, rfl⟩ | ⟨ks, ds, q, e1, e2, rfl⟩ | ⟨ks, ds, es, q, e1, e2, e3, rfl⟩ | ⟨p, qs, e1, e2, s1, s2, rfl⟩ | ⟨p, qs, e1, e2, s1, s2, rfl⟩
  · exact op_in_str pins s σ H _ _ v u Q I rx ry ⟨p, q, is_str rd e1, is_str re e2, fin⟩
  · obtain ⟨a, o, rfl, g, h1, h2⟩ := dget S rd re e1 e2
    obtain rfl : u = Value.ref a := ry
    refine d_in (Nat.lt_of_le_of_lt (by omega) hu) I g rx fun s3 I3 => ⟨.bl o.isSome, H, I3, rfl, ?_⟩
    have : o.isSome = (look ks ds q).isSome := by
      cases z : look ks ds q with
      | none => rw [h2 z]; rfl
      | some d => obtain ⟨w, hw, _⟩ := h1 d z; rw [hw]; rfl
    rw [this]; exact fin
  · obtain ⟨a, o, rfl, g, h1, h2⟩ := dgetT S rd re e1 e2 e3
    obtain rfl : u = Value.ref a := ry
    refine d_in (Nat.lt_of_le_of_lt (by omega) hu) I g rx fun s3 I3 => ⟨.bl o.isSome, H, I3, rfl, ?_⟩
    have : o.isSome = (look ks ds q).isSome := by
      cases z : look ks ds q with
      | none => rw [h2 z]; rfl
      | some d => obtain ⟨w, hw, _⟩ := h1 d z; rw [hw]; rfl
    rw [this]; exact fin
  · exact op_inD hu pins s σ H _ _ v u Q I rx ry ⟨p, qs, topDp S rd e1, topDp S re e2, s1, s2, fin⟩
  · obtain ⟨as, r1⟩ := Dp.reads I _ _ _ (topDp S rd e1) rx
    obtain ⟨bs, r2⟩ := Dp.reads I _ _ _ (topDp S re e2) ry
    exact SeqAt.in_tuple_reads r2 r1 (by have := SeqAt.canLay_of_shaped s2; simpa only [PyData.canLay0] using this) (SeqAt.canLay_of_shaped s1) (room_in_shaped s1 hu) ⟨.bl _, H, I, rfl, fin⟩
theorem o_notIn (hu : X.A.units + 65 < cLine) : OpR X (compareOp .NotIn) (rD (ctOf X) opNotIn) := by
  intro pins s σ H x y v u Q I rx ry h
  obtain ⟨io, F, m, d, e, S, rd, re, z, hz, k⟩ := h
  unfold opNotIn at hz
  rw [Option.map_eq_some_iff] at hz
  obtain ⟨b, hz, rfl⟩ := hz
  have fin := k.now S (v := V.bl (!b)) (by simp only [RelD])
  rcases pyIn_inv hz with ⟨p, q, e1, e2, rfl⟩ | ⟨ks, ds, q, e1, e2, rfl⟩ | ⟨ks, ds, es, q, e1, e2, e3, rfl⟩ | ⟨p, qs, e1, e2, s1, s2, rfl⟩ | ⟨p, qs, e1, e2, s1, s2, rfl⟩
  · exact op_notin_str pins s σ H _ _ v u Q I rx ry ⟨p, q, is_str rd e1, is_str re e2, fin⟩
  · obtain ⟨a, o, rfl, g, h1, h2⟩ := dget S rd re e1 e2
    obtain rfl : u = Value.ref a := ry
    refine d_notIn (Nat.lt_of_le_of_lt (by omega) hu) I g rx fun s3 I3 => ⟨.bl (!o.isSome), H, I3, rfl, ?_⟩
    have : o.isSome = (look ks ds q).isSome := by
      cases z : look ks ds q with
      | none => rw [h2 z]; rfl
      | some d => obtain ⟨w, hw, _⟩ := h1 d z; rw [hw]; rfl
    rw [this]; exact fin
  · obtain ⟨a, o, rfl, g, h1, h2⟩ := dgetT S rd re e1 e2 e3
    obtain rfl : u = Value.ref a := ry
    refine d_notIn (Nat.lt_of_le_of_lt (by omega) hu) I g rx fun s3 I3 => ⟨.bl (!o.isSome), H, I3, rfl, ?_⟩
    have : o.isSome = (look ks ds q).isSome := by
      cases z : look ks ds q with
      | none => rw [h2 z]; rfl
      | some d => obtain ⟨w, hw, _⟩ := h1 d z; rw [hw]; rfl
    rw [this]; exact fin
  · exact op_notInD hu pins s σ H _ _ v u Q I rx ry ⟨p, qs, topDp S rd e1, topDp S re e2, s1, s2, fin⟩
  · obtain ⟨as, r1⟩ := Dp.reads I _ _ _ (topDp S rd e1) rx
    obtain ⟨bs, r2⟩ := Dp.reads I _ _ _ (topDp S re e2) ry
    exact SeqAt.notIn_tuple_reads r2 r1 (by have := SeqAt.canLay_of_shaped s2; simpa only [PyData.canLay0] using this) (SeqAt.canLay_of_shaped s1) (room_in_shaped s1 hu) ⟨.bl _, H, I, rfl, fin⟩
/-- x is None, x is not None -/
def isNon : D → Bool
  | .non => true
  | _ => false
def opIsN : O2 := fun x _ _ => some (.bl (isNon x))
def opNotN : O2 := fun x _ _ => some (.bl (!isNon x))
theorem isNon_rel {K : PySem.W.Frag} {io : Nat → Addr} {F : Addr → Prop} {n : Nat} {H : Hp} {d : D} {v : V} (r : RelD K io F n H d v) : decide (v = .non) = isNon d := by
  cases d with
  | non => simp only [RelD] at r; subst r; rfl
  | bl b => simp only [RelD] at r; subst r; rfl
  | int b => simp only [RelD] at r; subst r; rfl
  | str b => simp only [RelD] at r; subst r; rfl
  | tup ds => simp only [RelD] at r; obtain ⟨_, _, rfl, _⟩ := r; rfl
  | lst ds => simp only [RelD] at r; obtain ⟨_, _, rfl, _⟩ := r; rfl
  | scr ds => simp only [RelD] at r; obtain ⟨_, rfl, _⟩ := r; rfl
  | dk ks ds => simp only [RelD] at r; obtain ⟨_, _, rfl, _⟩ := r; rfl
  | dt ks ds => simp only [RelD] at r; obtain ⟨_, _, rfl, _⟩ := r; rfl
  | ref i => simp only [RelD] at r; obtain ⟨_, rfl⟩ := r; rfl
end
end Ev

set_option Elab.async false
set_option linter.all false
set_option maxRecDepth 100000
set_option autoImplicit false
/-! Ev5: expressions, tests. -/
namespace Ev
open PySem PySem.Spec PyProof.Rows L2
section
variable {X : Cx} {k : Nat} {W : WT} {a b c e : Expr} {es rest : List Expr} {pos : Pos} {ca cb cc : ME} {cA : MA}

/-! ### constants, names -/
def mC (d : D) : ME := fun _ m => .ok d m
def mV (i : Nat) : ME := fun s m => match s[i]? with
  | some (some d) => .ok d m
  | _ => .bad
theorem mC_now {d : D} {v : V} {σ : L2.St} {H : Hp} {Q : VK} (hr : ∀ io F n, RelD X.K io F n H d v) (h : tE (ctOf X) W (mC d) σ H Q) : Q v H := by
  obtain ⟨io, F, m, sd, S, rs, p⟩ := h
  exact p.now S (hr _ _ _)
theorem d_int {i : Int} {j : Nat} : PE X (.Constant (.int i) j pos) (tE (ctOf X) W (mC (.int i))) := pe_imp pe_int fun σ H Q h => mC_now (X := X) (v := .int i) (fun _ _ _ => by simp only [RelD]) h
theorem d_bl {i : Bool} {j : Nat} : PE X (.Constant (.bool i) j pos) (tE (ctOf X) W (mC (.bl i))) := pe_imp pe_bl fun σ H Q h => mC_now (X := X) (v := .bl i) (fun _ _ _ => by simp only [RelD]) h
theorem d_non {j : Nat} : PE X (.Constant .none j pos) (tE (ctOf X) W (mC .non)) := pe_imp pe_non fun σ H Q h => mC_now (X := X) (v := .non) (fun _ _ _ => by simp only [RelD]) h
theorem d_str {i : Str} {j : Nat} : PE X (.Constant (.str i) j pos) (tE (ctOf X) W (mC (.str i))) := pe_imp pe_str fun σ H Q h => mC_now (X := X) (v := .str i) (fun _ _ _ => by simp only [RelD]) h
theorem d_var {i : Nat} {x : Str} (hN : X.N[i]? = some x) (hv : Vis X.env.scope x) (hd : (x == ("__debug__" : Str)) = false := by decide) (hcd : (x == ("__classdict__" : Str)) = false := by decide) : PE X (.Name x pos) (tE (ctOf X) W (mV i)) :=
  pe_imp (pe_var hN hv hd hcd) fun σ H Q h => by
    obtain ⟨io, F, m, sd, S, rs, p⟩ := h
    unfold mV at p
    split at p
    · rename_i d q
      obtain ⟨v, h1, h2⟩ := rs.2 i d q
      exact ⟨v, h1, p.now S h2⟩
    · exact p.elim
/-- a constant of the module -/
structure GlobOk (T : Ct) (x : Str) (d : D) : Prop where
  ex : ∃ (v : V) (u : Value), T.mg x = some u ∧ RelV v u ∧ ∀ io F n H, RelD T.K io F n H d v
theorem d_glob {x : Str} {d : D} (G : GlobOk (ctOf X) x d) (hg : Gl X x) (hd : (x == ("__debug__" : Str)) = false := by decide) : PE X (.Name x pos) (tE (ctOf X) W (mC d)) := by
  obtain ⟨v, u, hm, r, q⟩ := G.ex
  exact pe_imp (pe_glob hg hm r hd) fun σ H Q h => mC_now (X := X) (v := v) (fun _ _ _ => q _ _ _ _) h

/-! ### one operand -/
abbrev O1 := D → Mem → Option D
def mO1 (f : O1) (a : ME) : ME := fun s m => (a s m).bind fun x m1 => Res.of (f x m1) m1
def rD1 (T : Ct) (f : O1) : V → Hp → VK → Prop := fun x H Q => ∃ io F m d, Sim T io F m H ∧ RelD T.K io F m.nx H d x ∧ ∃ z, f d m = some z ∧ Then T io F m H z Q
theorem tO1_of {f : O1} {σ : L2.St} {H : Hp} {Q : VK} (h : tE (ctOf X) W (mO1 f ca) σ H Q) : tE (ctOf X) W ca σ H fun x H1 => rD1 (ctOf X) f x H1 Q := by
  refine (tG.bind (R := RD (ctOf X)) (c := ca) (k := fun x s m1 => Res.of (f x m1) m1) h).imp fun x H1 h2 => ?_
  obtain ⟨io, F, m, sd, d, S, rs, r, p⟩ := h2
  obtain ⟨z, hz, k⟩ := p.of_
  exact ⟨io, F, m, d, S, r, z, hz, k⟩
theorem d_un {f : O1} {op : UnaryOp} (h : UnR X (unaryOp op) (rD1 (ctOf X) f)) (ha : PE X a (tE (ctOf X) W ca)) : PE X (.UnaryOp op a pos) (tE (ctOf X) W (mO1 f ca)) :=
  pe_imp (pe_un h ha) fun σ H Q h => tO1_of h
def opNeg : O1 := fun x m => match view m x with
  | .int i => some (.int (-i))
  | _ => none
theorem u_neg : UnR X (unaryOp .USub) (rD1 (ctOf X) opNeg) := by
  intro pins s σ H x v Q I rx h
  obtain ⟨io, F, m, d, S, r, z, hz, k⟩ := h
  unfold opNeg at hz
  split at hz
  · rename_i i e
    cases hz
    exact un_neg pins s σ H _ v Q I rx ⟨i, is_int r e, k.now S (by simp only [RelD])⟩
  · cases hz
def opNotV : O1 := fun x _ => match x with
  | .bl b => some (.bl (!b))
  | _ => none
theorem d_notV (ha : PE X a (tE (ctOf X) W ca)) : PE X (.UnaryOp .Not a pos) (tE (ctOf X) W (mO1 opNotV ca)) :=
  pe_imp (pe_not ha) fun σ H Q h => (tO1_of h).imp fun x H1 h2 => by
    obtain ⟨io, F, m, d, S, r, z, hz, k⟩ := h2
    unfold opNotV at hz
    split at hz
    · cases hz
      simp only [RelD] at r
      exact ⟨_, r, k.now S (by simp only [RelD])⟩
    · cases hz

/-! ### is None -/
theorem o_isN : OpR X (compareOp .Is) fun x y H Q => y = .non ∧ rD1 (ctOf X) (fun x _ => some (.bl (isNon x))) x H Q := by
  intro pins s σ H x y v u Q I rx ry h
  obtain ⟨e, io, F, m, d, S, r, z, hz, k⟩ := h
  cases hz
  exact op_isN pins s σ H _ _ v u Q I rx ry ⟨e, k.now S (by rw [isNon_rel r]; simp only [RelD])⟩
theorem o_notN : OpR X (compareOp .IsNot) fun x y H Q => y = .non ∧ rD1 (ctOf X) (fun x _ => some (.bl (!isNon x))) x H Q := by
  intro pins s σ H x y v u Q I rx ry h
  obtain ⟨e, io, F, m, d, S, r, z, hz, k⟩ := h
  cases hz
  exact op_notN pins s σ H _ _ v u Q I rx ry ⟨e, k.now S (by rw [isNon_rel r]; simp only [RelD])⟩
def mIsN (a : ME) : ME := mO1 (fun x _ => some (.bl (isNon x))) a
def mNotN (a : ME) : ME := mO1 (fun x _ => some (.bl (!isNon x))) a
theorem d_isN {j : Nat} {p' : Pos} (ha : PE X a (tE (ctOf X) W ca)) : PE X (.Compare a [.Is] [.Constant .none j p'] pos) (tE (ctOf X) W (mIsN ca)) :=
  pe_imp (pe_cmpR o_isN ha pe_non (nomark _)) fun σ H Q h => (tO1_of h).imp fun x H1 h2 => ⟨rfl, h2⟩
theorem d_notN {j : Nat} {p' : Pos} (ha : PE X a (tE (ctOf X) W ca)) : PE X (.Compare a [.IsNot] [.Constant .none j p'] pos) (tE (ctOf X) W (mNotN ca)) :=
  pe_imp (pe_cmpR o_notN ha pe_non (nomark _)) fun σ H Q h => (tO1_of h).imp fun x H1 h2 => ⟨rfl, h2⟩

/-! ### tests -/
def mT (a : ME) : MT := fun s m => (a s m).bind fun d m1 => match d with
  | .bl b => .ok b m1
  | _ => .bad
theorem tT_of {σ : L2.St} {H : Hp} {Q : Bool → Hp → Prop} (h : tT (ctOf X) W (mT ca) σ H Q) : tE (ctOf X) W ca σ H fun x H1 => ∃ c, x = .bl c ∧ Q c H1 := by
  refine (tG.bind (R := RD (ctOf X)) (c := ca) (k := fun d s m1 => match d with | .bl b => .ok b m1 | _ => .bad) h).imp fun x H1 h2 => ?_
  obtain ⟨io, F, m, sd, d, S, rs, r, p⟩ := h2
  cases d with
  | bl b =>
    simp only [RelD] at r
    exact ⟨b, r, Post.now (R := RB) S p rfl⟩
  | _ => exact p.elim
/-- whatever is told as True or False -/
theorem d_tval (ha : PE X a (tE (ctOf X) W ca)) (he : ∀ whole, PySem.isTrue a X.env whole = (do let v ← whole; standAt a.pos; holding [v] (truthy v)) := by intro _; rfl) : PT X a (tT (ctOf X) W (mT ca)) :=
  pt_imp (pt_val ha he) fun σ H Q h => tT_of h
theorem d_tcmp {f : O2} {op : CmpOp} (hop : OpR X (compareOp op) (rD (ctOf X) f)) (ha : PE X a (tE (ctOf X) W ca)) (hb : PE X b (tE (ctOf X) W cb)) (hm : behindInMarks op b = false := by first | exact nomark _ | rfl) :
    PT X (.Compare a [op] [b] pos) (tT (ctOf X) W (mT (mOp f ca cb))) := pt_imp (pt_cmpR hop ha hb hm) fun σ H Q h => tOp_of (tT_of h)
theorem d_tisN {j : Nat} {p' : Pos} (ha : PE X a (tE (ctOf X) W ca)) : PT X (.Compare a [.Is] [.Constant .none j p'] pos) (tT (ctOf X) W (mT (mIsN ca))) :=
  pt_imp (pt_cmpR o_isN ha pe_non (nomark _)) fun σ H Q h => (tO1_of (tT_of h)).imp fun x H1 h2 => ⟨rfl, h2⟩
theorem d_tnotN {j : Nat} {p' : Pos} (ha : PE X a (tE (ctOf X) W ca)) : PT X (.Compare a [.IsNot] [.Constant .none j p'] pos) (tT (ctOf X) W (mT (mNotN ca))) :=
  pt_imp (pt_cmpR o_notN ha pe_non (nomark _)) fun σ H Q h => (tO1_of (tT_of h)).imp fun x H1 h2 => ⟨rfl, h2⟩
variable {ta tb : MT}
def mNot (t : MT) : MT := fun s m => (t s m).bind fun b m1 => .ok (!b) m1
def mAnd (t u : MT) : MT := fun s m => (t s m).bind fun b m1 => if b = true then u s m1 else .ok false m1
def mOr (t u : MT) : MT := fun s m => (t s m).bind fun b m1 => if b = true then .ok true m1 else u s m1
theorem d_tnot (ha : PT X a (tT (ctOf X) W ta)) : PT X (.UnaryOp .Not a pos) (tT (ctOf X) W (mNot ta)) :=
  pt_imp (pt_not ha) fun σ H Q h => (tG.bind (R := RB) (c := ta) (k := fun b s m1 => .ok (!b) m1) h).imp fun b H1 h2 => by
    obtain ⟨io, F, m, sd, d, S, rs, r, p⟩ := h2
    cases r
    exact Post.now (R := RB) S p rfl
theorem tAnd_of {σ : L2.St} {H : Hp} {Q : Bool → Hp → Prop} (h : tT (ctOf X) W (mAnd ta tb) σ H Q) : tAnd (tT (ctOf X) W ta) (tT (ctOf X) W tb) σ H Q :=
  (tG.bind (R := RB) (c := ta) (k := fun b s m1 => if b = true then tb s m1 else .ok false m1) h).imp fun b H1 h2 => by
    obtain ⟨io, F, m, sd, d, S, rs, r, p⟩ := h2
    cases r
    cases b with
    | true => exact ⟨io, F, m, sd, S, rs, p⟩
    | false => exact Post.now (R := RB) S p rfl
theorem tOr_of {σ : L2.St} {H : Hp} {Q : Bool → Hp → Prop} (h : tT (ctOf X) W (mOr ta tb) σ H Q) : tOr (tT (ctOf X) W ta) (tT (ctOf X) W tb) σ H Q :=
  (tG.bind (R := RB) (c := ta) (k := fun b s m1 => if b = true then .ok true m1 else tb s m1) h).imp fun b H1 h2 => by
    obtain ⟨io, F, m, sd, d, S, rs, r, p⟩ := h2
    cases r
    cases b with
    | true => exact Post.now (R := RB) S p rfl
    | false => exact ⟨io, F, m, sd, S, rs, p⟩
theorem d_wand (ha : PT X a (tT (ctOf X) W ta)) (hb : PW X (.BoolOp .And (b :: rest) pos) (tT (ctOf X) W tb)) : PW X (.BoolOp .And (a :: b :: rest) pos) (tT (ctOf X) W (mAnd ta tb)) := pw_imp (pw_and ha hb) fun σ H Q h => tAnd_of h
theorem d_wor (ha : PT X a (tT (ctOf X) W ta)) (hb : PW X (.BoolOp .Or (b :: rest) pos) (tT (ctOf X) W tb)) : PW X (.BoolOp .Or (a :: b :: rest) pos) (tT (ctOf X) W (mOr ta tb)) := pw_imp (pw_or ha hb) fun σ H Q h => tOr_of h
theorem d_wand1 (ha : PT X a (tT (ctOf X) W ta)) : PW X (.BoolOp .And [a] pos) (tT (ctOf X) W ta) := pw_and1 ha
theorem d_wor1 (ha : PT X a (tT (ctOf X) W ta)) : PW X (.BoolOp .Or [a] pos) (tT (ctOf X) W ta) := pw_or1 ha
theorem d_pw {t : TT} (h : PW X e t) : PT X e t := h.pt
/-- as values -/
def mAndV (a b : ME) : ME := fun s m => (a s m).bind fun d m1 => match d with
  | .bl true => b s m1
  | .bl false => .ok (.bl false) m1
  | _ => .bad
def mOrV (a b : ME) : ME := fun s m => (a s m).bind fun d m1 => match d with
  | .bl true => .ok (.bl true) m1
  | .bl false => b s m1
  | _ => .bad
theorem d_one {op : BoolOp} (ha : PE X a (tE (ctOf X) W ca)) : PE X (.BoolOp op [a] pos) (tE (ctOf X) W ca) := pe_one ha
theorem d_and (ha : PE X a (tE (ctOf X) W ca)) (hb : PE X (.BoolOp .And (b :: rest) pos) (tE (ctOf X) W cb)) : PE X (.BoolOp .And (a :: b :: rest) pos) (tE (ctOf X) W (mAndV ca cb)) :=
  pe_imp (pe_and ha hb) fun σ H Q h => (tG.bind (R := RD (ctOf X)) (c := ca) (k := fun d s m1 => match d with | .bl true => cb s m1 | .bl false => .ok (.bl false) m1 | _ => .bad) h).imp fun x H1 h2 => by
    obtain ⟨io, F, m, sd, d, S, rs, r, p⟩ := h2
    cases d with
    | bl b =>
      simp only [RelD] at r
      refine ⟨b, r, ?_⟩
      cases b with
      | true => exact ⟨io, F, m, sd, S, rs, p⟩
      | false => exact Post.now (R := RD (ctOf X)) S p (by simp only [RelD])
    | _ => exact p.elim
theorem d_or (ha : PE X a (tE (ctOf X) W ca)) (hb : PE X (.BoolOp .Or (b :: rest) pos) (tE (ctOf X) W cb)) : PE X (.BoolOp .Or (a :: b :: rest) pos) (tE (ctOf X) W (mOrV ca cb)) :=
  pe_imp (pe_or ha hb) fun σ H Q h => (tG.bind (R := RD (ctOf X)) (c := ca) (k := fun d s m1 => match d with | .bl true => .ok (.bl true) m1 | .bl false => cb s m1 | _ => .bad) h).imp fun x H1 h2 => by
    obtain ⟨io, F, m, sd, d, S, rs, r, p⟩ := h2
    cases d with
    | bl b =>
      simp only [RelD] at r
      refine ⟨b, r, ?_⟩
      cases b with
      | true => exact Post.now (R := RD (ctOf X)) S p (by simp only [RelD])
      | false => exact ⟨io, F, m, sd, S, rs, p⟩
    | _ => exact p.elim
/-- a if t else b -/
def mIfE (t : MT) (a b : ME) : ME := fun s m => (t s m).bind fun c m1 => if c = true then a s m1 else b s m1
theorem d_ifE {t : Expr} (ht : PT X t (tT (ctOf X) W ta)) (ha : PE X a (tE (ctOf X) W ca)) (hb : PE X b (tE (ctOf X) W cb)) : PE X (.IfExp t a b pos) (tE (ctOf X) W (mIfE ta ca cb)) :=
  pe_imp (pe_ifExp ht ha hb) fun σ H Q h => (tG.bind (R := RB) (c := ta) (k := fun c s m1 => if c = true then ca s m1 else cb s m1) h).imp fun x H1 h2 => by
    obtain ⟨io, F, m, sd, d, S, rs, r, p⟩ := h2
    cases r
    cases x with
    | true => exact ⟨io, F, m, sd, S, rs, p⟩
    | false => exact ⟨io, F, m, sd, S, rs, p⟩
/-- a < b < c -/
def mChain (f g : O2) (a b c : ME) : ME := fun s m => (a s m).bind fun x m1 => (b s m1).bind fun y m2 => match f x y m2 with
  | some (.bl true) => (c s m2).bind fun z m3 => Res.of (g y z m3) m3
  | some (.bl false) => .ok (.bl false) m2
  | _ => .bad
theorem tChain_of {f g : O2} {σ : L2.St} {H : Hp} {Q : VK} (h : tE (ctOf X) W (mChain f g ca cb cc) σ H Q) : tChain (rD (ctOf X) f) (rD (ctOf X) g) (tE (ctOf X) W ca) (tE (ctOf X) W cb) (tE (ctOf X) W cc) σ H Q := by
  refine (tG.bind (R := RD (ctOf X)) (c := ca) (k := fun x s m1 => (cb s m1).bind fun y m2 => match f x y m2 with
    | some (.bl true) => (cc s m2).bind fun z m3 => Res.of (g y z m3) m3
    | some (.bl false) => .ok (.bl false) m2
    | _ => .bad) h).imp fun x H1 h2 => ?_
  refine (tK.bind (R := RD (ctOf X)) (monoD _) h2).imp fun y H2 h3 => ?_
  obtain ⟨io, F, m, sd, ⟨d, e⟩, S, rs, ⟨r1, r2⟩, p⟩ := h3
  simp only at r1 r2 p
  cases q : f d e m with
  | none => rw [q] at p; exact p.elim
  | some z =>
    refine ⟨io, F, m, d, e, S, r1, r2, z, q, fun io' F' H' v E S' r => ?_⟩
    rw [q] at p
    cases z with
    | bl kk =>
      simp only [RelD] at r
      refine ⟨kk, r, ?_⟩
      cases kk with
      | true =>
        refine (if_pos rfl).mpr ?_
        have h4 : tK (RD (ctOf X)) (RD (ctOf X)) (ctOf X) W (fun y s m2 => (cc s m2).bind fun z m3 => Res.of (g y z m3) m3) y σ H' Q := ⟨io', F', m, sd, e, S', rs.mono (S.mono E), r2.mono (S.mono E), p.ext E⟩
        refine (tK.bind (R := RD (ctOf X)) (monoD _) h4).imp fun w H3 h5 => ?_
        obtain ⟨io, F, m, sd, ⟨d, e⟩, S, rs, ⟨r1, r2⟩, p⟩ := h5
        obtain ⟨z, hz, k⟩ := p.of_
        exact ⟨io, F, m, d, e, S, r1, r2, z, hz, k⟩
      | false => exact (p.ext E).now S' (by simp only [RelD])
    | _ => exact p.elim
theorem d_chain {f g : O2} {op op' : CmpOp} (hf : OpR X (compareOp op) (rD (ctOf X) f)) (hg : OpR X (compareOp op') (rD (ctOf X) g)) (ha : PE X a (tE (ctOf X) W ca)) (hb : PE X b (tE (ctOf X) W cb)) (hc : PE X c (tE (ctOf X) W cc))
    (hm : lastMarks [op, op'] [b, c] = false := by rfl) : PE X (.Compare a [op, op'] [b, c] pos) (tE (ctOf X) W (mChain f g ca cb cc)) := pe_imp (pe_chain hf hg ha hb hc hm) fun σ H Q h => tChain_of h
theorem d_tchain {f g : O2} {op op' : CmpOp} (hf : OpR X (compareOp op) (rD (ctOf X) f)) (hg : OpR X (compareOp op') (rD (ctOf X) g)) (ha : PE X a (tE (ctOf X) W ca)) (hb : PE X b (tE (ctOf X) W cb)) (hc : PE X c (tE (ctOf X) W cc))
    (hm : lastMarks [op, op'] [b, c] = false := by rfl) : PT X (.Compare a [op, op'] [b, c] pos) (tT (ctOf X) W (mT (mChain f g ca cb cc))) := pt_imp (pt_chain hf hg ha hb hc hm) fun σ H Q h => tChain_of (tT_of h)

/-! ### tuples, lists -/
def mTup (a : MA) : ME := fun s m => (a s m).bind fun ds m1 => if ds.length ≤ sizeLine then .ok (.tup ds) m1 else .bad
def mLst (a : MA) : ME := fun s m => (a s m).bind fun ds m1 => if ds.length ≤ sizeLine then .ok (.lst ds) m1 else .bad
def mNewL (a : MA) : ME := fun s m => (a s m).bind fun ds m1 => if ds.length ≤ sizeLine then .ok (.ref m1.nx) (m1.add (.lst ds)) else .bad
theorem d_tup {kk : Nat} (ha : PA X es (tA (ctOf X) W cA)) : PE X (.Tuple es kk pos) (tE (ctOf X) W (mTup cA)) :=
  pe_imp (pe_tup ha) fun σ H Q h => (tG.bind (R := RDs (ctOf X)) (c := cA) (R' := RD (ctOf X)) (k := fun ds s m1 => if ds.length ≤ sizeLine then .ok (D.tup ds) m1 else .bad) h).imp fun xs H1 h2 => by
    obtain ⟨io, F, m, sd, ds, S, rs, r, p⟩ := h2
    simp only at p
    split at p
    · rename_i hl
      refine ⟨by rw [← r.len]; exact hl, fun q hq => ?_⟩
      have t : Then (ctOf X) io F m H1 (.tup ds) Q := p
      exact t.newT S hq r
    · exact p.elim
theorem d_lst (ha : PA X es (tA (ctOf X) W cA)) : PE X (.List es pos) (tE (ctOf X) W (mLst cA)) :=
  pe_imp (pe_lst ha) fun σ H Q h => (tG.bind (R := RDs (ctOf X)) (c := cA) (R' := RD (ctOf X)) (k := fun ds s m1 => if ds.length ≤ sizeLine then .ok (D.lst ds) m1 else .bad) h).imp fun xs H1 h2 => by
    obtain ⟨io, F, m, sd, ds, S, rs, r, p⟩ := h2
    simp only at p
    split at p
    · rename_i hl
      refine ⟨by rw [← r.len]; exact hl, fun q hq => ?_⟩
      have t : Then (ctOf X) io F m H1 (.lst ds) Q := p
      exact t.newL S hq r
    · exact p.elim
theorem d_newL (ha : PA X es (tA (ctOf X) W cA)) : PE X (.List es pos) (tE (ctOf X) W (mNewL cA)) :=
  pe_imp (pe_lst ha) fun σ H Q h => (tG.bind (R := RDs (ctOf X)) (c := cA) (R' := RD (ctOf X)) (k := fun ds s m1 => if ds.length ≤ sizeLine then .ok (D.ref m1.nx) (m1.add (.lst ds)) else .bad) h).imp fun xs H1 h2 => by
    obtain ⟨io, F, m, sd, ds, S, rs, r, p⟩ := h2
    simp only at p
    split at p
    · rename_i hl
      refine ⟨by rw [← r.len]; exact hl, fun q hq => ?_⟩
      have E := Ext.alloc (u := .lst ds) (o := .lst xs) S hq
      refine p _ _ _ _ E (S.alloc hq ⟨xs, upd_same, r.mono (S.mono E)⟩) ?_
      simp only [RD, RelD]
      exact ⟨Nat.lt_succ_self _, by rw [ioN_self]⟩
    · exact p.elim

/-! ### subscripts -/
def ixD (i : Int) (ds : List D) : Option D := atI ds i
def opIx : O2 := fun x y m => match view m x, view m y with
  | .tup ds, .int i => atI ds i
  | .lst ds, .int i => atI ds i
  | .scr ns, .int i => (atI ns i).map D.int
  | .str z, .int i => if z.length ≤ sizeLine then (atI z.cps.toList i).map fun c => .str ⟨#[c]⟩ else none
  | .dk ks ds, w => (match keyOf w with
    | some k => look ks ds k
    | none => none)
  | .dt ks ds, .tup es => (match ikeysOf es with
    | some k => look ks ds k
    | none => none)
  | _, _ => none
theorem atI_rel {K : PySem.W.Frag} {io : Nat → Addr} {F : Addr → Prop} {n : Nat} {H : Hp} {ds : List D} {vs : List V} {i : Int} {d : D} (r : RelDs K io F n H ds vs) (e : atI ds i = some d) : ∃ v, atI vs i = some v ∧ RelD K io F n H d v := by
  unfold atI at e ⊢
  rw [← r.len]
  cases q : ixN ds.length i with
  | none => rw [q] at e; cases e
  | some j =>
    rw [q] at e
    exact r.get e
theorem atI_map {α β : Type} (f : α → β) (xs : List α) (i : Int) : atI (xs.map f) i = (atI xs i).map f := by
  unfold atI
  rw [List.length_map]
  cases ixN xs.length i with
  | none => rfl
  | some j => simp
theorem opIx_inv {x y z : D} {m : Mem} (h : opIx x y m = some z) :
    (∃ ds i, view m x = .tup ds ∧ view m y = .int i ∧ atI ds i = some z) ∨ (∃ ds i, view m x = .lst ds ∧ view m y = .int i ∧ atI ds i = some z) ∨
    (∃ ns i j, view m x = .scr ns ∧ view m y = .int i ∧ atI ns i = some j ∧ z = .int j) ∨ (∃ s i c, view m x = .str s ∧ view m y = .int i ∧ s.length ≤ sizeLine ∧ atI s.cps.toList i = some c ∧ z = .str ⟨#[c]⟩) ∨
    (∃ ks ds k, view m x = .dk ks ds ∧ keyOf (view m y) = some k ∧ look ks ds k = some z) ∨ (∃ ks ds es k, view m x = .dt ks ds ∧ view m y = .tup es ∧ ikeysOf es = some k ∧ look ks ds k = some z) := by
  unfold opIx at h
  split at h
  · exact .inl ⟨_, _, ‹_›, ‹_›, h⟩
  · exact .inr (.inl ⟨_, _, ‹_›, ‹_›, h⟩)
  · rw [Option.map_eq_some_iff] at h
    obtain ⟨j, h, rfl⟩ := h
    exact .inr (.inr (.inl ⟨_, _, j, ‹_›, ‹_›, h, rfl⟩))
  · split at h
    · rw [Option.map_eq_some_iff] at h
      obtain ⟨j, h, rfl⟩ := h
      exact .inr (.inr (.inr (.inl ⟨_, _, j, ‹_›, ‹_›, ‹_›, h, rfl⟩)))
    · cases h
  · split at h
    · exact .inr (.inr (.inr (.inr (.inl ⟨_, _, _, ‹_›, ‹_›, h⟩))))
    · cases h
  · split at h
    · exact .inr (.inr (.inr (.inr (.inr ⟨_, _, _, _, ‹_›, ‹_›, ‹_›, h⟩))))
    · cases h
  · cases h
/-- the item at values -/
theorem ix_get (hu : X.A.units + 65 < cLine) {value slice : Expr} {pins : List (Addr × Obj)} {s : Shared} {σ : L2.St} {H : Hp} {x y : V} {v u : Value} {Q : VK} (I : L2.Inv X pins σ H s) (rx : RelV x v) (ry : RelV y u)
    (h : rD (ctOf X) opIx x y H Q) (hs : subscripted slice false v u = operate [v, u] (getItem v u)) : wpAny (model X.prog X.w) X.A (subscriptTail value slice v u) (EP X pins σ Q) X.xe s := by
  obtain ⟨io, F, m, d, e, S, rd, re, z, hz, k⟩ := h
  rcases opIx_inv hz with ⟨ds, i, e1, e2, g0⟩ | ⟨ds, i, e1, e2, g0⟩ | ⟨ns, i, j, e1, e2, g0, rfl⟩ | ⟨t, i, c, e1, e2, hl, g0, rfl⟩ | ⟨ks, ds, kk, e1, e2, g0⟩ | ⟨ks, ds, es, kk, e1, e2, e3, g0⟩
  · obtain ⟨a, xs, rfl, t, q⟩ := is_tup rd e1
    obtain ⟨w, hw, rw_⟩ := atI_rel q g0
    exact ix_tup _ _ pins s σ H _ _ v u Q I rx ry ⟨a, xs, i, w, rfl, is_int re e2, t.sq, hw, k.now S rw_⟩ hs
  · obtain ⟨a, xs, rfl, t, q⟩ := at_lst S rd e1
    obtain ⟨w, hw, rw_⟩ := atI_rel q g0
    exact ix_list _ _ pins s σ H _ _ v u Q I rx ry ⟨a, xs, i, w, rfl, is_int re e2, .inl (.inl t), hw, k.now S rw_⟩ hs
  · obtain ⟨a, rfl, t⟩ := is_scr rd e1
    exact ix_list _ _ pins s σ H _ _ v u Q I rx ry ⟨a, _, i, .int j, rfl, is_int re e2, t.sq, by rw [atI_map, g0]; rfl, k.now S (by simp only [RelD])⟩ hs
  · exact ix_str _ _ pins s σ H _ _ v u Q I rx ry ⟨t, i, c, is_str rd e1, is_int re e2, hl, g0, k.now S (by simp only [RelD])⟩ hs
  · obtain ⟨a, o, rfl, g, h1, h2⟩ := dget S re rd e1 e2
    obtain ⟨w, rfl, rw_⟩ := h1 z g0
    obtain rfl : v = Value.ref a := rx
    refine tail_any (dict_typeIs I g) PySem.F.slot_dict_getitem.lookup ?_ hs
    exact d_getItem (Nat.lt_of_le_of_lt (by omega) hu) I g ry fun w' s3 I3 rw' => ⟨w, H, I3, rw', k.now S rw_⟩
  · obtain ⟨a, o, rfl, g, h1, h2⟩ := dgetT S re rd e1 e2 e3
    obtain ⟨w, rfl, rw_⟩ := h1 z g0
    obtain rfl : v = Value.ref a := rx
    refine tail_any (dict_typeIs I g) PySem.F.slot_dict_getitem.lookup ?_ hs
    exact d_getItem (Nat.lt_of_le_of_lt (by omega) hu) I g ry fun w' s3 I3 rw' => ⟨w, H, I3, rw', k.now S rw_⟩
theorem d_ix (hh : Here k W X) (ha : PE X a (tE (ctOf X) W ca)) (hb : PE X b (tE (ctOf X) W cb)) (hs : PlainIx b := by exact fun _ _ => rfl) : PE X (.Subscript a b pos) (tE (ctOf X) W (mOp opIx ca cb)) :=
  pe_imp (pe_ix (r := rD (ctOf X) opIx) (fun value slice pins s σ H x y v u Q I rx ry h hs => ix_get hh.hu I rx ry h hs) ha hb hs) fun σ H Q h => tOp_of h
end
end Ev

set_option Elab.async false
set_option linter.all false
set_option maxRecDepth 100000
set_option autoImplicit false
/-! Ev6: built-ins, displays of dicts, slices. -/
namespace Ev
open PySem PySem.Spec PyProof.Rows L2
section
variable {X : Cx} {k : Nat} {W : WT} {a b c e : Expr} {es rest : List Expr} {p pos : Pos} {ca cb cc : ME} {cA : MA} {x : Str}

/-! ### built-ins by values -/
abbrev OL := List D → Mem → Option D
def mCB (f : OL) (a : MA) : ME := fun s m => (a s m).bind fun ds m1 => Res.of (f ds m1) m1
def rC (T : Ct) (f : OL) : List V → Hp → VK → Prop := fun xs H Q => ∃ io F m ds, Sim T io F m H ∧ RelDs T.K io F m.nx H ds xs ∧ ∃ z, f ds m = some z ∧ Then T io F m H z Q
theorem tCB_of {f : OL} {σ : L2.St} {H : Hp} {Q : VK} (h : tE (ctOf X) W (mCB f cA) σ H Q) : tCB (rC (ctOf X) f) (tA (ctOf X) W cA) σ H Q := by
  refine (tG.bind (R := RDs (ctOf X)) (c := cA) (k := fun ds s m1 => Res.of (f ds m1) m1) h).imp fun xs H1 h2 => ?_
  obtain ⟨io, F, m, sd, ds, S, rs, r, p⟩ := h2
  obtain ⟨z, hz, kk⟩ := p.of_
  exact ⟨io, F, m, ds, S, r, z, hz, kk⟩
theorem d_cb {f : OL} {id : String} (hc : CallR X (.builtin id) (rC (ctOf X) f)) (hg : Gl X x) (hm : X.mg x = none) (hv : bootBuiltins x = some (.builtin id)) (ha : PA X (e :: es) (tA (ctOf X) W cA)) (hn : x ≠ "__name__" := by decide)
    (hdb : (x == ("__debug__" : Str)) = false := by decide) (he : starEach (e :: es) X.env = (false, eval e X.env) :: starEach es X.env := by rfl) (hpl : (backTo pos (starEach es X.env)).any (·.1) = false := by rfl) :
    PE X (.Call (.Name x p) (e :: es) [] pos) (tE (ctOf X) W (mCB f cA)) := pe_imp (pe_callB hc hg hm hv ha hn hdb he hpl) fun σ H Q h => tCB_of h
theorem d_ct {f : OL} {ty : String} (hc : CallR X (.type ty) (rC (ctOf X) f)) (hg : Gl X x) (hm : X.mg x = none) (hv : bootBuiltins x = some (.type ty)) (ha : PA X (e :: es) (tA (ctOf X) W cA)) (hn : x ≠ "__name__" := by decide)
    (hdb : (x == ("__debug__" : Str)) = false := by decide) (he : starEach (e :: es) X.env = (false, eval e X.env) :: starEach es X.env := by rfl) (hpl : (backTo pos (starEach es X.env)).any (·.1) = false := by rfl) :
    PE X (.Call (.Name x p) (e :: es) [] pos) (tE (ctOf X) W (mCB f cA)) := pe_imp (pe_callTy hc hg hm hv ha hn hdb he hpl) fun σ H Q h => tCB_of h

theorem one_rel {K : PySem.W.Frag} {io : Nat → Addr} {F : Addr → Prop} {n : Nat} {H : Hp} {d : D} {xs : List V} (r : RelDs K io F n H [d] xs) : ∃ v, xs = [v] ∧ RelD K io F n H d v := by
  cases xs with
  | nil => simp only [RelDs] at r
  | cons v vs =>
    cases vs with
    | nil => simp only [RelDs] at r; exact ⟨v, rfl, r.1⟩
    | cons _ _ =>
      simp only [RelDs] at r
      exact r.2.elim
theorem two_rel {K : PySem.W.Frag} {io : Nat → Addr} {F : Addr → Prop} {n : Nat} {H : Hp} {d e : D} {xs : List V} (r : RelDs K io F n H [d, e] xs) : ∃ v u, xs = [v, u] ∧ RelD K io F n H d v ∧ RelD K io F n H e u := by
  cases xs with
  | nil => simp only [RelDs] at r
  | cons v vs =>
    simp only [RelDs] at r
    obtain ⟨u, rfl, r2⟩ := one_rel (d := e) (xs := vs) r.2
    exact ⟨v, u, rfl, r.1, r2⟩
/-- len -/
def opLen : OL := fun ds m => match ds with
  | [x] => (match view m x with
    | .str z => if z.length ≤ sizeLine then some (.int z.length) else none
    | .tup ds => some (.int ds.length)
    | .lst ds => some (.int ds.length)
    | .scr ns => some (.int ns.length)
    | .dk ks ds => (match x with
      | .ref i => some (.int ks.length)
      | _ => none)
    | _ => none)
  | _ => none
theorem c_len : CallR X (.builtin "len") (rC (ctOf X) opLen) := by
  intro pins s σ H xs us Q I rx h
  obtain ⟨io, F, m, ds, S, r, z, hz, kk⟩ := h
  unfold opLen at hz
  split at hz
  · rename_i d
    obtain ⟨v, rfl, rv⟩ := one_rel r
    split at hz
    · rename_i t e1
      split at hz
      · rename_i hl
        cases hz
        exact call_len pins s σ H _ us Q I rx ⟨v, t.length, rfl, by rw [is_str rv e1]; exact ⟨hl, rfl⟩, kk.now S (by simp only [RelD])⟩
      · cases hz
    · rename_i t e1
      cases hz
      obtain ⟨a, xs, rfl, tt, q⟩ := is_tup rv e1
      exact call_len pins s σ H _ us Q I rx ⟨_, t.length, rfl, .inr ⟨xs, tt.sq, q.len⟩, kk.now S (by simp only [RelD])⟩
    · rename_i t e1
      cases hz
      obtain ⟨a, xs, rfl, tt, q⟩ := at_lst S rv e1
      exact call_len pins s σ H _ us Q I rx ⟨_, t.length, rfl, .inl ⟨xs, .inl (.inl tt), q.len⟩, kk.now S (by simp only [RelD])⟩
    · rename_i t e1
      cases hz
      obtain ⟨a, rfl, tt⟩ := is_scr rv e1
      exact call_len pins s σ H _ us Q I rx ⟨_, t.length, rfl, .inl ⟨_, tt.sq, by rw [List.length_map]⟩, kk.now S (by simp only [RelD])⟩
    · rename_i ks ds e1
      split at hz
      · rename_i i
        cases hz
        rw [view_ref] at e1
        cases q : m.ob i with
        | none => rw [q] at e1; cases e1
        | some u =>
          rw [q] at e1
          cases u with
          | dk ks' ds' =>
            cases e1
            obtain ⟨kvs, h1, h2, h3⟩ := S.ob i _ q
            simp only [RelD] at rv
            refine call_lenD pins s σ H _ us Q I rx ⟨io i, kvs, by rw [rv.2], h1, ?_⟩
            have : kvs.length = ks.length := by rw [← h2, List.length_map]
            rw [this]
            exact kk.now S (by simp only [RelD])
          | lst _ => cases e1
          | dt _ _ => cases e1
          | ins _ _ => cases e1
      · cases hz
    · cases hz
  · cases hz
/-- abs -/
def opAbs : OL := fun ds m => match ds with
  | [x] => (match view m x with
    | .int i => some (.int (if i < 0 then -i else i))
    | _ => none)
  | _ => none
theorem c_abs : CallR X (.builtin "abs") (rC (ctOf X) opAbs) := by
  intro pins s σ H xs us Q I rx h
  obtain ⟨io, F, m, ds, S, r, z, hz, kk⟩ := h
  unfold opAbs at hz
  split at hz
  · obtain ⟨v, rfl, rv⟩ := one_rel r
    split at hz
    · rename_i i e1
      cases hz
      exact call_abs pins s σ H _ us Q I rx ⟨i, by rw [is_int rv e1], kk.now S (by simp only [RelD])⟩
    · cases hz
  · cases hz
/-- int of an int, a truth, a text -/
def opInt1 : OL := fun ds m => match ds with
  | [x] => (match view m x with
    | .int i => some (.int i)
    | .bl b => some (.int (if b = true then 1 else 0))
    | .str z => if z.length ≤ 640 then (intText? z).map D.int else none
    | _ => none)
  | _ => none
theorem c_int : CallR X (.type "int") (rC (ctOf X) opInt1) := by
  intro pins s σ H xs us Q I rx h
  obtain ⟨io, F, m, ds, S, r, z, hz, kk⟩ := h
  unfold opInt1 at hz
  split at hz
  · obtain ⟨v, rfl, rv⟩ := one_rel r
    split at hz
    · rename_i i e1
      cases hz
      exact call_int1 pins s σ H _ us Q I rx (.inl ⟨i, by rw [is_int rv e1], kk.now S (by simp only [RelD])⟩)
    · rename_i i e1
      cases hz
      exact call_int1 pins s σ H _ us Q I rx (.inr ⟨i, by rw [is_bl rv e1], kk.now S (by simp only [RelD])⟩)
    · rename_i t e1
      split at hz
      · rename_i hl
        rw [Option.map_eq_some_iff] at hz
        obtain ⟨n, hn, rfl⟩ := hz
        exact call_int_str pins s σ H _ us Q I rx ⟨t, n, by rw [is_str rv e1], hn, hl, kk.now S (by simp only [RelD])⟩
      · cases hz
    · cases hz
  · cases hz
/-- str of an int -/
def opStr : OL := fun ds m => match ds with
  | [x] => (match view m x with
    | .int i => if i.natAbs.log2 < 1920 then some (.str (Str.ofString (toString i))) else none
    | _ => none)
  | _ => none
theorem c_str : CallR X (.type "str") (rC (ctOf X) opStr) := by
  intro pins s σ H xs us Q I rx h
  obtain ⟨io, F, m, ds, S, r, z, hz, kk⟩ := h
  unfold opStr at hz
  split at hz
  · obtain ⟨v, rfl, rv⟩ := one_rel r
    split at hz
    · rename_i i e1
      split at hz
      · rename_i hl
        cases hz
        exact call_str_int pins s σ H _ us Q I rx ⟨i, by rw [is_int rv e1], hl, kk.now S (by simp only [RelD])⟩
      · cases hz
    · cases hz
  · cases hz
/-- list, tuple of a list or tuple -/
theorem ints_rel (K : PySem.W.Frag) (io : Nat → Addr) (F : Addr → Prop) (n : Nat) (H : Hp) : ∀ ns : List Int, RelDs K io F n H (ns.map D.int) (ns.map V.int)
  | [] => by simp only [List.map_nil, RelDs]
  | i :: r => by simp only [List.map_cons, RelDs, RelD]; exact ⟨trivial, ints_rel K io F n H r⟩
def opList : OL := fun ds m => match ds with
  | [x] => (match view m x with
    | .tup ds => some (.lst ds)
    | .lst ds => some (.lst ds)
    | .scr ns => some (.lst (ns.map D.int))
    | _ => none)
  | _ => none
theorem c_list : CallR X (.type "list") (rC (ctOf X) opList) := by
  intro pins s σ H xs us Q I rx h
  obtain ⟨io, F, m, ds, S, r, z, hz, kk⟩ := h
  unfold opList at hz
  split at hz
  · obtain ⟨v, rfl, rv⟩ := one_rel r
    split at hz
    · rename_i t e1
      cases hz
      obtain ⟨a, xs, rfl, tt, q⟩ := is_tup rv e1
      exact call_list_of pins s σ H _ us Q I rx ⟨a, xs, rfl, .inr tt.sq, fun l hl => kk.newL S hl q⟩
    · rename_i t e1
      cases hz
      obtain ⟨a, xs, rfl, tt, q⟩ := at_lst S rv e1
      exact call_list_of pins s σ H _ us Q I rx ⟨a, xs, rfl, .inl (.inl (.inl tt)), fun l hl => kk.newL S hl q⟩
    · rename_i t e1
      cases hz
      obtain ⟨a, rfl, tt⟩ := is_scr rv e1
      exact call_list_of pins s σ H _ us Q I rx ⟨a, _, rfl, .inl tt.sq, fun l hl => kk.newL S hl (ints_rel _ _ _ _ _ _)⟩
    · cases hz
  · cases hz
def opTuple : OL := fun ds m => match ds with
  | [x] => (match view m x with
    | .tup ds => some (.tup ds)
    | .lst ds => some (.tup ds)
    | _ => none)
  | _ => none
theorem c_tuple : CallR X (.type "tuple") (rC (ctOf X) opTuple) := by
  intro pins s σ H xs us Q I rx h
  obtain ⟨io, F, m, ds, S, r, z, hz, kk⟩ := h
  unfold opTuple at hz
  split at hz
  · obtain ⟨v, rfl, rv⟩ := one_rel r
    split at hz
    · rename_i t e1
      cases hz
      obtain ⟨a, xs, rfl, tt, q⟩ := is_tup rv e1
      exact call_tuple_of pins s σ H _ us Q I rx ⟨a, xs, rfl, .inr ⟨tt.sq, kk.now S (by simp only [RelD]; exact ⟨a, xs, rfl, tt, q⟩)⟩⟩
    · rename_i t e1
      cases hz
      obtain ⟨a, xs, rfl, tt, q⟩ := at_lst S rv e1
      exact call_tuple_of pins s σ H _ us Q I rx ⟨a, xs, rfl, .inl ⟨.inl (.inl tt), fun l hl => kk.newT S hl q⟩⟩
    · cases hz
  · cases hz
/-- isinstance(x, T), T a built-in type -/
def tyD (m : Mem) (x : D) : Option String := match view m x with
  | .non => some "NoneType"
  | .bl _ => some "bool"
  | .int _ => some "int"
  | .str _ => some "str"
  | .tup _ => some "tuple"
  | .lst _ => some "list"
  | .scr _ => some "list"
  | .dk _ _ => some "dict"
  | _ => none
def opIsi (ty : String) : O1 := fun x m => match tyD m x with
  | some n => (kitB n ty).map D.bl
  | none => none
theorem ty_rel {T : Ct} {io : Nat → Addr} {F : Addr → Prop} {m : Mem} {H : Hp} {d : D} {v : V} {n : String} (S : Sim T io F m H) (r : RelD T.K io F m.nx H d v) (e : tyD m d = some n) : TyX T.K H v (.type n) := by
  unfold tyD at e
  split at e
  · rename_i e1
    cases e
    rcases view_inv e1 with ⟨j, rfl⟩ | rfl
    · rcases view_ref_ne e1 with ⟨_, z⟩ | ⟨_, _, z⟩ | ⟨_, _, z⟩ | z <;> cases z
    · simp only [RelD] at r; subst r; exact .base .non
  · rename_i b e1; cases e; rw [is_bl r e1]; exact .base (.bl b)
  · rename_i b e1; cases e; rw [is_int r e1]; exact .base (.int b)
  · rename_i b e1; cases e; rw [is_str r e1]; exact .base (.str b)
  · rename_i b e1
    cases e
    obtain ⟨a, xs, rfl, t, q⟩ := is_tup r e1
    rcases t with ⟨_, t⟩ | ⟨⟨o, its, n, h1, h2, _⟩, _⟩
    · exact .base (.tup t)
    · exact .kTuple h1 h2
  · rename_i b e1
    cases e
    obtain ⟨a, xs, rfl, t, q⟩ := at_lst S r e1
    exact .base (.lst t)
  · rename_i b e1
    cases e
    obtain ⟨a, rfl, t⟩ := is_scr r e1
    exact t.ty
  · rename_i b _ e1
    cases e
    obtain ⟨a, kvs, rfl, t, q⟩ := at_dk S r e1
    rcases t with t | ⟨o, t⟩
    · exact .base (.dK t)
    · exact .fDict t
  · cases e
theorem d_isi {ty : String} {tn : Str} {p2 : Pos} (hg : Gl X "isinstance") (hm : X.mg "isinstance" = none) (hg2 : Gl X tn) (hm2 : X.mg tn = none) (hv2 : bootBuiltins tn = some (.type ty)) (ha : PE X e (tE (ctOf X) W ca))
    (hn : tn ≠ "__name__" := by decide) (hdb : (tn == ("__debug__" : Str)) = false := by decide) (he : starEach [e, .Name tn p2] X.env = (false, eval e X.env) :: starEach [.Name tn p2] X.env := by rfl)
    (he2 : starEach [.Name tn p2] X.env = (false, eval (.Name tn p2) X.env) :: starEach [] X.env := by rfl) (hpl : (backTo pos (starEach [.Name tn p2] X.env)).any (·.1) = false := by rfl) :
    PE X (.Call (.Name "isinstance" p) [e, .Name tn p2] [] pos) (tE (ctOf X) W (mO1 (opIsi ty) ca)) :=
  pe_imp (pe_callB call_isi hg hm boot_isinstance (pa_cons ha (pa_cons (pe_bltn (v := .ty ty) hg2 hm2 hv2 rfl hn hdb) pa_nil he2) he) (by decide) (by decide) he hpl) fun σ H Q h => (tO1_of h).imp fun x H1 h2 => by
    obtain ⟨io, F, m, d, S, r, z, hz, kk⟩ := h2
    unfold opIsi at hz
    split at hz
    · rename_i n e1
      rw [Option.map_eq_some_iff] at hz
      obtain ⟨bb, hb, rfl⟩ := hz
      exact ⟨x, .ty ty, .type n, .type ty, bb, rfl, .ty ty, ty_rel S r e1, kit_ty hb, kk.now S (by simp only [RelD])⟩
    · cases hz
/-- repr -/
def opRepr : OL := fun ds m => match ds with
  | [x] => (match toPy (view m x) with
    | some q => if PyData.showable q = true ∧ SeqAt.shaped q = true ∧ (PyData.shown q).length ≤ sizeLine then some (.str (PyData.shown q)) else none
    | none => none)
  | _ => none
theorem shaped_dict {q : PyData} (h : SeqAt.shaped q = true) : PyData.hasDict q = false := by
  have := SeqAt.canLay_of_shaped h
  exact PyData.hasDict_of_canLay q this
theorem c_repr (hh : Here k W X) : CallR X (.builtin "repr") (rC (ctOf X) opRepr) := by
  intro pins s σ H xs us Q I rx h
  obtain ⟨io, F, m, ds, S, r, z, hz, kk⟩ := h
  unfold opRepr at hz
  split at hz
  · rename_i d
    obtain ⟨v, rfl, rv⟩ := one_rel r
    split at hz
    · rename_i q e1
      split at hz
      · rename_i hs
        obtain ⟨s1, s2, s3⟩ := hs
        cases hz
        have hd := topDp S rv e1
        have fin := kk.now S (v := .str (PyData.shown q)) (by simp only [RelD])
        cases rx with
        | cons r1 r2 =>
          rename_i u us'
          cases r2
          obtain ⟨as, rd⟩ := Dp.reads I q v _ hd r1
          have hdep : PyData.depth q ≤ 64 := by
            have := s2
            unfold SeqAt.shaped at this
            simp only [Bool.and_eq_true, decide_eq_true_eq] at this
            exact this.2
          have hu := hh.rm.un
          cases hd with
          | non =>
            cases r1
            exact PySem.P.repr_of_none ⟨.str _, H, I.tok _, ⟨_, rfl⟩, fin⟩
          | bl bb =>
            cases r1
            refine PySem.P.repr_of_bool ⟨.str _, H, I.tok _, ⟨_, rfl⟩, ?_⟩
            cases bb <;> exact fin
          | int i =>
            obtain ⟨t, rfl⟩ := r1
            simp only [PyData.showable, decide_eq_true_eq] at s1
            exact PySem.P.repr_of_int s1 ⟨.str _, H, I.tok _, ⟨_, rfl⟩, fin⟩
          | str t =>
            obtain ⟨tk, rfl⟩ := r1
            exact PySem.P.repr_of_str ⟨.str _, H, I.tok _, ⟨_, rfl⟩, fin⟩ s3
          | lst h1 h2 =>
            cases r1
            exact PySem.repr_of_reads' rd s1 (fun z => by rw [shaped_dict s2] at z; cases z) hh.gd (by omega) (fun _ _ e => e) (fun h' u tk hk => ⟨.str _, H, I.kept (t' := tk) hk, ⟨_, rfl⟩, fin⟩) s3
          | tup h1 h2 =>
            cases r1
            exact PySem.repr_of_reads' rd s1 (fun z => by rw [shaped_dict s2] at z; cases z) hh.gd (by omega) (fun _ _ e => e) (fun h' u tk hk => ⟨.str _, H, I.kept (t' := tk) hk, ⟨_, rfl⟩, fin⟩) s3
      · cases hz
    · cases hz
  · cases hz

/-! ### displays of dicts -/
abbrev MP := Slots → Mem → Res (List (D × D))
def mPn : MP := fun _ m => .ok [] m
def mPc (a b : ME) (r : MP) : MP := fun s m => (a s m).bind fun x m1 => (b s m1).bind fun y m2 => (r s m2).bind fun ps m3 => .ok ((x, y) :: ps) m3
def RelPs (K : PySem.W.Frag) (io : Nat → Addr) (F : Addr → Prop) (n : Nat) (H : Hp) : List (D × D) → List (V × V) → Prop
  | [], [] => True
  | d :: ds, v :: vs => (RelD K io F n H d.1 v.1 ∧ RelD K io F n H d.2 v.2) ∧ RelPs K io F n H ds vs
  | _, _ => False
abbrev RPs (T : Ct) : RelT (List (D × D)) (List (V × V)) := fun io F n H a b => RelPs T.K io F n H a b
/-- the pairs of a display -/
structure DPs (X : Cx) (W : WT) (pos : Pos) (keys : List (Option Expr)) (values : List Expr) (cp : MP) : Prop where
  ex : ∃ trs, PPs X pos keys values trs ∧ ∀ σ H Q, tG (RPs (ctOf X)) (ctOf X) W cp σ H Q → tPairs trs σ H Q
theorem d_pn : DPs X W pos [] [] mPn := ⟨[], pps_nil, fun σ H Q h => by
  obtain ⟨io, F, m, sd, S, rs, p⟩ := h
  exact Post.now (R := RPs (ctOf X)) S p (by simp only [RelPs])⟩
theorem d_pc {ks : List (Option Expr)} {vs : List Expr} {cp : MP} (ha : PE X a (tE (ctOf X) W ca)) (hb : PE X b (tE (ctOf X) W cb)) (hr : DPs X W pos ks vs cp) : DPs X W pos (some a :: ks) (b :: vs) (mPc ca cb cp) := by
  obtain ⟨trs, h1, h2⟩ := hr.ex
  refine ⟨(tE (ctOf X) W ca, tE (ctOf X) W cb) :: trs, pps_cons ha hb h1, fun σ H Q h => ?_⟩
  show tE (ctOf X) W ca σ H fun kk H1 => tE (ctOf X) W cb σ H1 fun v H2 => tPairs trs σ H2 fun ps H3 => Q ((kk, v) :: ps) H3
  refine (tG.bind (R := RD (ctOf X)) (c := ca) (k := fun x s m1 => (cb s m1).bind fun y m2 => (cp s m2).bind fun ps m3 => .ok ((x, y) :: ps) m3) h).imp fun x H1 h3 => ?_
  refine (tK.bind (R := RD (ctOf X)) (monoD _) h3).imp fun y H2 h4 => ?_
  refine h2 _ _ _ ((tK.bind (R := RPs (ctOf X)) (monoP (monoD _) (monoD _)) h4).imp fun ps H3 h5 => ?_)
  obtain ⟨io, F, m, sd, ⟨⟨d, e⟩, qs⟩, S, rs, ⟨⟨r1, r2⟩, r3⟩, p⟩ := h5
  exact Post.now (R := RPs (ctOf X)) S p (by simp only [RelPs]; exact ⟨⟨r1, r2⟩, r3⟩)
/-- the entries that such pairs make -/
def dictK : List (D × D) → Option (List (Key × D))
  | [] => some []
  | (k, d) :: r => match keyOf k, dictK r with
    | some x, some ps => some ((x, d) :: ps)
    | _, _ => none
def putD {κ : Type} [DecidableEq κ] (kvs : List (κ × D)) (k : κ) (v : D) : List (κ × D) :=
  if (kvs.any fun kv => decide (kv.1 = k)) = true then kvs.map fun kv => if kv.1 = k then (kv.1, v) else kv else kvs ++ [(k, v)]
def mergeD (kvs more : List (Key × D)) : List (Key × D) := more.foldl (fun acc kv => putD acc kv.1 kv.2) kvs
/-- entries, side by side -/
def RelE {κ : Type} (K : PySem.W.Frag) (io : Nat → Addr) (F : Addr → Prop) (n : Nat) (H : Hp) : List (κ × D) → List (κ × V) → Prop
  | [], [] => True
  | d :: ds, v :: vs => (d.1 = v.1 ∧ RelD K io F n H d.2 v.2) ∧ RelE K io F n H ds vs
  | _, _ => False
section
variable {κ : Type} {K : PySem.W.Frag} {io : Nat → Addr} {F : Addr → Prop} {n : Nat} {H : Hp}
theorem RelE.split : ∀ {ds : List (κ × D)} {vs : List (κ × V)}, RelE K io F n H ds vs → vs.map (·.1) = ds.map (·.1) ∧ RelDs K io F n H (ds.map (·.2)) (vs.map (·.2))
  | [], [], _ => ⟨rfl, by simp only [List.map_nil, RelDs]⟩
  | [], _ :: _, h => by simp only [RelE] at h
  | _ :: _, [], h => by simp only [RelE] at h
  | d :: ds, v :: vs, h => by
    simp only [RelE] at h
    obtain ⟨h1, h2⟩ := RelE.split h.2
    simp only [List.map_cons, RelDs]
    exact ⟨by rw [h1, h.1.1], h.1.2, h2⟩
theorem RelE.join : ∀ {ds : List (κ × D)} {vs : List (κ × V)}, vs.map (·.1) = ds.map (·.1) → RelDs K io F n H (ds.map (·.2)) (vs.map (·.2)) → RelE K io F n H ds vs
  | [], [], _, _ => by simp only [RelE]
  | [], _ :: _, h, _ => by cases h
  | _ :: _, [], h, _ => by cases h
  | d :: ds, v :: vs, h, r => by
    simp only [List.map_cons, RelDs] at r
    simp only [List.map_cons, List.cons.injEq] at h
    simp only [RelE]
    exact ⟨⟨h.1.symm, r.1⟩, RelE.join h.2 r.2⟩
theorem RelE.app : ∀ {ds es : List (κ × D)} {vs ws : List (κ × V)}, RelE K io F n H ds vs → RelE K io F n H es ws → RelE K io F n H (ds ++ es) (vs ++ ws)
  | [], _, [], _, _, k => k
  | [], _, _ :: _, _, h, _ => by simp only [RelE] at h
  | _ :: _, _, [], _, h, _ => by simp only [RelE] at h
  | _ :: ds, _, _ :: vs, _, h, k => by
    simp only [RelE] at h
    simp only [List.cons_append, RelE]
    exact ⟨h.1, RelE.app h.2 k⟩
variable [DecidableEq κ]
theorem RelE.any {k : κ} : ∀ {ds : List (κ × D)} {vs : List (κ × V)}, RelE K io F n H ds vs → (ds.any fun kv => decide (kv.1 = k)) = (vs.any fun kv => decide (kv.1 = k))
  | [], [], _ => rfl
  | [], _ :: _, h => by simp only [RelE] at h
  | _ :: _, [], h => by simp only [RelE] at h
  | d :: ds, v :: vs, h => by
    simp only [RelE] at h
    simp only [List.any_cons, RelE.any h.2, h.1.1]
theorem RelE.repl {k : κ} {d : D} {v : V} (r : RelD K io F n H d v) : ∀ {ds : List (κ × D)} {vs : List (κ × V)}, RelE K io F n H ds vs → RelE K io F n H (ds.map fun kv => if kv.1 = k then (kv.1, d) else kv) (vs.map fun kv => if kv.1 = k then (kv.1, v) else kv)
  | [], [], _ => by simp only [List.map_nil, RelE]
  | [], _ :: _, h => by simp only [RelE] at h
  | _ :: _, [], h => by simp only [RelE] at h
  | e :: ds, u :: vs, h => by
    simp only [RelE] at h
    simp only [List.map_cons, RelE]
    refine ⟨?_, RelE.repl r h.2⟩
    rw [h.1.1]
    by_cases hk : u.1 = k
    · simp only [if_pos hk]; exact ⟨trivial, r⟩
    · simp only [if_neg hk]; exact h.1
theorem RelE.put {k : κ} {d : D} {v : V} {ds : List (κ × D)} {vs : List (κ × V)} (h : RelE K io F n H ds vs) (r : RelD K io F n H d v) : RelE K io F n H (putD ds k d) (putK vs k v) := by
  unfold putD putK
  rw [h.any]
  split
  · exact h.repl r
  · exact h.app (by simp only [RelE]; exact ⟨⟨trivial, r⟩, trivial⟩)
end
theorem RelE.merge {K : PySem.W.Frag} {io : Nat → Addr} {F : Addr → Prop} {n : Nat} {H : Hp} : ∀ {es : List (Key × D)} {ws : List (Key × V)} {ds : List (Key × D)} {vs : List (Key × V)}, RelE K io F n H ds vs → RelE K io F n H es ws → RelE K io F n H (mergeD ds es) (mergeK vs ws)
  | [], [], ds, vs, h, _ => h
  | [], _ :: _, _, _, _, h => by simp only [RelE] at h
  | _ :: _, [], _, _, _, h => by simp only [RelE] at h
  | e :: es, w :: ws, ds, vs, h, r => by
    simp only [RelE] at r
    unfold mergeD mergeK
    rw [List.foldl_cons, List.foldl_cons, r.1.1]
    exact RelE.merge (h.put r.1.2) r.2
theorem dictK_rel {K : PySem.W.Frag} {io : Nat → Addr} {F : Addr → Prop} {n : Nat} {H : Hp} : ∀ {ds : List (D × D)} {vs : List (V × V)} {ps : List (Key × D)}, RelPs K io F n H ds vs → dictK ds = some ps → ∃ ws : List (Key × V), vs = ws.map (fun kv => (kV kv.1, kv.2)) ∧ RelE K io F n H ps ws
  | [], [], ps, _, e => by simp only [dictK, Option.some.injEq] at e; subst e; exact ⟨[], rfl, by simp only [RelE]⟩
  | [], _ :: _, _, r, _ => by simp only [RelPs] at r
  | _ :: _, [], _, r, _ => by simp only [RelPs] at r
  | (kk, d) :: ds, v :: vs, ps, r, e => by
    simp only [RelPs] at r
    unfold dictK at e
    split at e
    · rename_i x qs e1 e2
      cases e
      obtain ⟨ws, rfl, h2⟩ := dictK_rel r.2 e2
      refine ⟨(x, v.2) :: ws, ?_, ?_⟩
      · rw [List.map_cons, ← keyOf_rel r.1.1 e1]
      · simp only [RelE]; exact ⟨⟨trivial, r.1.2⟩, h2⟩
    · cases e
def mDict (p : MP) : ME := fun s m => (p s m).bind fun ps m1 => match dictK ps with
  | some es => if es.length ≤ 15 then .ok (.dk ((mergeD [] es).map (·.1)) ((mergeD [] es).map (·.2))) m1 else .bad
  | none => .bad
def mNewD (p : MP) : ME := fun s m => (p s m).bind fun ps m1 => match dictK ps with
  | some es => if es.length ≤ 15 then .ok (.ref m1.nx) (m1.add (.dk ((mergeD [] es).map (·.1)) ((mergeD [] es).map (·.2)))) else .bad
  | none => .bad
theorem d_dict {keys : List (Option Expr)} {values : List Expr} {cp : MP} (h : DPs X W pos keys values cp) (h1 : (keys.all fun x => x.isSome) = true := by rfl) (h2 : keys.length = values.length := by rfl) (h3 : keys ≠ [] := by exact fun z => by cases z) (h4 : keys.length ≤ 15 := by decide) :
    PE X (.Dict keys values pos) (tE (ctOf X) W (mDict cp)) := by
  obtain ⟨trs, hp, hr⟩ := h.ex
  refine pe_imp (pe_disp hp h1 h2 h3 h4) fun σ H Q h q hq => ?_
  obtain ⟨io, F, m, sd, S, rs, ps⟩ := h
  obtain ⟨S1, E1⟩ := S.extra (o := .dK []) hq
  have L1 := Loose.new S hq
  refine hr _ _ _ ⟨io, F, m, sd, S1, rs.mono (S.mono E1), ?_⟩
  unfold mDict at ps
  cases e0 : cp sd m with
  | bad => rw [e0] at ps; exact ps.elim
  | exc C fs m1 => rw [e0] at ps; exact ps.ext E1
  | ok qs m1 =>
    rw [e0] at ps
    intro io1 F1 H2 vs E2 S2 r
    obtain ⟨L2, hq2⟩ := L1.ext (p := q) (H := upd H q (.dK [])) E2 upd_same
    refine ⟨hq2, ?_⟩
    simp only [Res.bind_ok] at ps
    split at ps
    · rename_i es e1
      split at ps
      · rename_i hl
        obtain ⟨ws, rfl, rE⟩ := dictK_rel r e1
        have hlen : ws.length = es.length := by
          have := (RelE.split rE).1
          have := congrArg List.length this
          simpa using this
        refine ⟨ws, rfl, by rw [hlen]; exact hl, ?_⟩
        have S3 := L2.put (o' := .dK (mergeK [] ws)) S2
        have rM := (RelE.merge (ds := []) (vs := []) (by simp only [RelE]) rE).split
        obtain ⟨S4, M4⟩ := S3.ownF L2 upd_same
        refine ps io1 (orF F1 q) _ _ ((Ext.loose hq E2).ownF hq) S4 ?_
        simp only [RD, RelD]
        exact ⟨q, mergeK [] ws, rfl, .inr rfl, .inl upd_same, rM.1, (rM.2.mono (L2.mono (o' := .dK (mergeK [] ws)))).mono M4⟩
      · exact ps.elim
    · exact ps.elim
theorem d_newD {keys : List (Option Expr)} {values : List Expr} {cp : MP} (h : DPs X W pos keys values cp) (h1 : (keys.all fun x => x.isSome) = true := by rfl) (h2 : keys.length = values.length := by rfl) (h3 : keys ≠ [] := by exact fun z => by cases z) (h4 : keys.length ≤ 15 := by decide) :
    PE X (.Dict keys values pos) (tE (ctOf X) W (mNewD cp)) := by
  obtain ⟨trs, hp, hr⟩ := h.ex
  refine pe_imp (pe_disp hp h1 h2 h3 h4) fun σ H Q h q hq => ?_
  obtain ⟨io, F, m, sd, S, rs, ps⟩ := h
  obtain ⟨S1, E1⟩ := S.extra (o := .dK []) hq
  have L1 := Loose.new S hq
  refine hr _ _ _ ⟨io, F, m, sd, S1, rs.mono (S.mono E1), ?_⟩
  unfold mNewD at ps
  cases e0 : cp sd m with
  | bad => rw [e0] at ps; exact ps.elim
  | exc C fs m1 => rw [e0] at ps; exact ps.ext E1
  | ok qs m1 =>
    rw [e0] at ps
    intro io1 F1 H2 vs E2 S2 r
    obtain ⟨L2, hq2⟩ := L1.ext (p := q) (H := upd H q (.dK [])) E2 upd_same
    refine ⟨hq2, ?_⟩
    simp only [Res.bind_ok] at ps
    split at ps
    · rename_i es e1
      split at ps
      · rename_i hl
        obtain ⟨ws, rfl, rE⟩ := dictK_rel r e1
        have hlen : ws.length = es.length := by
          have := (RelE.split rE).1
          have := congrArg List.length this
          simpa using this
        refine ⟨ws, rfl, by rw [hlen]; exact hl, ?_⟩
        have S3 := L2.put (o' := .dK (mergeK [] ws)) S2
        have rM := (RelE.merge (ds := []) (vs := []) (by simp only [RelE]) rE).split
        have hu : RelO (ctOf X) (ioN io1 m1.nx q) F1 (m1.nx + 1) (upd H2 q (.dK (mergeK [] ws))) (.dk ((mergeD [] es).map (·.1)) ((mergeD [] es).map (·.2))) q := by
          refine ⟨mergeK [] ws, upd_same, rM.1, (rM.2.mono (L2.mono (o' := .dK (mergeK [] ws)))).mono ?_⟩
          exact ⟨Nat.le_succ _, fun i h => ioN_lt h, fun _ h => h, fun _ _ _ h => h, fun _ _ _ h => h, fun _ _ _ _ h => h, fun _ _ _ h => h, fun _ _ _ h => h⟩
        obtain ⟨S4, M4⟩ := S3.ownO (u := .dk ((mergeD [] es).map (·.1)) ((mergeD [] es).map (·.2))) L2 hu
        refine ps _ F1 _ _ ((Ext.loose hq E2).ownO hq) S4 ?_
        simp only [RD, RelD]
        exact ⟨Nat.lt_succ_self _, by rw [ioN_self]⟩
      · exact ps.elim
    · exact ps.elim
/-- {} -/
def mNewK : ME := fun _ m => .ok (.ref m.nx) (m.add (.dk [] []))
def mNewT : ME := fun _ m => .ok (.ref m.nx) (m.add (.dt [] []))
theorem d_newK : PE X (.Dict [] [] pos) (tE (ctOf X) W mNewK) := pe_imp pe_dnewK fun σ H Q h q hq => by
  obtain ⟨io, F, m, sd, S, rs, p⟩ := h
  refine p _ _ _ _ (Ext.alloc S hq) (S.alloc hq ⟨[], upd_same, rfl, by simp only [List.map_nil, RelDs]⟩) ?_
  simp only [RD, RelD]
  exact ⟨Nat.lt_succ_self _, by rw [ioN_self]⟩
theorem d_newT : PE X (.Dict [] [] pos) (tE (ctOf X) W mNewT) := pe_imp pe_dnewT fun σ H Q h q hq => by
  obtain ⟨io, F, m, sd, S, rs, p⟩ := h
  refine p _ _ _ _ (Ext.alloc S hq) (S.alloc hq ⟨[], upd_same, rfl, by simp only [List.map_nil, RelDs]⟩) ?_
  simp only [RD, RelD]
  exact ⟨Nat.lt_succ_self _, by rw [ioN_self]⟩

/-! ### slices -/
abbrev MO := Slots → Mem → Res (Option Int)
abbrev ROI : RelT (Option Int) (Option Int) := fun _ _ _ _ a b => a = b
def mPartN : MO := fun _ m => .ok none m
def mPart (a : ME) : MO := fun s m => (a s m).bind fun d m1 => match view m1 d with
  | .int i => .ok (some i) m1
  | _ => .bad
structure DPo (X : Cx) (W : WT) (e : Option Expr) (c : MO) : Prop where
  ex : ∃ t, PO X e t ∧ ∀ σ H Q, tG ROI (ctOf X) W c σ H Q → t σ H Q
theorem d_poN : DPo X W none mPartN := ⟨_, po_none, fun σ H Q h => by
  obtain ⟨io, F, m, sd, S, rs, p⟩ := h
  exact Post.now (R := ROI) S p rfl⟩
theorem d_po (ha : PE X a (tE (ctOf X) W ca)) : DPo X W (some a) (mPart ca) := ⟨_, po_some ha, fun σ H Q h =>
  (tG.bind (R := RD (ctOf X)) (c := ca) (k := fun d s m1 => match view m1 d with | .int i => .ok (some i) m1 | _ => .bad) h).imp fun x H1 h2 => by
    obtain ⟨io, F, m, sd, d, S, rs, r, p⟩ := h2
    simp only at p
    split at p
    · rename_i i e1
      exact ⟨i, is_int r e1, Post.now (R := ROI) S p rfl⟩
    · exact p.elim⟩
def cutD {α : Type} (xs : List α) (lo hi : Option Int) : List α := List.take (HT.sIx xs.length xs.length hi - HT.sIx xs.length 0 lo) (List.drop (HT.sIx xs.length 0 lo) xs)
theorem cut_rel {K : PySem.W.Frag} {io : Nat → Addr} {F : Addr → Prop} {n : Nat} {H : Hp} {ds : List D} {vs : List V} (lo hi : Option Int) (r : RelDs K io F n H ds vs) : RelDs K io F n H (cutD ds lo hi) (cutV vs lo hi) := by
  unfold cutD cutV
  rw [r.len]
  exact (r.drop _).take _
def opSl (x : D) (lo hi : Option Int) (m : Mem) : Option D := match view m x with
  | .str z => if z.length ≤ sizeLine then some (.str (cutS z lo hi)) else none
  | .tup ds => some (.tup (cutD ds lo hi))
  | .lst ds => some (.lst (cutD ds lo hi))
  | .scr ns => some (.lst ((cutD ns lo hi).map D.int))
  | _ => none
def mSl (a : ME) (lo hi : MO) : ME := fun s m => (a s m).bind fun x m1 => (lo s m1).bind fun l m2 => (hi s m2).bind fun h m3 => Res.of (opSl x l h m3) m3
def rSlD (T : Ct) : V → Option Int → Option Int → Hp → VK → Prop := fun x lo hi H Q => ∃ io F m d, Sim T io F m H ∧ RelD T.K io F m.nx H d x ∧ ∃ z, opSl d lo hi m = some z ∧ Then T io F m H z Q
theorem cut_map {α β : Type} (f : α → β) (xs : List α) (lo hi : Option Int) : cutD (xs.map f) lo hi = (cutD xs lo hi).map f := by
  unfold cutD
  rw [List.length_map, ← List.map_drop, ← List.map_take]
theorem cut_all {α : Type} (xs : List α) (lo hi : Option Int) (h1 : HT.sIx xs.length 0 lo = 0) (h2 : HT.sIx xs.length xs.length hi = xs.length) : cutD xs lo hi = xs := by
  unfold cutD
  rw [h1, h2]
  simp
theorem sl_D : SlR X (rSlD (ctOf X)) := by
  intro pins s σ H x v vl vu lo hi sl Q I rx hs pl pu h
  obtain ⟨io, F, m, d, S, r, z, hz, kk⟩ := h
  unfold opSl at hz
  split at hz
  · rename_i t e1
    split at hz
    · rename_i hl
      cases hz
      exact sl_str pins s σ H _ v vl vu lo hi sl Q I rx hs pl pu ⟨t, is_str r e1, hl, kk.now S (by simp only [RelD])⟩
    · cases hz
  · rename_i t e1
    cases hz
    obtain ⟨a, xs, rfl, tt, q⟩ := is_tup r e1
    refine sl_tupA pins s σ H _ v vl vu lo hi sl Q I rx hs pl pu ⟨a, xs, rfl, tt.sq, fun hh => ?_, fun _ p hp => kk.newT S hp (cut_rel lo hi q)⟩
    have hl := q.len
    rw [cut_all t lo hi (by rw [hl]; exact hh.1) (by rw [hl]; exact hh.2)] at kk
    exact kk.now S (by simp only [RelD]; exact ⟨a, xs, rfl, tt, q⟩)
  · rename_i t e1
    cases hz
    obtain ⟨a, xs, rfl, tt, q⟩ := at_lst S r e1
    exact sl_list pins s σ H _ v vl vu lo hi sl Q I rx hs pl pu ⟨a, xs, rfl, .inl (.inl tt), fun p hp => kk.newL S hp (cut_rel lo hi q)⟩
  · rename_i t e1
    cases hz
    obtain ⟨a, rfl, tt⟩ := is_scr r e1
    refine sl_list pins s σ H _ v vl vu lo hi sl Q I rx hs pl pu ⟨a, _, rfl, tt.sq, fun p hp => kk.newL S hp ?_⟩
    rw [← cut_map D.int]
    exact cut_rel lo hi (ints_rel _ _ _ _ _ _)
  · cases hz
theorem d_sl {lo hi : Option Expr} {cl ch : MO} {p2 : Pos} (ha : PE X a (tE (ctOf X) W ca)) (hl : DPo X W lo cl) (hh : DPo X W hi ch) : PE X (.Subscript a (.Slice lo hi none p2) pos) (tE (ctOf X) W (mSl ca cl ch)) := by
  obtain ⟨t1, p1, h1⟩ := hl.ex
  obtain ⟨t2, p2, h2⟩ := hh.ex
  refine pe_imp (pe_slice sl_D ha p1 p2) fun σ H Q h => ?_
  refine (tG.bind (R := RD (ctOf X)) (c := ca) (k := fun x s m1 => (cl s m1).bind fun l m2 => (ch s m2).bind fun h m3 => Res.of (opSl x l h m3) m3) h).imp fun x H1 h3 => ?_
  refine h1 _ _ _ ((tK.bind (R := ROI) (monoD _) h3).imp fun l H2 h4 => ?_)
  refine h2 _ _ _ ((tK.bind (R := ROI) (monoP (R' := ROI) (monoD _) ⟨fun _ q => q⟩) h4).imp fun u H3 h5 => ?_)
  obtain ⟨io, F, m, sd, ⟨⟨d, l'⟩, u'⟩, S, rs, ⟨⟨r1, r2⟩, r3⟩, p⟩ := h5
  cases r2
  cases r3
  obtain ⟨z, hz, kk⟩ := p.of_
  exact ⟨io, F, m, d, S, r1, z, hz, kk⟩
end
end Ev

set_option Elab.async false
set_option linter.all false
set_option maxRecDepth 100000
set_option autoImplicit false
/-! Ev7: statements, loops, comprehensions. -/
namespace Ev
open PySem PySem.Spec PyProof.Rows L2
theorem ps_imp {X : Cx} {st : Stmt} {t t' : TS} (h : PS X st t) (i : ∀ D σ H, t' D σ H → t D σ H) : PS X st t' := ⟨fun pins s σ H D I q => h.run pins s σ H D I (i _ _ _ q)⟩
theorem pss_imp {X : Cx} {st : List Stmt} {t t' : TS} (h : PSs X st t) (i : ∀ D σ H, t' D σ H → t D σ H) : PSs X st t' := ⟨fun pins s σ H D I q => h.run pins s σ H D I (i _ _ _ q)⟩
section
variable {X : Cx} {k : Nat} {W : WT} {a b c e : Expr} {es : List Expr} {p pos pos' : Pos} {ca cb cc : ME} {cA : MA} {st : Stmt} {sts sts' : List Stmt} {sa sb : MS} {ta : MT}

/-! ### blocks -/
def mSkip : MS := fun s m => .nx s m
def mSeq (a b : MS) : MS := fun s m => match a s m with
  | .nx s1 m1 => b s1 m1
  | o => o
theorem d_snil : PSs X [] (tS (ctOf X) W mSkip) := pss_imp pss_nil fun D σ H h => by
  obtain ⟨io, F, m, sd, S, rs, p⟩ := h
  exact p io F H σ (Ext.refl S) S rs
theorem tSeq_of {D : Ends} {σ : L2.St} {H : Hp} (h : tS (ctOf X) W (mSeq sa sb) D σ H) : tSeq (tS (ctOf X) W sa) (tS (ctOf X) W sb) D σ H := by
  obtain ⟨io, F, m, sd, S, rs, p⟩ := h
  refine ⟨io, F, m, sd, S, rs, ?_⟩
  unfold mSeq at p
  cases q : sa sd m with
  | nx s1 m1 =>
    rw [q] at p
    exact fun io' F' H' σ' E S' r => ⟨io', F', m1, s1, S', r, p.ext E⟩
  | bk s1 m1 => rw [q] at p; exact p
  | ct s1 m1 => rw [q] at p; exact p
  | rt d m1 => rw [q] at p; exact p
  | xc C fs s1 m1 => rw [q] at p; exact p
  | bad => rw [q] at p; exact p
theorem d_scons (ha : PS X st (tS (ctOf X) W sa)) (hb : PSs X sts (tS (ctOf X) W sb)) : PSs X (st :: sts) (tS (ctOf X) W (mSeq sa sb)) := pss_imp (pss_cons ha hb) fun D σ H h => tSeq_of h
theorem d_sone (ha : PS X st (tS (ctOf X) W sa)) : PSs X [st] (tS (ctOf X) W sa) := pss_one ha

/-! ### one expression -/
/-- what an expression's end is to a statement -/
def Res.then_ {α : Type} (r : Res α) (s : Slots) (f : α → Mem → Out) : Out := match r with
  | .ok a m => f a m
  | .exc C fs m => .xc C fs s m
  | .bad => .bad
@[simp] theorem Res.then_ok {α : Type} (a : α) (m : Mem) (s : Slots) (f : α → Mem → Out) : (Res.ok a m).then_ s f = f a m := rfl
@[simp] theorem Res.then_exc {α : Type} (C : Str) (fs : List (Str × D)) (m : Mem) (s : Slots) (f : α → Mem → Out) : (Res.exc C fs m : Res α).then_ s f = .xc C fs s m := rfl
@[simp] theorem Res.then_bad {α : Type} (s : Slots) (f : α → Mem → Out) : (Res.bad : Res α).then_ s f = .bad := rfl
theorem PostS.then_ {α β : Type} {R : RelT α β} {T : Ct} {io : Nat → Addr} {F : Addr → Prop} {m : Mem} {H : Hp} {r : Res α} {sd : Slots} {σ : L2.St} {f : α → Mem → Out} {D : Ends} (S : Sim T io F m H) (rs : RelSl T.K io F m.nx H sd σ)
    (h : PostS T W io F m H (r.then_ sd f) D) : Post R T (fun cls d H' => W cls d σ H') io F m H r fun b H1 => ∃ io1 F1 m1 a, Sim T io1 F1 m1 H1 ∧ RelSl T.K io1 F1 m1.nx H1 sd σ ∧ R io1 F1 m1.nx H1 a b ∧ PostS T W io1 F1 m1 H1 (f a m1) D := by
  cases r with
  | ok a m1 => exact fun io' F' H' b E S' q => ⟨io', F', m1, a, S', rs.mono (S.mono E), q, h.ext E⟩
  | exc C fs m1 => exact fun io' F' H' cls d E S' x => h io' F' H' cls d σ E S' x (rs.mono (S.mono E))
  | bad => exact h
theorem tS.then_ {α β : Type} {R : RelT α β} {T : Ct} {cx : Slots → Mem → Res α} {f : α → Slots → Mem → Out} {D : Ends} {σ : L2.St} {H : Hp} (h : tS T W (fun s m => (cx s m).then_ s fun a m1 => f a s m1) D σ H) :
    tG R T W cx σ H fun b H1 => ∃ io1 F1 m1 sd a, Sim T io1 F1 m1 H1 ∧ RelSl T.K io1 F1 m1.nx H1 sd σ ∧ R io1 F1 m1.nx H1 a b ∧ PostS T W io1 F1 m1 H1 (f a sd m1) D := by
  obtain ⟨io, F, m, sd, S, rs, p⟩ := h
  refine ⟨io, F, m, sd, S, rs, (PostS.then_ S rs p).imp fun b H1 ⟨io1, F1, m1, a, h1, h2, h3, h4⟩ => ⟨io1, F1, m1, sd, a, h1, h2, h3, h4⟩⟩
def mRet (a : ME) : MS := fun s m => (a s m).then_ s fun d m1 => .rt d m1
def mRetN : MS := fun _ m => .rt .non m
def mDrop (a : ME) : MS := fun s m => (a s m).then_ s fun _ m1 => .nx s m1
def mSet (i : Nat) (a : ME) : MS := fun s m => (a s m).then_ s fun d m1 => .nx (s.set i (some d)) m1
def mIf (t : MT) (a b : MS) : MS := fun s m => (t s m).then_ s fun c m1 => if c = true then a s m1 else b s m1
theorem d_ret (ha : PE X a (tE (ctOf X) W ca)) : PS X (.Return (some a) pos) (tS (ctOf X) W (mRet ca)) := ps_imp (ps_ret ha) fun D σ H h =>
  (tS.then_ (R := RD (ctOf X)) (cx := ca) (f := fun d _ m1 => .rt d m1) h).imp fun v H1 ⟨io, F, m, sd, d, S, rs, r, p⟩ => p io F H1 v (Ext.refl S) S r
theorem d_retN : PS X (.Return none pos) (tS (ctOf X) W mRetN) := ps_imp ps_retN fun D σ H h => by
  obtain ⟨io, F, m, sd, S, rs, p⟩ := h
  exact p io F H .non (Ext.refl S) S (by simp only [RelD])
theorem d_drop (ha : PE X a (tE (ctOf X) W ca)) (hs : swapsWith a none pos.line X.env = pure false := by rfl) : PS X (.Expr a pos) (tS (ctOf X) W (mDrop ca)) := ps_imp (ps_expr ha hs) fun D σ H h =>
  (tS.then_ (R := RD (ctOf X)) (cx := ca) (f := fun d sd m1 => .nx sd m1) h).imp fun v H1 ⟨io, F, m, sd, d, S, rs, r, p⟩ => p io F H1 σ (Ext.refl S) S rs
theorem tSet_of {i : Nat} {D : Ends} {σ : L2.St} {H : Hp} (h : tS (ctOf X) W (mSet i ca) D σ H) : tAsg (tE (ctOf X) W ca) (gName i) D σ H :=
  (tS.then_ (R := RD (ctOf X)) (cx := ca) (f := fun d sd m1 => .nx (sd.set i (some d)) m1) h).imp fun v H1 ⟨io, F, m, sd, d, S, rs, r, p⟩ => p io F H1 (σ.set i (some v)) (Ext.refl S) S (rs.set r)
theorem d_set {i : Nat} {x : Str} (hh : Here k W X) (ha : PE X a (tE (ctOf X) W ca)) (hi : X.N[i]? = some x := by rfl) (hl : L2.Loc X.env.scope x := by first | exact .inl rfl | exact .inr rfl) (hs : swapsWith a (some (.Name x pos')) pos.line X.env = pure false := by rfl)
    (hf : X.fn x = true ∨ X.env.scope.names.lookup x = some .local := by first | exact .inl rfl | exact .inr rfl) : PS X (.Assign [.Name x pos'] a pos) (tS (ctOf X) W (mSet i ca)) :=
  ps_imp (ps_set hh.nd hi hl ha hs hf) fun D σ H h => tSet_of h
theorem d_if (ht : PT X c (tT (ctOf X) W ta)) (ha : PSs X sts (tS (ctOf X) W sa)) (hb : PSs X sts' (tS (ctOf X) W sb)) : PS X (.If c sts sts' pos) (tS (ctOf X) W (mIf ta sa sb)) := ps_imp (ps_if ht ha hb) fun D σ H h =>
  (tS.then_ (R := RB) (cx := ta) (f := fun c sd m1 => if c = true then sa sd m1 else sb sd m1) h).imp fun v H1 ⟨io, F, m, sd, d, S, rs, r, p⟩ => by
    cases r
    cases v with
    | true => exact ⟨io, F, m, sd, S, rs, p⟩
    | false => exact ⟨io, F, m, sd, S, rs, p⟩
def mBrk : MS := fun s m => .bk s m
def mCont : MS := fun s m => .ct s m
theorem d_pass : PS X (.Pass pos) (tS (ctOf X) W mSkip) := ps_imp ps_pass fun D σ H h => by
  obtain ⟨io, F, m, sd, S, rs, p⟩ := h
  exact p io F H σ (Ext.refl S) S rs
theorem d_brk : PS X (.Break pos) (tS (ctOf X) W mBrk) := ps_imp ps_break fun D σ H h => by
  obtain ⟨io, F, m, sd, S, rs, p⟩ := h
  exact p io F H σ (Ext.refl S) S rs
theorem d_cont : PS X (.Continue pos) (tS (ctOf X) W mCont) := ps_imp ps_continue fun D σ H h => by
  obtain ⟨io, F, m, sd, S, rs, p⟩ := h
  exact p io F H σ (Ext.refl S) S rs
/-- what is never reached -/
def mBad : MS := fun _ _ => .bad
theorem d_never : PS X st (tS (ctOf X) W mBad) := ps_imp ps_never fun D σ H h => by
  obtain ⟨io, F, m, sd, S, rs, p⟩ := h
  exact p.elim
/-- at a slot the list is frozen -/
def mFrz (i : Nat) : MS := fun s m => match s[i]? with
  | some (some (.ref j)) => (match m.ob j with
    | some (.lst ds) => .nx (s.set i (some (.lst ds))) (m.kill j)
    | _ => .bad)
  | _ => .bad
theorem frz_of {i : Nat} {D : Ends} {σ : L2.St} {H : Hp} (h : tS (ctOf X) W (mSeq (mFrz i) sa) D σ H) : tS (ctOf X) W sa D σ H := by
  obtain ⟨io, F, m, sd, S, rs, p⟩ := h
  unfold mSeq mFrz at p
  cases q : sd[i]? with
  | none => rw [q] at p; exact p.elim
  | some o =>
    rw [q] at p
    cases o with
    | none => exact p.elim
    | some d =>
      cases d with
      | ref j =>
        simp only at p
        cases q2 : m.ob j with
        | none => rw [q2] at p; exact p.elim
        | some u =>
          rw [q2] at p
          cases u with
          | lst ds =>
            simp only at p
            obtain ⟨S', E⟩ := S.frz q2
            obtain ⟨xs, h1, h2⟩ := S.ob j _ q2
            obtain ⟨v, e1, e2⟩ := rs.2 i _ q
            simp only [RelD] at e2
            have rs' := (rs.mono (S.mono E)).set (i := i) (d := .lst ds) (v := v) (by
              simp only [RelD]
              exact ⟨io j, xs, e2.2, .inr rfl, h1, h2.mono (S.mono E)⟩)
            have ev : σ.set i (some v) = σ := by
              apply List.ext_getElem?
              intro n
              by_cases hn : i = n
              · subst hn
                rw [e1, List.getElem?_set_self (by
                  obtain ⟨hl, _⟩ := List.getElem?_eq_some_iff.mp e1
                  exact hl)]
              · rw [List.getElem?_set_ne hn]
            rw [ev] at rs'
            exact ⟨io, _, m.kill j, _, S', rs', p.ext E⟩
          | dk _ _ => exact p.elim
          | dt _ _ => exact p.elim
          | ins _ _ => exact p.elim
      | _ => exact p.elim
theorem d_frz {i : Nat} (h : PS X st (tS (ctOf X) W sa)) : PS X st (tS (ctOf X) W (mSeq (mFrz i) sa)) := ps_imp h fun D σ H q => frz_of q
theorem d_frzs {i : Nat} (h : PSs X sts (tS (ctOf X) W sa)) : PSs X sts (tS (ctOf X) W (mSeq (mFrz i) sa)) := pss_imp h fun D σ H q => frz_of q

/-! ### targets -/
abbrev As := D → Slots → Option Slots
def SameBut (ts : List Nat) (σ σ' : L2.St) : Prop := σ'.length = σ.length ∧ ∀ i, i ∉ ts → σ'[i]? = σ[i]?
theorem SameBut.wipe {ts vs : List Nat} {σ σ' : L2.St} (h : SameBut ts σ σ') (hs : ∀ i ∈ ts, i ∈ vs) : L2.wipe σ' vs = L2.wipe σ vs := by
  have get : ∀ (vs : List Nat) (σ : L2.St) (n : Nat), (L2.wipe σ vs)[n]? = if n ∈ vs ∧ n < σ.length then some none else σ[n]? := by
    intro vs
    induction vs with
    | nil => intro σ n; simp [L2.wipe]
    | cons v vs ih =>
      intro σ n
      unfold L2.wipe
      by_cases hv : v = n
      · subst hv
        by_cases hl : v < σ.length
        · rw [List.getElem?_set_self (by rw [L2.wipe_length]; exact hl), if_pos ⟨List.mem_cons_self, hl⟩]
        · rw [List.getElem?_eq_none (by rw [List.length_set, L2.wipe_length]; omega), if_neg (fun z => hl z.2), List.getElem?_eq_none (by omega)]
      · rw [List.getElem?_set_ne hv, ih]
        have : (n ∈ v :: vs) ↔ n ∈ vs := by
          rw [List.mem_cons]
          exact ⟨fun z => z.elim (fun e => (hv e.symm).elim) id, .inr⟩
        simp only [this]
  apply List.ext_getElem?
  intro n
  rw [get, get, h.1]
  by_cases hn : n ∈ vs ∧ n < σ.length
  · rw [if_pos hn, if_pos hn]
  · rw [if_neg hn, if_neg hn]
    by_cases hl : n < σ.length
    · exact h.2 n fun z => hn ⟨hs n z, hl⟩
    · rw [List.getElem?_eq_none (by rw [h.1]; omega), List.getElem?_eq_none (by omega)]
/-- a target -/
structure DTg (X : Cx) (tg : Expr) (g : TG) (as : As) (ts : List Nat) : Prop where
  p : PG X tg g
  k : ∀ (io : Nat → Addr) (F : Addr → Prop) (m : Mem) (H : Hp) (σ : L2.St) (sd sd' : Slots) (d : D) (v : V) (Q : L2.St → Hp → Prop), Sim (ctOf X) io F m H → RelSl X.K io F m.nx H sd σ → RelD X.K io F m.nx H d v → as d sd = some sd' →
    (∀ σ', RelSl X.K io F m.nx H sd' σ' → SameBut ts σ σ' → Q σ' H) → g v σ H Q
structure DTgs (X : Cx) (tg : List Expr) (g : TGs) (as : List D → Slots → Option Slots) (ts : List Nat) : Prop where
  p : PGs X tg g
  k : ∀ (io : Nat → Addr) (F : Addr → Prop) (m : Mem) (H : Hp) (σ : L2.St) (sd sd' : Slots) (ds : List D) (vs : List V) (Q : L2.St → Hp → Prop), Sim (ctOf X) io F m H → RelSl X.K io F m.nx H sd σ → RelDs X.K io F m.nx H ds vs → as ds sd = some sd' →
    (∀ σ', RelSl X.K io F m.nx H sd' σ' → SameBut ts σ σ' → Q σ' H) → g vs σ H Q
def aName (i : Nat) : As := fun d s => some (s.set i (some d))
def aTup (n : Nat) (f : List D → Slots → Option Slots) : As := fun d s => match d with
  | .tup ds => if ds.length = n then f ds s else none
  | _ => none
def aLst (n : Nat) (f : List D → Slots → Option Slots) : As := fun d s => match d with
  | .lst ds => if ds.length = n then f ds s else none
  | _ => none
def aNil : List D → Slots → Option Slots := fun ds s => match ds with
  | [] => some s
  | _ => none
def aCons (f : As) (g : List D → Slots → Option Slots) : List D → Slots → Option Slots := fun ds s => match ds with
  | d :: r => (match f d s with
    | some s1 => g r s1
    | none => none)
  | [] => none
theorem d_gname {i : Nat} {x : Str} (nd : X.N.Nodup) (hi : X.N[i]? = some x := by rfl) (hl : L2.Loc X.env.scope x := by first | exact .inl rfl | exact .inr rfl) (hf : X.fn x = true ∨ X.env.scope.names.lookup x = some .local := by first | exact .inl rfl | exact .inr rfl) :
    DTg X (.Name x pos) (gName i) (aName i) [i] := by
  refine ⟨pg_name nd hi hl hf, fun io F m H σ sd sd' d v Q S rs r e h => ?_⟩
  cases e
  refine h _ (rs.set r) ⟨List.length_set, fun j hj => ?_⟩
  rw [List.getElem?_set_ne (fun z => hj (by rw [z]; exact List.mem_singleton.mpr rfl))]
theorem d_gnil : DTgs X [] gNil aNil [] := by
  refine ⟨pgs_nil, fun io F m H σ sd sd' ds vs Q S rs r e h => ?_⟩
  cases ds with
  | nil =>
    cases vs with
    | nil => cases e; exact ⟨rfl, h σ rs ⟨rfl, fun _ _ => rfl⟩⟩
    | cons _ _ => simp only [RelDs] at r
  | cons _ _ => cases e
theorem d_gcons {tg : Expr} {tgs : List Expr} {f : As} {g : List D → Slots → Option Slots} {t1 t2 : List Nat} {g1 : TG} {g2 : TGs} (h1 : DTg X tg g1 f t1) (h2 : DTgs X tgs g2 g t2)
    (ha : (assignEach (tg :: tgs) X.env).map (·.2) = assign tg X.env :: (assignEach tgs X.env).map (·.2) := by rfl) : DTgs X (tg :: tgs) (gCons g1 g2) (aCons f g) (t1 ++ t2) := by
  obtain ⟨p1, k1⟩ := h1
  obtain ⟨p2, k2⟩ := h2
  refine ⟨pgs_cons p1 p2 ha, fun io F m H σ sd sd' ds vs Q S rs r e h => ?_⟩
  cases ds with
  | nil => cases e
  | cons d ds =>
    cases vs with
    | nil => simp only [RelDs] at r
    | cons v vs =>
      simp only [RelDs] at r
      unfold aCons at e
      simp only at e
      split at e
      · rename_i s1 e1
        refine ⟨v, vs, rfl, k1 io F m H σ sd s1 d v _ S rs r.1 e1 fun σ1 rs1 sb1 => ?_⟩
        refine k2 io F m H σ1 s1 sd' ds vs _ S rs1 r.2 e fun σ2 rs2 sb2 => h σ2 rs2 ⟨sb2.1.trans sb1.1, fun i hi => ?_⟩
        rw [sb2.2 i fun z => hi (List.mem_append_right _ z), sb1.2 i fun z => hi (List.mem_append_left _ z)]
      · cases e
theorem d_gtup {tgs : List Expr} {g : List D → Slots → Option Slots} {ts : List Nat} {n kk : Nat} {g1 : TGs} (hc : X.calm = true) (h : DTgs X tgs g1 g ts) (hl : (assignEach tgs X.env).length = n := by rfl) (hn : (assignEach tgs X.env).findIdx? (·.1) = none := by rfl) :
    DTg X (.Tuple tgs kk pos) (gTup X.K n g1) (aTup n g) ts := by
  obtain ⟨p1, k1⟩ := h
  refine ⟨pg_tup hc p1 hl hn, fun io F m H σ sd sd' d v Q S rs r e h => ?_⟩
  unfold aTup at e
  split at e
  · rename_i ds
    split at e
    · rename_i hl
      simp only [RelD] at r
      obtain ⟨a, xs, rfl, t, q⟩ := r
      exact ⟨a, xs, rfl, t.sq, by rw [← q.len]; exact hl, k1 io F m H σ sd sd' ds xs _ S rs q e h⟩
    · cases e
  · cases e
theorem d_glst {tgs : List Expr} {g : List D → Slots → Option Slots} {ts : List Nat} {n kk : Nat} {g1 : TGs} (hc : X.calm = true) (h : DTgs X tgs g1 g ts) (hl : (assignEach tgs X.env).length = n := by rfl) (hn : (assignEach tgs X.env).findIdx? (·.1) = none := by rfl) :
    DTg X (.Tuple tgs kk pos) (gLst X.K n g1) (aLst n g) ts := by
  obtain ⟨p1, k1⟩ := h
  refine ⟨pg_lst hc p1 hl hn, fun io F m H σ sd sd' d v Q S rs r e h => ?_⟩
  unfold aLst at e
  split at e
  · rename_i ds
    split at e
    · rename_i hl
      simp only [RelD] at r
      obtain ⟨a, xs, rfl, f, t, q⟩ := r
      exact ⟨a, xs, rfl, .inl (.inl t), by rw [← q.len]; exact hl, k1 io F m H σ sd sd' ds xs _ S rs q e h⟩
    · cases e
  · cases e
/-- target = e -/
def mAsg (as : As) (a : ME) : MS := fun s m => (a s m).then_ s fun d m1 => match as d s with
  | some s1 => .nx s1 m1
  | none => .bad
theorem d_asg {tg : Expr} {g : TG} {as : As} {ts : List Nat} (ht : DTg X tg g as ts) (ha : PE X a (tE (ctOf X) W ca)) (h1 : swapsWithSole [tg] a pos.line X.env = pure false := by rfl) (h2 : swappedStores [tg] a X.env = pure none := by rfl)
    (h3 : (assignEach [tg] X.env).map (·.2) = [assign tg X.env] := by rfl) : PS X (.Assign [tg] a pos) (tS (ctOf X) W (mAsg as ca)) := by
  obtain ⟨pg, kg⟩ := ht
  refine ps_imp (ps_asg ha pg h1 h2 h3) fun D σ H h => ?_
  refine (tS.then_ (R := RD (ctOf X)) (cx := ca) (f := fun d sd m1 => match as d sd with | some s1 => .nx s1 m1 | none => .bad) h).imp fun v H1 ⟨io, F, m, sd, d, S, rs, r, p⟩ => ?_
  split at p
  · rename_i s1 e1
    exact kg io F m H1 σ sd s1 d v _ S rs r e1 fun σ' rs' _ => p io F H1 σ' (Ext.refl S) S rs'
  · exact p.elim

/-! ### what a for walks -/
/-- an iterator yields these -/
structure ItOk (T : Ct) (io : Nat → Addr) (F : Addr → Prop) (m : Mem) (H : Hp) (ds : List D) (J : It) : Prop where
  go : ∀ i io' F' m' H', Ext io F m H io' F' m' H' → Sim T io' F' m' H' → i < ds.length → J.go i H'
  stop : ∀ i io' F' m' H', Ext io F m H io' F' m' H' → Sim T io' F' m' H' → i = ds.length → J.stop i H'
  yld : ∀ i io' F' m' H' x H'' d, Ext io F m H io' F' m' H' → Sim T io' F' m' H' → ds[i]? = some d → J.yld i H' x H'' →
    ∃ io'' F'', Ext io' F' m' H' io'' F'' m' H'' ∧ Sim T io'' F'' m' H'' ∧ RelD T.K io'' F'' m'.nx H'' d x
abbrev MI := Slots → Mem → Res (List D)
structure DIt (X : Cx) (W : WT) (tg iter : Expr) (ci : MI) : Prop where
  ex : ∃ wi, PI X tg iter wi ∧ ∀ (σ : L2.St) (H : Hp) (R : It → Hp → Prop) (io : Nat → Addr) (F : Addr → Prop) (m : Mem) (sd : Slots), Sim (ctOf X) io F m H → RelSl X.K io F m.nx H sd σ →
    (match ci sd m with
    | .ok ds m1 => ∀ io' F' H' J, Ext io F m H io' F' m1 H' → Sim (ctOf X) io' F' m1 H' → ItOk (ctOf X) io' F' m1 H' ds J → R J H'
    | .exc C fs m1 => ∀ io' F' H' cls d, Ext io F m H io' F' m1 H' → Sim (ctOf X) io' F' m1 H' → ExR (ctOf X) io' F' m1.nx H' C fs cls d → W cls d σ H'
    | .bad => False) → wi σ H R
/-- a list, a tuple, a text as it stands -/
def chars (z : Str) : List D := z.cps.toList.map fun c => .str ⟨#[c]⟩
def itemsOf (m : Mem) (d : D) : Option (List D) := match d with
  | .tup ds => some ds
  | .lst ds => some ds
  | .scr ns => some (ns.map D.int)
  | .str z => some (chars z)
  | _ => none
def mIter (a : ME) : MI := fun s m => (a s m).bind fun d m1 => Res.of (itemsOf m1 d) m1
theorem pi_or {tg iter : Expr} {w w' : TI} (h : PI X tg iter w) (h' : PI X tg iter w') : PI X tg iter (fun σ H R => w σ H R ∨ w' σ H R) :=
  ⟨fun pins s σ H R I q => q.elim (h.run pins s σ H R I) (h'.run pins s σ H R I)⟩
theorem it_lst {T : Ct} {io : Nat → Addr} {F : Addr → Prop} {m : Mem} {H : Hp} {a : Addr} {xs : List V} {ds : List D} (S : Sim T io F m H) (q : RelDs T.K io F m.nx H ds xs) (hs : ∀ io' F' m' H', Ext io F m H io' F' m' H' → SqL T.K H' a xs) : ItOk T io F m H ds (Itl T.K a) := by
  refine ⟨fun i io' F' m' H' E S' hi => ?_, fun i io' F' m' H' E S' hi => ⟨xs, hs _ _ _ _ E, by rw [hi, q.len]; exact Nat.le_refl _⟩, fun i io' F' m' H' x H'' d E S' e y => ?_⟩
  · obtain ⟨v, e1, _⟩ := q.get (List.getElem?_eq_getElem hi)
    exact ⟨xs, v, hs _ _ _ _ E, e1⟩
  · obtain ⟨rfl, y⟩ := y
    obtain ⟨v, e1, e2⟩ := q.get e
    have := y xs (hs _ _ _ _ E)
    rw [e1] at this
    cases this
    exact ⟨io', F', Ext.refl S', S', e2.mono (S.mono E)⟩
theorem it_tup {T : Ct} {io : Nat → Addr} {F : Addr → Prop} {m : Mem} {H : Hp} {a : Addr} {xs : List V} {ds : List D} (S : Sim T io F m H) (q : RelDs T.K io F m.nx H ds xs) (hs : ∀ io' F' m' H', Ext io F m H io' F' m' H' → SqT T.K H' a xs) : ItOk T io F m H ds (Itt T.K a) := by
  refine ⟨fun i io' F' m' H' E S' hi => ?_, fun i io' F' m' H' E S' hi => ⟨xs, hs _ _ _ _ E, by rw [hi, q.len]; exact Nat.le_refl _⟩, fun i io' F' m' H' x H'' d E S' e y => ?_⟩
  · obtain ⟨v, e1, _⟩ := q.get (List.getElem?_eq_getElem hi)
    exact ⟨xs, v, hs _ _ _ _ E, e1⟩
  · obtain ⟨rfl, y⟩ := y
    obtain ⟨v, e1, e2⟩ := q.get e
    have := y xs (hs _ _ _ _ E)
    rw [e1] at this
    cases this
    exact ⟨io', F', Ext.refl S', S', e2.mono (S.mono E)⟩
theorem TupF.later {T : Ct} {io io' : Nat → Addr} {F F' : Addr → Prop} {m m' : Mem} {H H' : Hp} {a : Addr} {xs : List V} (S : Sim T io F m H) (t : TupF T.K F H a xs) (E : Ext io F m H io' F' m' H') : SqT T.K H' a xs := by
  rcases t with ⟨f, t⟩ | t
  · exact .inl (.inl ((S.mono E).kt a xs f t))
  · exact .inr t.1
theorem it_str {T : Ct} {io : Nat → Addr} {F : Addr → Prop} {m : Mem} {H : Hp} {z : Str} : ItOk T io F m H (chars z) (Its z) := by
  have hl : (chars z).length = z.cps.size := by unfold chars; rw [List.length_map, Array.length_toList]
  refine ⟨fun i io' F' m' H' E S' hi => by rw [hl] at hi; exact hi, fun i io' F' m' H' E S' hi => by rw [hl] at hi; exact Nat.le_of_eq hi.symm, fun i io' F' m' H' x H'' d E S' e y => ?_⟩
  obtain ⟨rfl, c, e1, rfl⟩ := y
  refine ⟨io', F', Ext.refl S', S', ?_⟩
  unfold chars at e
  rw [List.getElem?_map, Array.getElem?_toList, e1] at e
  cases e
  simp only [RelD]
theorem d_iter {tg : Expr} (ha : PE X a (tE (ctOf X) W ca)) : DIt X W tg a (mIter ca) := by
  refine ⟨_, pi_or (pi_tup (tg := tg) ha) (pi_or (pi_list (tg := tg) ha) (pi_str (tg := tg) ha)), fun σ H R io F m sd S rs h => ?_⟩
  unfold mIter at h
  cases q : ca sd m with
  | bad => rw [q] at h; exact h.elim
  | exc C fs m1 => rw [q] at h; exact .inl ⟨io, F, m, sd, S, rs, by rw [q]; exact h⟩
  | ok d m1 =>
    rw [q] at h
    simp only [Res.bind_ok] at h
    cases d with
    | tup ds =>
      refine .inl ⟨io, F, m, sd, S, rs, ?_⟩
      rw [q]
      intro io' F' H' v E S' r
      simp only [RD, RelD] at r
      obtain ⟨a, xs, rfl, t, qq⟩ := r
      exact ⟨a, rfl, ⟨xs, t.sq⟩, h io' F' H' _ E S' (it_tup S' qq fun _ _ _ _ E' => t.later S' E')⟩
    | lst ds =>
      refine .inr (.inl ⟨io, F, m, sd, S, rs, ?_⟩)
      rw [q]
      intro io' F' H' v E S' r
      simp only [RD, RelD] at r
      obtain ⟨a, xs, rfl, f, t, qq⟩ := r
      exact ⟨a, rfl, ⟨xs, .inl (.inl t)⟩, h io' F' H' _ E S' (it_lst S' qq fun _ _ _ _ E' => .inl (.inl ((S'.mono E').kl a xs f t)))⟩
    | scr ns =>
      refine .inr (.inl ⟨io, F, m, sd, S, rs, ?_⟩)
      rw [q]
      intro io' F' H' v E S' r
      simp only [RD, RelD] at r
      obtain ⟨a, rfl, t⟩ := r
      refine ⟨a, rfl, ⟨_, t.sq⟩, h io' F' H' _ E S' (it_lst S' (ints_rel _ _ _ _ _ _) fun _ _ _ _ E' => ?_)⟩
      rcases t with ⟨f, o, t⟩ | t
      · exact .inl (.inr ⟨o, (S'.mono E').kf a o _ f t⟩)
      · exact .inr t
    | str z =>
      refine .inr (.inr ⟨io, F, m, sd, S, rs, ?_⟩)
      rw [q]
      intro io' F' H' v E S' r
      simp only [RD, RelD] at r
      exact ⟨z, r, h io' F' H' _ E S' it_str⟩
    | _ => exact h.elim
/-- ranges -/
def upto (lo : Int) (n : Nat) : List D := (List.range n).map fun (i : Nat) => .int (lo + (i : Int))
theorem it_rng {T : Ct} {io : Nat → Addr} {F : Addr → Prop} {m : Mem} {H : Hp} {lo : Int} {n : Nat} : ItOk T io F m H (upto lo n) (Itr lo n) := by
  have hl : (upto lo n).length = n := by unfold upto; rw [List.length_map, List.length_range]
  refine ⟨fun i io' F' m' H' E S' hi => by rw [hl] at hi; exact hi, fun i io' F' m' H' E S' hi => by rw [hl] at hi; exact Nat.le_of_eq hi.symm, fun i io' F' m' H' x H'' d E S' e y => ?_⟩
  obtain ⟨rfl, rfl⟩ := y
  refine ⟨io', F', Ext.refl S', S', ?_⟩
  have hi : i < n := by
    rw [← hl]
    exact (List.getElem?_eq_some_iff.mp e).1
  unfold upto at e
  rw [List.getElem?_map, List.getElem?_range hi] at e
  cases e
  simp only [RelD]
@[irreducible] def small (i : Int) : Bool := decide (-(2 ^ 62) ≤ i) && decide (i < 2 ^ 62)
def rng1 (ds : List D) : Option (List D) := match ds with
  | [.int j] => if small j = true then some (upto 0 j.toNat) else none
  | _ => none
def rng2 (ds : List D) : Option (List D) := match ds with
  | [.int i, .int j] => if small i = true ∧ small j = true then some (upto i (j - i).toNat) else none
  | _ => none
def mRange (f : List D → Option (List D)) (a : MA) : MI := fun s m => (a s m).bind fun ds m1 => Res.of (f ds) m1
theorem small_of {i : Int} (h : small i = true) : -(2 ^ 62) ≤ i ∧ i < 2 ^ 62 := by
  unfold small at h
  simp only [Bool.and_eq_true, decide_eq_true_eq] at h
  exact h
theorem d_range1 {tg : Expr} (hg : Gl X "range") (hm : X.mg "range" = none) (ha : PA X [a] (tA (ctOf X) W cA)) (hs : starEach [a] X.env = [(false, eval a X.env)] := by rfl) : DIt X W tg (.Call (.Name "range" p) [a] [] pos) (mRange rng1 cA) := by
  refine ⟨_, pi_range1 hg hm ha hs, fun σ H R io F m sd S rs h => ?_⟩
  unfold mRange at h
  refine ⟨io, F, m, sd, S, rs, ?_⟩
  cases q : cA sd m with
  | bad => rw [q] at h; exact h.elim
  | exc C fs m1 => rw [q] at h; exact h
  | ok ds m1 =>
    rw [q] at h
    simp only [Res.bind_ok] at h
    intro io' F' H' v E S' r
    cases e : rng1 ds with
    | none => rw [e] at h; exact h.elim
    | some ys =>
      rw [e] at h
      unfold rng1 at e
      split at e
      · rename_i j
        split at e
        · rename_i hj
          cases e
          obtain ⟨w, rfl, rw_⟩ := one_rel r
          simp only [RelD] at rw_
          subst rw_
          exact ⟨j, rfl, (small_of hj).1, (small_of hj).2, h io' F' H' _ E S' it_rng⟩
        · cases e
      · cases e
theorem d_range2 {tg : Expr} (hg : Gl X "range") (hm : X.mg "range" = none) (ha : PA X [a, b] (tA (ctOf X) W cA)) (hs : starEach [a, b] X.env = [(false, eval a X.env), (false, eval b X.env)] := by rfl) (hs2 : starEach [b] X.env = [(false, eval b X.env)] := by rfl) :
    DIt X W tg (.Call (.Name "range" p) [a, b] [] pos) (mRange rng2 cA) := by
  refine ⟨_, pi_range2 hg hm ha hs hs2, fun σ H R io F m sd S rs h => ?_⟩
  unfold mRange at h
  refine ⟨io, F, m, sd, S, rs, ?_⟩
  cases q : cA sd m with
  | bad => rw [q] at h; exact h.elim
  | exc C fs m1 => rw [q] at h; exact h
  | ok ds m1 =>
    rw [q] at h
    simp only [Res.bind_ok] at h
    intro io' F' H' v E S' r
    cases e : rng2 ds with
    | none => rw [e] at h; exact h.elim
    | some ys =>
      rw [e] at h
      unfold rng2 at e
      split at e
      · rename_i i j
        split at e
        · rename_i hj
          cases e
          obtain ⟨w, u, rfl, rw_, ru⟩ := two_rel r
          simp only [RelD] at rw_ ru
          subst rw_ ru
          exact ⟨i, j, rfl, ⟨(small_of hj.1).1, (small_of hj.1).2, (small_of hj.2).1, (small_of hj.2).2⟩, h io' F' H' _ E S' it_rng⟩
        · cases e
      · cases e

/-! ### loops -/
def loopF (as : As) (b : MS) : List D → Slots → Mem → Out
  | [], s, m => .nx s m
  | d :: ds, s, m => match as d s with
    | none => .bad
    | some s1 => (match b s1 m with
      | .nx s2 m2 => loopF as b ds s2 m2
      | .ct s2 m2 => loopF as b ds s2 m2
      | .bk s2 m2 => .nx s2 m2
      | o => o)
def mFor (ci : MI) (as : As) (b : MS) : MS := fun s m => (ci s m).then_ s fun ds m1 => loopF as b ds s m1
theorem d_for {tg iter : Expr} {ci : MI} {g : TG} {as : As} {ts : List Nat} (hh : Here k W X) (hi : DIt X W tg iter ci) (ht : DTg X tg g as ts) (hb : PSs X sts (tS (ctOf X) W sa)) (hs : ∀ x, foldedSetIterable iter X.env x = pure x := by intro _; rfl) :
    PS X (.For tg iter sts [] pos) (tS (ctOf X) W (mFor ci as sa)) := by
  obtain ⟨wi, p1, k1⟩ := hi.ex
  obtain ⟨p2, k2⟩ := ht
  refine ps_imp (ps_for hh.po hh.calm p1 p2 hb hs) fun D σ H h => ?_
  obtain ⟨io, F, m, sd, S, rs, p⟩ := h
  refine k1 σ H _ io F m sd S rs ?_
  unfold mFor at p
  cases q : ci sd m with
  | bad => rw [q] at p; exact p.elim
  | exc C fs m1 => rw [q] at p; exact fun io' F' H' cls d E S' x => p io' F' H' cls d σ E S' x (rs.mono (S.mono E))
  | ok ds m1 =>
    rw [q] at p
    simp only [Res.then_ok] at p
    intro io1 F1 H1 J E1 S1 IO
    refine ⟨fun i n σ' H' => n = ds.length - i ∧ i ≤ ds.length ∧ ∃ io' F' m' sd', Ext io1 F1 m1 H1 io' F' m' H' ∧ Sim (ctOf X) io' F' m' H' ∧ RelSl X.K io' F' m'.nx H' sd' σ' ∧ PostS (ctOf X) W io' F' m' H' (loopF as sa (ds.drop i) sd' m') D,
      ⟨ds.length, by omega, Nat.zero_le _, io1, F1, m1, sd, Ext.refl S1, S1, rs.mono (S.mono E1), p.ext E1⟩, fun i n σ' H' hW => ?_⟩
    obtain ⟨hn, hle, io', F', m', sd', E', S', rs', p'⟩ := hW
    by_cases hi : i < ds.length
    · refine .inr ⟨IO.go i io' F' m' H' E' S' hi, ?_⟩
      have ed : ds.drop i = ds[i] :: ds.drop (i + 1) := List.drop_eq_getElem_cons hi
      rw [ed] at p'
      unfold loopF at p'
      cases q1 : as ds[i] sd' with
      | none => rw [q1] at p'; exact p'.elim
      | some s1 =>
        rw [q1] at p'
        simp only at p'
        refine ⟨fun σ2 H2 => ∃ io2 F2 m2 sd2, Ext io1 F1 m1 H1 io2 F2 m2 H2 ∧ Sim (ctOf X) io2 F2 m2 H2 ∧ RelSl X.K io2 F2 m2.nx H2 sd2 σ2 ∧ PostS (ctOf X) W io2 F2 m2 H2 (loopF as sa (ds.drop (i + 1)) sd2 m2) D, fun σ2 H2 hN => ?_, fun x H'' y => ?_⟩
        · exact ⟨ds.length - (i + 1), by omega, rfl, hi, hN⟩
        · obtain ⟨io2, F2, E2, S2, r2⟩ := IO.yld i io' F' m' H' x H'' ds[i] E' S' (List.getElem?_eq_getElem hi) y
          refine k2 io2 F2 m' H'' σ' sd' s1 ds[i] x _ S2 (rs'.mono (S'.mono E2)) r2 q1 fun σ3 rs3 _ => ?_
          refine ⟨io2, F2, m', s1, S2, rs3, ?_⟩
          have p2 := p'.ext E2
          cases q3 : sa s1 m' with
          | bad => rw [q3] at p2; exact p2
          | rt d m3 => rw [q3] at p2; exact p2
          | xc C fs s3 m3 => rw [q3] at p2; exact p2
          | bk s3 m3 => rw [q3] at p2; exact p2
          | nx s3 m3 =>
            rw [q3] at p2
            exact fun io4 F4 H4 σ4 E4 S4 rs4 => ⟨io4, F4, m3, s3, (E'.trans E2).trans E4, S4, rs4, p2.ext E4⟩
          | ct s3 m3 =>
            rw [q3] at p2
            exact fun io4 F4 H4 σ4 E4 S4 rs4 => ⟨io4, F4, m3, s3, (E'.trans E2).trans E4, S4, rs4, p2.ext E4⟩
    · have e : i = ds.length := by omega
      subst e
      rw [List.drop_length] at p'
      exact .inl ⟨IO.stop _ io' F' m' H' E' S' rfl, p' io' F' H' σ' (Ext.refl S') S' rs'⟩
def loopW (t : MT) (b : MS) : Nat → Slots → Mem → Out
  | 0, _, _ => .bad
  | n + 1, s, m => (t s m).then_ s fun c m1 => if c = true then (match b s m1 with
      | .nx s2 m2 => loopW t b n s2 m2
      | .ct s2 m2 => loopW t b n s2 m2
      | .bk s2 m2 => .nx s2 m2
      | o => o) else .nx s m1
def mWhile (n : Nat) (t : MT) (b : MS) : MS := fun s m => loopW t b n s m
theorem d_while {n : Nat} (hh : Here k W X) (ht : PT X c (tT (ctOf X) W ta)) (hb : PSs X sts (tS (ctOf X) W sa)) : PS X (.While c sts [] pos) (tS (ctOf X) W (mWhile n ta sa)) := by
  refine ps_imp (ps_while hh.po ht hb) fun D σ H h => ?_
  obtain ⟨io, F, m, sd, S, rs, p⟩ := h
  refine ⟨fun n σ' H' => ∃ io' F' m' sd', Sim (ctOf X) io' F' m' H' ∧ RelSl X.K io' F' m'.nx H' sd' σ' ∧ PostS (ctOf X) W io' F' m' H' (loopW ta sa n sd' m') D, ⟨n, io, F, m, sd, S, rs, p⟩, fun j σ' H' hW => ?_⟩
  obtain ⟨io', F', m', sd', S', rs', p'⟩ := hW
  cases j with
  | zero => exact p'.elim
  | succ j =>
    unfold loopW at p'
    have h1 := PostS.then_ (R := RB) S' rs' p'
    refine ⟨io', F', m', sd', S', rs', h1.imp fun bb H1 ⟨io1, F1, m1, a, S1, rs1, r, p1⟩ => ?_⟩
    cases r
    cases bb with
    | false => exact p1 io1 F1 H1 σ' (Ext.refl S1) S1 rs1
    | true =>
      refine (if_pos rfl).mpr ⟨fun σ2 H2 => ∃ io2 F2 m2 sd2, Sim (ctOf X) io2 F2 m2 H2 ∧ RelSl X.K io2 F2 m2.nx H2 sd2 σ2 ∧ PostS (ctOf X) W io2 F2 m2 H2 (loopW ta sa j sd2 m2) D, fun σ2 H2 hN => ⟨j, Nat.lt_succ_self _, hN⟩, ?_⟩
      refine ⟨io1, F1, m1, sd', S1, rs1, ?_⟩
      simp only [if_true] at p1
      cases q3 : sa sd' m1 with
      | bad => rw [q3] at p1; exact p1
      | rt d m3 => rw [q3] at p1; exact p1
      | xc C fs s3 m3 => rw [q3] at p1; exact p1
      | bk s3 m3 => rw [q3] at p1; exact p1
      | nx s3 m3 =>
        rw [q3] at p1
        exact fun io4 F4 H4 σ4 E4 S4 rs4 => ⟨io4, F4, m3, s3, S4, rs4, p1.ext E4⟩
      | ct s3 m3 =>
        rw [q3] at p1
        exact fun io4 F4 H4 σ4 E4 S4 rs4 => ⟨io4, F4, m3, s3, S4, rs4, p1.ext E4⟩
end
end Ev

set_option Elab.async false
set_option linter.all false
set_option maxRecDepth 100000
set_option autoImplicit false
/-! Ev8: comprehensions; stores. -/
namespace Ev
open PySem PySem.Spec PyProof.Rows L2
theorem Ext.putL {io io' : Nat → Addr} {F F' : Addr → Prop} {m m' : Mem} {H H' : Hp} {p : Addr} {o : HO} (E : Ext io F m H io' F' m' H') (hp : H p = none) : Ext io F m H io' F' m' (upd H' p o) :=
  ⟨E.nx, E.eio, E.eF, fun a z h hl => by rw [upd_ne (ne_of_none h hp)]; exact E.keep a z h hl, E.new, E.dead, E.lt,
    fun a z h => by rw [upd_ne (ne_of_none h hp)]; exact E.there a z h, E.newF⟩
def wipeS (s : Slots) : List Nat → Slots
  | [] => s
  | v :: vs => (wipeS s vs).set v none
theorem wipeS_len (s : Slots) : ∀ vs : List Nat, (wipeS s vs).length = s.length
  | [] => rfl
  | v :: vs => by unfold wipeS; rw [List.length_set, wipeS_len s vs]
theorem RelSl.wipe {K : PySem.W.Frag} {io : Nat → Addr} {F : Addr → Prop} {n : Nat} {H : Hp} {sd : Slots} {σ : L2.St} (h : RelSl K io F n H sd σ) : ∀ vs : List Nat, RelSl K io F n H (wipeS sd vs) (L2.wipe σ vs)
  | [] => h
  | v :: vs => by
    have ih := RelSl.wipe h vs
    unfold wipeS L2.wipe
    refine ⟨by rw [List.length_set, List.length_set]; exact ih.1, fun i d e => ?_⟩
    by_cases hv : v = i
    · subst hv
      by_cases hl : v < (wipeS sd vs).length
      · rw [List.getElem?_set_self hl] at e; cases e
      · rw [List.getElem?_eq_none (by rw [List.length_set]; omega)] at e; cases e
    · rw [List.getElem?_set_ne hv] at e
      obtain ⟨w, h1, h2⟩ := ih.2 i d e
      exact ⟨w, by rw [List.getElem?_set_ne hv]; exact h1, h2⟩
def loopC (as : As) (t : MT) (e : ME) (s : Slots) : List D → List D → Mem → Res (List D)
  | [], acc, m => .ok acc m
  | d :: ds, acc, m => match as d s with
    | none => .bad
    | some s1 => (match t s1 m with
      | .ok true m1 => (match e s1 m1 with
        | .ok y m2 => if acc.length < sizeLine then loopC as t e s ds (acc ++ [y]) m2 else .bad
        | _ => .bad)
      | .ok false m1 => loopC as t e s ds acc m1
      | _ => .bad)
def mYes : MT := fun _ m => .ok true m
/-- the items of [e for tg in it if t]; own: the places of the names within -/
def mComp (own : List Nat) (ci : MI) (as : As) (t : MT) (e : ME) : MA := fun s m => (ci s m).bind fun ds m1 => loopC as t e (wipeS s own) ds [] m1
def mLc (own : List Nat) (ci : MI) (as : As) (t : MT) (e : ME) : ME := fun s m => (mComp own ci as t e s m).bind fun acc m1 => .ok (.lst acc) m1
def mNewLc (own : List Nat) (ci : MI) (as : As) (t : MT) (e : ME) : ME := fun s m => (mComp own ci as t e s m).bind fun acc m1 => .ok (.ref m1.nx) (m1.add (.lst acc))
section
variable {X : Cx} {k : Nat} {W : WT} {elt tg iter : Expr} {ifs : List Expr} {scope : Scope} {own : List (Str × Nat)} {p pos spos py : Pos} {ci : MI} {as : As} {ts : List Nat} {ct : MT} {ce : ME} {g : TG} {tt : TT}
/-- the tests of a comprehension -/
structure DIfs (X : Cx) (W : WT) (ifs : List Expr) (tt : TT) (ct : MT) : Prop where
  p : PTs X ifs tt
  k : ∀ σ H Q, tT (ctOf X) W ct σ H Q → tt σ H Q
theorem d_if0 : DIfs X W [] tYes mYes := ⟨pts_nil, fun σ H Q h => by
  obtain ⟨io, F, m, sd, S, rs, p⟩ := h
  exact Post.now (R := RB) S p rfl⟩
theorem d_if1 {c : Expr} (h : PT X c (tT (ctOf X) W ct)) : DIfs X W [c] (tT (ctOf X) W ct) ct := ⟨pts_one h, fun σ H Q q => q⟩
theorem lc_of {wi : TI} {fin : List D → Mem → Res D}
    (k1 : ∀ (σ : L2.St) (H : Hp) (R : It → Hp → Prop) (io : Nat → Addr) (F : Addr → Prop) (m : Mem) (sd : Slots), Sim (ctOf X) io F m H → RelSl X.K io F m.nx H sd σ →
      (match ci sd m with
      | .ok ds m1 => ∀ io' F' H' J, Ext io F m H io' F' m1 H' → Sim (ctOf X) io' F' m1 H' → ItOk (ctOf X) io' F' m1 H' ds J → R J H'
      | .exc C fs m1 => ∀ io' F' H' cls d, Ext io F m H io' F' m1 H' → Sim (ctOf X) io' F' m1 H' → ExR (ctOf X) io' F' m1.nx H' C fs cls d → W cls d σ H'
      | .bad => False) → wi σ H R)
    (k2 : ∀ (io : Nat → Addr) (F : Addr → Prop) (m : Mem) (H : Hp) (σ : L2.St) (sd sd' : Slots) (d : D) (v : V) (Q : L2.St → Hp → Prop), Sim (ctOf X) io F m H → RelSl X.K io F m.nx H sd σ → RelD X.K io F m.nx H d v → as d sd = some sd' →
      (∀ σ', RelSl X.K io F m.nx H sd' σ' → SameBut ts σ σ' → Q σ' H) → g v σ H Q)
    (k3 : ∀ σ H Q, tT (ctOf X) W0 ct σ H Q → tt σ H Q) (hts : ∀ i ∈ ts, i ∈ own.map (·.2))
    (hfin : ∀ (io io1 : Nat → Addr) (F F1 : Addr → Prop) (m m1 : Mem) (H H1 : Hp) (acc : List D) (xs : List V) (q : Addr) (σ : L2.St) (Q : VK), Ext io F m H io1 F1 m1 H1 → Sim (ctOf X) io1 F1 m1 H1 → Loose io1 F1 m1 q → H q = none → H1 q = some (.lst xs) → RelDs X.K io1 F1 m1.nx H1 acc xs →
      Post (RD (ctOf X)) (ctOf X) (fun cls d H' => W cls d σ H') io F m H (fin acc m1) Q → Q (.ref q) H1)
    {σ : L2.St} {H : Hp} {Q : VK} (h : tE (ctOf X) W (fun s m => (mComp (own.map (·.2)) ci as ct ce s m).bind fin) σ H Q) : tLc wi g tt (tE (ctOf X) W0 ce) (own.map (·.2)) σ H Q := by
  obtain ⟨io, F, m, sd, S, rs, p⟩ := h
  refine k1 σ H _ io F m sd S rs ?_
  unfold mComp at p
  dsimp only at p
  cases q : ci sd m with
  | bad => rw [q] at p; exact p.elim
  | exc C fs m1 => rw [q] at p; exact p
  | ok ds m1 =>
    rw [q] at p
    simp only [Res.bind_ok] at p
    intro io1 F1 H1 J E1 S1 IO D hD
    have L1 := Loose.new S1 hD
    obtain ⟨S1', E1'⟩ := S1.extra (o := .lst []) hD
    have rsw := (rs.mono (S.mono E1)).wipe (own.map (·.2))
    refine ⟨fun i n H' => n = ds.length - i ∧ i ≤ ds.length ∧ ∃ io' F' m' acc xs, Ext io1 F1 m1 H1 io' F' m' H' ∧ Sim (ctOf X) io' F' m' H' ∧ Loose io' F' m' D ∧ H' D = some (.lst xs) ∧ RelDs X.K io' F' m'.nx H' acc xs ∧
        Post (RD (ctOf X)) (ctOf X) (fun cls d H' => W cls d σ H') io1 F1 m1 H1 ((loopC as ct ce (wipeS sd (own.map (·.2))) (ds.drop i) acc m').bind fin) Q,
      ⟨ds.length, by omega, Nat.zero_le _, io1, F1, m1, [], [], E1', S1', L1, upd_same, by simp only [RelDs], p.ext E1⟩, fun i n H' hW => ?_⟩
    obtain ⟨hn, hle, io', F', m', acc, xs, E', S', L', eD, rA, p'⟩ := hW
    by_cases hi : i < ds.length
    · refine .inr ⟨IO.go i io' F' m' H' E' S' hi, ?_⟩
      have ed : ds.drop i = ds[i] :: ds.drop (i + 1) := List.drop_eq_getElem_cons hi
      rw [ed] at p'
      unfold loopC at p'
      cases q1 : as ds[i] (wipeS sd (own.map (·.2))) with
      | none => rw [q1] at p'; exact p'.elim
      | some s1 =>
        rw [q1] at p'
        simp only at p'
        refine ⟨fun H2 => ∃ io2 F2 m2 acc xs, Ext io1 F1 m1 H1 io2 F2 m2 H2 ∧ Sim (ctOf X) io2 F2 m2 H2 ∧ Loose io2 F2 m2 D ∧ H2 D = some (.lst xs) ∧ RelDs X.K io2 F2 m2.nx H2 acc xs ∧
          Post (RD (ctOf X)) (ctOf X) (fun cls d H' => W cls d σ H') io1 F1 m1 H1 ((loopC as ct ce (wipeS sd (own.map (·.2))) (ds.drop (i + 1)) acc m2).bind fin) Q, fun H2 hN => ⟨ds.length - (i + 1), by omega, rfl, hi, hN⟩, fun x H'' y => ?_⟩
        obtain ⟨io2, F2, E2, S2, r2⟩ := IO.yld i io' F' m' H' x H'' ds[i] E' S' (List.getElem?_eq_getElem hi) y
        obtain ⟨L2', eD2⟩ := L'.ext E2 eD
        have rsw2 := (rsw.mono (S1.mono E')).mono (S'.mono E2)
        refine k2 io2 F2 m' H'' (L2.wipe σ (own.map (·.2))) _ s1 ds[i] x _ S2 rsw2 r2 q1 fun σ3 rs3 sb => ?_
        refine ⟨?_, k3 _ _ _ ⟨io2, F2, m', s1, S2, rs3, ?_⟩⟩
        · rw [sb.wipe hts]
          have id : SameBut (own.map (·.2)) σ (L2.wipe σ (own.map (·.2))) := by
            refine ⟨L2.wipe_length _ _, fun j hj => ?_⟩
            clear hts
            generalize own.map (·.2) = vs at hj
            induction vs with
            | nil => rfl
            | cons v vs ih =>
              unfold L2.wipe
              rw [List.getElem?_set_ne (fun z => hj (by rw [z]; exact List.mem_cons_self))]
              exact ih fun z => hj (List.mem_cons_of_mem _ z)
          exact id.wipe fun _ z => z
        · cases q3 : ct s1 m' with
          | bad => rw [q3] at p'; exact p'.elim
          | exc C fs m3 => rw [q3] at p'; exact p'.elim
          | ok bb m3 =>
            rw [q3] at p'
            intro io3 F3 H3 b' E3 S3 r
            cases r
            obtain ⟨L3, eD3⟩ := L2'.ext E3 eD2
            have rA3 := (rA.mono (S'.mono E2)).mono (S2.mono E3)
            cases bb with
            | false => exact (if_neg (by decide)).mpr ⟨io3, F3, m3, acc, xs, (E'.trans E2).trans E3, S3, L3, eD3, rA3, p'⟩
            | true =>
              refine (if_pos rfl).mpr ⟨io3, F3, m3, s1, S3, rs3.mono (S2.mono E3), ?_⟩
              simp only at p'
              cases q4 : ce s1 m3 with
              | bad => rw [q4] at p'; exact p'.elim
              | exc C fs m4 => rw [q4] at p'; exact p'.elim
              | ok y m4 =>
                rw [q4] at p'
                simp only at p'
                intro io4 F4 H4 yv E4 S4 ry
                obtain ⟨L4, eD4⟩ := L3.ext E4 eD3
                have rA4 := rA3.mono (S3.mono E4)
                split at p'
                · rename_i hl
                  refine ⟨xs, eD4, by rw [← rA4.len]; exact hl, io4, F4, m4, acc ++ [y], xs ++ [yv], (((E'.trans E2).trans E3).trans E4).putL hD, L4.put S4, L4, upd_same, ?_, p'⟩
                  exact (RelDs.app rA4 (by simp only [RelDs]; exact ⟨ry, trivial⟩)).mono L4.mono
                · exact p'.elim
    · have e : i = ds.length := by omega
      subst e
      rw [List.drop_length] at p'
      exact .inl ⟨IO.stop _ io' F' m' H' E' S' rfl, hfin _ _ _ _ _ _ _ _ _ _ _ σ Q E' S' L' hD eD rA p'⟩
theorem fin_I (io io1 : Nat → Addr) (F F1 : Addr → Prop) (m m1 : Mem) (H H1 : Hp) (acc : List D) (xs : List V) (q : Addr) (σ : L2.St) (Q : VK) (E : Ext io F m H io1 F1 m1 H1) (S : Sim (ctOf X) io1 F1 m1 H1) (L : Loose io1 F1 m1 q) (hq : H q = none) (h1 : H1 q = some (.lst xs))
    (r : RelDs X.K io1 F1 m1.nx H1 acc xs) (p : Post (RD (ctOf X)) (ctOf X) (fun cls d H' => W cls d σ H') io F m H ((fun acc m1 => Res.ok (D.lst acc) m1) acc m1) Q) : Q (.ref q) H1 := by
  obtain ⟨S4, M4⟩ := S.ownF L h1
  refine p io1 (orF F1 q) _ _ (E.ownF hq) S4 ?_
  simp only [RD, RelD]
  exact ⟨q, xs, rfl, .inr rfl, h1, r.mono M4⟩
theorem fin_M (io io1 : Nat → Addr) (F F1 : Addr → Prop) (m m1 : Mem) (H H1 : Hp) (acc : List D) (xs : List V) (q : Addr) (σ : L2.St) (Q : VK) (E : Ext io F m H io1 F1 m1 H1) (S : Sim (ctOf X) io1 F1 m1 H1) (L : Loose io1 F1 m1 q) (hq : H q = none) (h1 : H1 q = some (.lst xs))
    (r : RelDs X.K io1 F1 m1.nx H1 acc xs) (p : Post (RD (ctOf X)) (ctOf X) (fun cls d H' => W cls d σ H') io F m H ((fun acc m1 => Res.ok (D.ref m1.nx) (m1.add (.lst acc))) acc m1) Q) : Q (.ref q) H1 := by
  have hu : RelO (ctOf X) (ioN io1 m1.nx q) F1 (m1.nx + 1) H1 (.lst acc) q :=
    ⟨xs, h1, r.mono ⟨Nat.le_succ _, fun i h => ioN_lt h, fun _ h => h, fun _ _ _ h => h, fun _ _ _ h => h, fun _ _ _ _ h => h, fun _ _ _ h => h, fun _ _ _ h => h⟩⟩
  obtain ⟨S4, M4⟩ := S.ownO (u := .lst acc) L hu
  refine p _ F1 _ _ (E.ownO hq) S4 ?_
  simp only [RD, RelD]
  exact ⟨Nat.lt_succ_self _, by rw [ioN_self]⟩
theorem d_lc (hh : Here k W X) (hi : DIt X W tg iter ci) (ok : BlkOk X.N X.env.scope scope own) (hg : ∀ (s : Shared) (H : Hp) (C : Addr) (cl : List (Str × Addr)) (fp : List Addr), Here k W0 (X.blk s H scope (compEnvC scope cl C X.env) fp) → DTg (X.blk s H scope (compEnvC scope cl C X.env) fp) tg g as ts)
    (ht : ∀ (s : Shared) (H : Hp) (C : Addr) (cl : List (Str × Addr)) (fp : List Addr), Here k W0 (X.blk s H scope (compEnvC scope cl C X.env) fp) → DIfs (X.blk s H scope (compEnvC scope cl C X.env) fp) W0 ifs tt ct)
    (he : ∀ (s : Shared) (H : Hp) (C : Addr) (cl : List (Str × Addr)) (fp : List Addr), Here k W0 (X.blk s H scope (compEnvC scope cl C X.env) fp) → PE (X.blk s H scope (compEnvC scope cl C X.env) fp) elt (tE (ctOf X) W0 ce))
    (hts : ∀ i ∈ ts, i ∈ own.map (·.2) := by decide) (hs : ∀ x, foldedSetIterable iter X.env x = pure x := by intro _; rfl) :
    PE X (.ListComp elt [⟨tg, iter, ifs, 0⟩] scope pos) (tE (ctOf X) W (mLc (own.map (·.2)) ci as ct ce)) := by
  obtain ⟨wi, p1, k1⟩ := hi.ex
  exact pe_imp (pe_lc hh.calm hh.nd p1 ok (fun s H C cl fp => (hg s H C cl fp (hh.blk s H _ _ fp)).p) (fun s H C cl fp => (ht s H C cl fp (hh.blk s H _ _ fp)).p) (fun s H C cl fp => he s H C cl fp (hh.blk s H _ _ fp)) hs) fun σ H Q h => lc_of k1 (hg {} (fun _ => none) 0 [] [] (hh.blk _ _ _ _ _)).k (ht {} (fun _ => none) 0 [] [] (hh.blk _ _ _ _ _)).k hts fin_I h
theorem d_newLc (hh : Here k W X) (hi : DIt X W tg iter ci) (ok : BlkOk X.N X.env.scope scope own) (hg : ∀ (s : Shared) (H : Hp) (C : Addr) (cl : List (Str × Addr)) (fp : List Addr), Here k W0 (X.blk s H scope (compEnvC scope cl C X.env) fp) → DTg (X.blk s H scope (compEnvC scope cl C X.env) fp) tg g as ts)
    (ht : ∀ (s : Shared) (H : Hp) (C : Addr) (cl : List (Str × Addr)) (fp : List Addr), Here k W0 (X.blk s H scope (compEnvC scope cl C X.env) fp) → DIfs (X.blk s H scope (compEnvC scope cl C X.env) fp) W0 ifs tt ct)
    (he : ∀ (s : Shared) (H : Hp) (C : Addr) (cl : List (Str × Addr)) (fp : List Addr), Here k W0 (X.blk s H scope (compEnvC scope cl C X.env) fp) → PE (X.blk s H scope (compEnvC scope cl C X.env) fp) elt (tE (ctOf X) W0 ce))
    (hts : ∀ i ∈ ts, i ∈ own.map (·.2) := by decide) (hs : ∀ x, foldedSetIterable iter X.env x = pure x := by intro _; rfl) :
    PE X (.ListComp elt [⟨tg, iter, ifs, 0⟩] scope pos) (tE (ctOf X) W (mNewLc (own.map (·.2)) ci as ct ce)) := by
  obtain ⟨wi, p1, k1⟩ := hi.ex
  exact pe_imp (pe_lc hh.calm hh.nd p1 ok (fun s H C cl fp => (hg s H C cl fp (hh.blk s H _ _ fp)).p) (fun s H C cl fp => (ht s H C cl fp (hh.blk s H _ _ fp)).p) (fun s H C cl fp => he s H C cl fp (hh.blk s H _ _ fp)) hs) fun σ H Q h => lc_of k1 (hg {} (fun _ => none) 0 [] [] (hh.blk _ _ _ _ _)).k (ht {} (fun _ => none) 0 [] [] (hh.blk _ _ _ _ _)).k hts fin_M h
/-- name = [..] -/
theorem d_setLc {i : Nat} {y : Str} (hh : Here k W X) (hi : DIt X W tg iter ci) (ok : BlkOk X.N X.env.scope scope own) (hg : ∀ (s : Shared) (H : Hp) (C : Addr) (cl : List (Str × Addr)) (fp : List Addr), Here k W0 (X.blk s H scope (compEnvC scope cl C X.env) fp) → DTg (X.blk s H scope (compEnvC scope cl C X.env) fp) tg g as ts)
    (ht : ∀ (s : Shared) (H : Hp) (C : Addr) (cl : List (Str × Addr)) (fp : List Addr), Here k W0 (X.blk s H scope (compEnvC scope cl C X.env) fp) → DIfs (X.blk s H scope (compEnvC scope cl C X.env) fp) W0 ifs tt ct)
    (he : ∀ (s : Shared) (H : Hp) (C : Addr) (cl : List (Str × Addr)) (fp : List Addr), Here k W0 (X.blk s H scope (compEnvC scope cl C X.env) fp) → PE (X.blk s H scope (compEnvC scope cl C X.env) fp) elt (tE (ctOf X) W0 ce)) (hi2 : X.N[i]? = some y := by rfl) (hyl : X.env.scope.names.lookup y = some .local := by rfl)
    (hsw : swapsWith (.ListComp elt [⟨tg, iter, ifs, 0⟩] scope pos) (some (.Name y py)) spos.line X.env = pure true := by exact sw_true rfl rfl rfl (by decide +kernel))
    (hts : ∀ i ∈ ts, i ∈ own.map (·.2) := by decide) (hs : ∀ x, foldedSetIterable iter X.env x = pure x := by intro _; rfl) :
    PS X (.Assign [.Name y py] (.ListComp elt [⟨tg, iter, ifs, 0⟩] scope pos) spos) (tS (ctOf X) W (mSet i (mLc (own.map (·.2)) ci as ct ce))) := by
  obtain ⟨wi, p1, k1⟩ := hi.ex
  exact ps_imp (ps_setLc hh.calm hh.nd hi2 hyl hsw p1 ok (fun s H C cl fp => (hg s H C cl fp (hh.blk s H _ _ fp)).p) (fun s H C cl fp => (ht s H C cl fp (hh.blk s H _ _ fp)).p) (fun s H C cl fp => he s H C cl fp (hh.blk s H _ _ fp)) hs) fun D σ H h => lc_of k1 (hg {} (fun _ => none) 0 [] [] (hh.blk _ _ _ _ _)).k (ht {} (fun _ => none) 0 [] [] (hh.blk _ _ _ _ _)).k hts fin_I (tSet_of h)
theorem d_setNewLc {i : Nat} {y : Str} (hh : Here k W X) (hi : DIt X W tg iter ci) (ok : BlkOk X.N X.env.scope scope own) (hg : ∀ (s : Shared) (H : Hp) (C : Addr) (cl : List (Str × Addr)) (fp : List Addr), Here k W0 (X.blk s H scope (compEnvC scope cl C X.env) fp) → DTg (X.blk s H scope (compEnvC scope cl C X.env) fp) tg g as ts)
    (ht : ∀ (s : Shared) (H : Hp) (C : Addr) (cl : List (Str × Addr)) (fp : List Addr), Here k W0 (X.blk s H scope (compEnvC scope cl C X.env) fp) → DIfs (X.blk s H scope (compEnvC scope cl C X.env) fp) W0 ifs tt ct)
    (he : ∀ (s : Shared) (H : Hp) (C : Addr) (cl : List (Str × Addr)) (fp : List Addr), Here k W0 (X.blk s H scope (compEnvC scope cl C X.env) fp) → PE (X.blk s H scope (compEnvC scope cl C X.env) fp) elt (tE (ctOf X) W0 ce)) (hi2 : X.N[i]? = some y := by rfl) (hyl : X.env.scope.names.lookup y = some .local := by rfl)
    (hsw : swapsWith (.ListComp elt [⟨tg, iter, ifs, 0⟩] scope pos) (some (.Name y py)) spos.line X.env = pure true := by exact sw_true rfl rfl rfl (by decide +kernel))
    (hts : ∀ i ∈ ts, i ∈ own.map (·.2) := by decide) (hs : ∀ x, foldedSetIterable iter X.env x = pure x := by intro _; rfl) :
    PS X (.Assign [.Name y py] (.ListComp elt [⟨tg, iter, ifs, 0⟩] scope pos) spos) (tS (ctOf X) W (mSet i (mNewLc (own.map (·.2)) ci as ct ce))) := by
  obtain ⟨wi, p1, k1⟩ := hi.ex
  exact ps_imp (ps_setLc hh.calm hh.nd hi2 hyl hsw p1 ok (fun s H C cl fp => (hg s H C cl fp (hh.blk s H _ _ fp)).p) (fun s H C cl fp => (ht s H C cl fp (hh.blk s H _ _ fp)).p) (fun s H C cl fp => he s H C cl fp (hh.blk s H _ _ fp)) hs) fun D σ H h => lc_of k1 (hg {} (fun _ => none) 0 [] [] (hh.blk _ _ _ _ _)).k (ht {} (fun _ => none) 0 [] [] (hh.blk _ _ _ _ _)).k hts fin_M (tSet_of h)
end

/-! ### stores -/
section
variable {X : Cx} {k : Nat} {W : WT} {o i value a b e : Expr} {pos pos' apos cpos : Pos} {co ci cv ca cb : ME} {cA : MA}
/-- o[i] = e, o a dict that may change -/
def mDPut (co ci cv : ME) : MS := fun s m => (cv s m).then_ s fun v m1 => (co s m1).then_ s fun x m2 => (ci s m2).then_ s fun y m3 => match x with
  | .ref j => (match m3.ob j with
    | some (.dk ks ds) => (match keyOf (view m3 y) with
      | some kk => if ks.length < sizeLine ∧ ks.length = ds.length then .nx s (m3.put j (.dk ((putD (ks.zip ds) kk v).map (·.1)) ((putD (ks.zip ds) kk v).map (·.2)))) else .bad
      | none => .bad)
    | some (.dt ks ds) => (match view m3 y with
      | .tup es => (match ikeysOf es with
        | some kk => if ks.length < sizeLine ∧ ks.length = ds.length then .nx s (m3.put j (.dt ((putD (ks.zip ds) kk v).map (·.1)) ((putD (ks.zip ds) kk v).map (·.2)))) else .bad
        | none => .bad)
      | _ => .bad)
    | _ => .bad)
  | _ => .bad
theorem zip_rel {κ : Type} {K : PySem.W.Frag} {io : Nat → Addr} {F : Addr → Prop} {n : Nat} {H : Hp} {ks : List κ} {ds : List D} {kvs : List (κ × V)} (h1 : kvs.map (·.1) = ks) (h2 : RelDs K io F n H ds (kvs.map (·.2))) : RelE K io F n H (ks.zip ds) kvs := by
  have hl := h2.len
  rw [List.length_map] at hl
  have hk : ks.length = ds.length := by rw [hl, ← h1, List.length_map]
  refine RelE.join ?_ ?_
  · rw [List.map_fst_zip (by omega), h1]
  · rw [List.map_snd_zip (by omega)]; exact h2
theorem d_dput (hh : Here k W X) (ho : PE X o (tE (ctOf X) W co)) (hi : PE X i (tE (ctOf X) W ci)) (hv : PE X value (tE (ctOf X) W cv)) (hs : swapsWith value (some (.Subscript o i pos')) pos.line X.env = pure false := by rfl) :
    PS X (.Assign [.Subscript o i pos'] value pos) (tS (ctOf X) W (mDPut co ci cv)) := by
  refine ps_imp (ps_dput (Nat.lt_of_le_of_lt (by omega) hh.hu) ho hi hv hs) fun D σ H h => ?_
  obtain ⟨io, F, m, sd, S, rs, p⟩ := h
  refine ⟨io, F, m, sd, S, rs, (PostS.then_ (R := RD (ctOf X)) S rs p).imp fun v H1 ⟨io1, F1, m1, d1, S1, rs1, r1, p1⟩ => ?_⟩
  have q2 := PostS.then_ (R := RD (ctOf X)) S1 rs1 p1
  refine ⟨io1, F1, m1, sd, S1, rs1, ?_⟩
  cases e2 : co sd m1 with
  | bad => rw [e2] at q2; exact q2
  | exc C fs m2 => rw [e2] at q2; exact q2
  | ok d2 m2 =>
    rw [e2] at p1
    simp only [Res.then_ok] at p1
    intro io2 F2 H2 x E2 S2 r2
    have r1' := r1.mono (S1.mono E2)
    have rs2 := rs1.mono (S1.mono E2)
    have p2 := p1.ext E2
    have q3 := PostS.then_ (R := RD (ctOf X)) S2 rs2 p2
    refine ⟨io2, F2, m2, sd, S2, rs2, ?_⟩
    cases e3 : ci sd m2 with
    | bad => rw [e3] at q3; exact q3
    | exc C fs m3 => rw [e3] at q3; exact q3
    | ok d3 m3 =>
      rw [e3] at p2
      simp only [Res.then_ok] at p2
      intro io3 F3 H3 y E3 S3 r3
      have r1'' := r1'.mono (S2.mono E3)
      have r2' := r2.mono (S2.mono E3)
      have rs3 := rs2.mono (S2.mono E3)
      have p3 := p2.ext E3
      cases d2 with
      | ref j =>
        simp only at p3
        simp only [RelD] at r2'
        cases q : m3.ob j with
        | none => rw [q] at p3; exact p3.elim
        | some u =>
          rw [q] at p3
          cases u with
          | dk ks ds =>
            simp only at p3
            cases q5 : keyOf (view m3 d3) with
            | none => rw [q5] at p3; exact p3.elim
            | some kk =>
              rw [q5] at p3
              simp only at p3
              split at p3
              · rename_i hl
                obtain ⟨kvs, g1, g2, g3⟩ := S3.ob j _ q
                have ey := keyOf_view r3 q5
                have hlen : kvs.length < sizeLine := by have := hl.1; rw [← g2, List.length_map] at this; exact this
                have rE := (zip_rel g2 g3).put (k := kk) r1''
                refine ⟨io3 j, _, r2'.2, .inl ⟨kvs, kk, g1, ey, hlen, rfl⟩, ?_⟩
                have E4 := Ext.put (u' := .dk ((putD (ks.zip ds) kk d1).map (·.1)) ((putD (ks.zip ds) kk d1).map (·.2))) (o := .dK (putK kvs kk v)) S3 q
                have rE' := rE.split
                exact p3 io3 F3 _ σ E4 (S3.put q ⟨putK kvs kk v, upd_same, rE'.1, rE'.2.mono (S3.mono E4)⟩) (rs3.mono (S3.mono E4))
              · exact p3.elim
          | dt ks ds =>
            simp only at p3
            split at p3
            · rename_i es e5
              cases q5 : ikeysOf es with
              | none => rw [q5] at p3; exact p3.elim
              | some kk =>
                rw [q5] at p3
                simp only at p3
                split at p3
                · rename_i hl
                  obtain ⟨kvs, g1, g2, g3⟩ := S3.ob j _ q
                  obtain ⟨b, xs, rfl, t, qq⟩ := is_tup r3 e5
                  have ey := keysOf_rel qq (ikeys_keys q5)
                  subst ey
                  have tH : H3 b = some (.tup (kk.map kV)) := by
                    rcases t with ⟨_, t⟩ | ⟨t, z, r, e⟩
                    · exact t
                    · cases es with
                      | nil => simp only [ikeysOf, Option.some.injEq] at q5; subst q5; cases e
                      | cons d es =>
                        cases d with
                        | int i =>
                          simp only [ikeysOf, Option.map_eq_some_iff] at q5
                          obtain ⟨r', _, rfl⟩ := q5
                          cases e
                        | _ => simp only [ikeysOf] at q5; cases q5
                  have hlen : kvs.length < sizeLine := by have := hl.1; rw [← g2, List.length_map] at this; exact this
                  have rE := (zip_rel g2 g3).put (k := kk) r1''
                  refine ⟨io3 j, _, r2'.2, .inr ⟨kvs, kk, b, g1, rfl, tH, hlen, rfl⟩, ?_⟩
                  have E4 := Ext.put (u' := .dt ((putD (ks.zip ds) kk d1).map (·.1)) ((putD (ks.zip ds) kk d1).map (·.2))) (o := .dT (putK kvs kk v)) S3 q
                  have rE' := rE.split
                  exact p3 io3 F3 _ σ E4 (S3.put q ⟨putK kvs kk v, upd_same, rE'.1, rE'.2.mono (S3.mono E4)⟩) (rs3.mono (S3.mono E4))
                · exact p3.elim
            · exact p3.elim
          | lst _ => exact p3.elim
          | ins _ _ => exact p3.elim
      | _ => exact p3.elim
/-- l.append(e), l.extend(e) -/
def isL (m : Mem) (x : D) : Bool := match x with
  | .ref j => (match m.ob j with
    | some (.lst _) => true
    | _ => false)
  | _ => false
def appD (x y : D) (m : Mem) : Res D := match x with
  | .ref j => (match m.ob j with
    | some (.lst ds) => if ds.length < sizeLine then .ok .non (m.put j (.lst (ds ++ [y]))) else .bad
    | _ => .bad)
  | _ => .bad
def extD (x y : D) (m : Mem) : Res D := match x with
  | .ref j => (match m.ob j with
    | some (.lst ds) => (match view m y with
      | .lst es => if ds.length + es.length ≤ sizeLine then .ok .non (m.put j (.lst (ds ++ es))) else .bad
      | _ => .bad)
    | _ => .bad)
  | _ => .bad
def mL1 (f : D → D → Mem → Res D) (co ca : ME) : ME := fun s m => (co s m).bind fun x m1 => if isL m1 x = true then (ca s m1).bind fun y m2 => f x y m2 else .bad
theorem isL_rel {T : Ct} {io : Nat → Addr} {F : Addr → Prop} {m : Mem} {H : Hp} {d : D} {v : V} (S : Sim T io F m H) (r : RelD T.K io F m.nx H d v) (h : isL m d = true) : tyV T.K "list" v H := by
  unfold isL at h
  split at h
  · rename_i j
    split at h
    · rename_i ds q
      simp only [RelD] at r
      obtain ⟨xs, h1, _⟩ := S.ob j _ q
      rw [r.2]
      exact .inl ⟨rfl, xs, .inl (.inl h1)⟩
    · cases h
  · cases h
theorem lst_of {T : Ct} {io : Nat → Addr} {F : Addr → Prop} {m : Mem} {H : Hp} {x : D} {v : V} (S : Sim T io F m H) (r : RelD T.K io F m.nx H x v) {j : Nat} {ds : List D} (ex : x = .ref j) (q : m.ob j = some (.lst ds)) : ∃ xs, v = .ref (io j) ∧ H (io j) = some (.lst xs) ∧ RelDs T.K io F m.nx H ds xs := by
  subst ex
  simp only [RelD] at r
  obtain ⟨xs, h1, h2⟩ := S.ob j _ q
  exact ⟨xs, r.2, h1, h2⟩
theorem tL1_of {f : D → D → Mem → Res D} {σ : L2.St} {H : Hp} {Q : VK} (h : tE (ctOf X) W (mL1 f co ca) σ H Q) : tE (ctOf X) W co σ H fun x H1 => tyV X.K "list" x H1 ∧ tE (ctOf X) W ca σ H1 fun y H2 =>
    ∃ io F m d e, Sim (ctOf X) io F m H2 ∧ RelD X.K io F m.nx H2 d x ∧ RelD X.K io F m.nx H2 e y ∧ Post (RD (ctOf X)) (ctOf X) (fun cls d H' => W cls d σ H') io F m H2 (f d e m) Q := by
  refine (tG.bind (R := RD (ctOf X)) (R' := RD (ctOf X)) (c := co) (k := fun x s m1 => if isL m1 x = true then (ca s m1).bind fun y m2 => f x y m2 else .bad) h).imp fun x H1 h2 => ?_
  obtain ⟨io, F, m, sd, d, S, rs, r, p⟩ := h2
  dsimp only at p
  split at p
  · rename_i hl
    refine ⟨isL_rel S r hl, ?_⟩
    have h3 : tK (RD (ctOf X)) (RD (ctOf X)) (ctOf X) W (fun x s m1 => (ca s m1).bind fun y m2 => f x y m2) x σ H1 Q := ⟨io, F, m, sd, d, S, rs, r, p⟩
    refine (tK.bind (R := RD (ctOf X)) (monoD _) h3).imp fun y H2 h4 => ?_
    obtain ⟨io, F, m, sd, ⟨d, e⟩, S, rs, ⟨r1, r2⟩, p⟩ := h4
    exact ⟨io, F, m, d, e, S, r1, r2, p⟩
  · exact p.elim
theorem d_append (ho : PE X o (tE (ctOf X) W co)) (ha : PE X a (tE (ctOf X) W ca)) (h1 : attributeBase o "append" X.env (eval o X.env) = eval o X.env := by rfl)
    (h2 : (((backTo cpos (starEach [a] X.env)).all fun x => !x.1) && ((backToKw cpos (keywordEach [] X.env)).all fun x => x.1.isSome) && decide (([a].length + ([] : List Keyword).length + if ([] : List Keyword).isEmpty = true then 0 else 1) < 30)) = true := by rfl)
    (h3 : (apos.endLine == cpos.line) = true := by rfl) (h4 : starEach [a] X.env = (false, eval a X.env) :: starEach [] X.env := by rfl) (h5 : (backTo cpos (starEach [] X.env)).any (·.1) = false := by rfl) :
    PE X (.Call (.Attribute o "append" apos) [a] [] cpos) (tE (ctOf X) W (mL1 appD co ca)) :=
  pe_imp (pe_bm PySem.F.plainAttrs_list PySem.F.slot_list_append PySem.F.type_list_append mt_append ho (pa_cons ha pa_nil h4) h1 h2 h3 h4 h5) fun σ H Q h => (tL1_of h).imp fun x H1 ⟨ty, h2⟩ => ⟨ty, h2.imp fun y H2 h3 => by
    obtain ⟨io, F, m, d, e, S, r1, r2, p⟩ := h3
    unfold appD at p
    split at p
    · rename_i j
      split at p
      · rename_i ds q
        split at p
        · rename_i hl
          obtain ⟨xs, ev, g1, g2⟩ := lst_of S r1 rfl q
          refine ⟨io j, xs, y, ev, rfl, g1, by rw [← g2.len]; exact hl, ?_⟩
          have E := Ext.put (u' := .lst (ds ++ [e])) (o := .lst (xs ++ [y])) S q
          refine p io F _ _ E (S.put q ⟨xs ++ [y], upd_same, ?_⟩) (by simp only [RD, RelD])
          exact (RelDs.app g2 (by simp only [RelDs]; exact ⟨r2, trivial⟩)).mono (S.mono E)
        · exact p.elim
      · exact p.elim
    · exact p.elim⟩
theorem d_extend (ho : PE X o (tE (ctOf X) W co)) (ha : PE X a (tE (ctOf X) W ca)) (h1 : attributeBase o "extend" X.env (eval o X.env) = eval o X.env := by rfl)
    (h2 : (((backTo cpos (starEach [a] X.env)).all fun x => !x.1) && ((backToKw cpos (keywordEach [] X.env)).all fun x => x.1.isSome) && decide (([a].length + ([] : List Keyword).length + if ([] : List Keyword).isEmpty = true then 0 else 1) < 30)) = true := by rfl)
    (h3 : (apos.endLine == cpos.line) = true := by rfl) (h4 : starEach [a] X.env = (false, eval a X.env) :: starEach [] X.env := by rfl) (h5 : (backTo cpos (starEach [] X.env)).any (·.1) = false := by rfl) :
    PE X (.Call (.Attribute o "extend" apos) [a] [] cpos) (tE (ctOf X) W (mL1 extD co ca)) :=
  pe_imp (pe_bm PySem.F.plainAttrs_list PySem.F.slot_list_extend PySem.F.type_list_extend mt_extend ho (pa_cons ha pa_nil h4) h1 h2 h3 h4 h5) fun σ H Q h => (tL1_of h).imp fun x H1 ⟨ty, h2⟩ => ⟨ty, h2.imp fun y H2 h3 => by
    obtain ⟨io, F, m, d, e, S, r1, r2, p⟩ := h3
    unfold extD at p
    split at p
    · rename_i j
      split at p
      · rename_i ds q
        split at p
        · rename_i es qe
          split at p
          · rename_i hl
            obtain ⟨xs, ev, g1, g2⟩ := lst_of S r1 rfl q
            obtain ⟨b, ys, rfl, tb, qb⟩ := at_lst S r2 qe
            refine ⟨io j, b, xs, ys, ev, rfl, g1, tb, by rw [← g2.len, ← qb.len]; exact hl, ?_⟩
            have E := Ext.put (u' := .lst (ds ++ es)) (o := .lst (xs ++ ys)) S q
            refine p io F _ _ E (S.put q ⟨xs ++ ys, upd_same, ?_⟩) (by simp only [RD, RelD])
            exact (RelDs.app g2 qb).mono (S.mono E)
          · exact p.elim
        · exact p.elim
      · exact p.elim
    · exact p.elim⟩
end
end Ev

set_option Elab.async false
set_option linter.all false
set_option maxRecDepth 100000
set_option autoImplicit false
/-! Ev9: the end: the law's own call. -/
namespace Ev
open PySem PySem.Spec PyProof.Rows L2
def mem0 : Mem := ⟨0, fun _ => none⟩
theorem sim0 (T : Ct) (io : Nat → Addr) (H : Hp) : Sim T io (fun b => H b ≠ none) mem0 H := by
  refine ⟨fun _ _ _ _ z => ?_, fun _ _ z => ?_, fun _ _ z => ?_, fun _ _ z => ?_, fun b z => ?_⟩
  · exact nomatch z
  · exact nomatch z
  · exact nomatch z
  · exact nomatch z
  · cases q : H b with
    | none => exact absurd q z
    | some o => exact ⟨o, rfl⟩
/-- the law's call, from its computation -/
theorem lawG {P : Program} {w : World} {K : PySem.W.Frag} {mg mb : Str → Option Value} {k : Nat} {fa a : Addr} {fd : FuncData} {x : Str} {g : List D → Mem → Res D} {s : Shared} {vs : List Value} {ns : List Int}
    (hK : K.In s.heap) (hG : s.heap.Ns mainGlobals mg) (hB : s.heap.Ns builtinsNs mb) (hBB : ∀ x : Str, x ≠ "__name__" → mb x = bootBuiltins x) (hL : s.heap.NoLimit) (hg : s.gens = #[])
    (ha : s.heap.get? a = some { cls := .type "list", data := .seq vs.toArray }) (hi : IntsAre vs ns) (hl : ns.length ≤ sizeLine) (hr : Room k callerA)
    (U : ∀ base : Heap, K.In base → base.Ns mainGlobals mg → FnG P w K mg base k fa fd [x] (spM ⟨K, mg⟩ 1 g)) (hb : ∀ (s : Shared) (u : Value), BindsTo s fd ⟨[u], []⟩ [(x, u)])
    (ht : ∃ m', g [.scr ns] mem0 = .ok (.bl true) m') :
    codeAny (model P w) callerA (.call (.ref fa) ⟨[.ref a], []⟩)
      (fun r s' => r = .ok (.ret (.bool true)) ∧ OldK s.heap s'.heap ∧ s'.os = s.os ∧ AllBare s'.gens) s := by
  have rv := vals_ints hi
  have lv := hi.length
  obtain ⟨H, hO, hS, hok, hA, hKa⟩ : ∃ H : Hp, Only H ∧ ScrF K (fun b => H b ≠ none) H a ns ∧ HOk P w H s.heap ∧
      (∀ b, H b ≠ none → b = a) ∧ (H a ≠ none → K.lookup a = none) := by
    cases hk : K.lookup a with
    | some o =>
      have e := hK a o hk
      rw [ha] at e
      cases e
      refine ⟨fun _ => none, fun _ => .inl rfl, .inr ⟨_, vs.toArray, _, hk, rfl, rfl, rfl, ?_, by simpa using rv⟩, fun b u z => ?_, fun b z => absurd rfl z, fun z => absurd rfl z⟩
      · rw [List.size_toArray, lv]; exact hl
      · exact absurd z (by simp)
    | none =>
      have at_ : ∀ b, (if b = a then some (HO.frz { cls := .type "list", data := .seq vs.toArray } (.lst (ns.map V.int))) else none) ≠ none → b = a := fun b z => by
        by_cases e : b = a
        · exact e
        · rw [if_neg e] at z; exact absurd rfl z
      refine ⟨fun b => if b = a then some (.frz { cls := .type "list", data := .seq vs.toArray } (.lst (ns.map V.int))) else none, fun b => ?_, .inl ⟨?_, _, if_pos rfl⟩, fun b u z => ?_, at_, fun _ => rfl⟩
      · by_cases e : b = a
        · exact .inr ⟨_, _, if_pos e⟩
        · exact .inl (if_neg e)
      · dsimp only; rw [if_pos rfl]; simp
      · dsimp only at z
        have e : b = a := at_ b (by rw [z]; simp)
        subst e
        rw [if_pos rfl] at z
        cases z
        exact ⟨ha, by rw [List.length_map]; exact hl, vs, _, rv, ha⟩
  have free : ∀ {b : Addr} {o : Obj}, s.heap.get? b = some o → (∀ es ep, o.data = .dict es ep → H b = none) := fun {b o} e es ep d => by
    cases q : H b with
    | none => rfl
    | some u =>
      have e' := hA b (by rw [q]; simp)
      subst e'
      rw [ha] at e
      cases e
      cases (show Data.seq vs.toArray _ = Data.dict es ep from d)
  have nsK : ∀ {b : Addr} {m : Str → Option Value}, s.heap.Ns b m → (hidT s.heap H).Ns b m := by
    rintro b m ⟨o, es, ep, e, d, r⟩
    exact ⟨o, es, ep, hidT_get e (free e es ep d), d, r⟩
  have inK : K.In (hidT s.heap H) := fun b o e => by
    refine hidT_get (hK b o e) ?_
    cases q : H b with
    | none => rfl
    | some u =>
      have e' := hA b (by rw [q]; simp)
      subst e'
      rw [hKa (by rw [q]; simp)] at e
      cases e
  obtain ⟨mc, c1, c2⟩ := hL
  have hM : Mod K mg (hidT s.heap H) := ⟨inK, nsK hG, ⟨mb, nsK hB, hBB⟩, mc, nsK c1, c2⟩
  have e0 : Env0 P w K mg (hidT s.heap H) callerA [] s H :=
    ⟨rfl, hM, fun b o e => of_hidT e, Nat.le_of_eq (hidT_size _ _), trivial, fun b hb => absurd (show b ∈ ([] : List Addr) from hb) (by simp), hok, .of_eq hg⟩
  obtain ⟨m', hm⟩ := ht
  have sp : spM ⟨K, mg⟩ 1 g [.ref a] H (fun v _ => v = .bl true) fun _ _ _ => False := by
    refine ⟨rfl, fun _ => a, fun b => H b ≠ none, mem0, [.scr ns], sim0 _ _ _, ?_, ?_⟩
    · simp only [RelDs, RelD]
      exact ⟨⟨a, rfl, hS⟩, trivial⟩
    · rw [hm]
      intro io' F' H' v E S r
      simpa only [RD, RelD] using r
  refine codeAny_mono ((U _ inK (nsK hG)).run callerA [] s H ⟨[.ref a], []⟩ [.ref a] [.ref a] _ _ rfl hr e0 (hb s (.ref a)) (.cons rfl .nil) sp) fun r s' h => ?_
  cases r with
  | error e =>
    obtain ⟨_, _, _, _, _, _, _, _, _, _, _, _, z⟩ := h
    exact z.elim
  | ok fl =>
    cases fl with
    | next => exact h.elim
    | brk => exact h.elim
    | cont => exact h.elim
    | ret u =>
      obtain ⟨v, H', os, bare, un, hok', r', q⟩ := h
      obtain rfl : v = .bl true := q
      obtain rfl : u = Value.bool true := r'
      refine ⟨rfl, OldK.of_keep fun b o e => ?_, os, bare⟩
      cases q : H b with
      | none => exact un.keep b o e q (by simp [frs]) (by simp)
      | some u =>
        rcases hO b with z | ⟨ob, xs, z⟩
        · rw [q] at z; cases z
        · have z2 := un.frzs b ob _ z
          obtain ⟨e1, _⟩ := hok b _ z
          obtain ⟨e2, _⟩ := hok' b _ z2
          rw [e] at e1
          cases e1
          exact e2
/-- the goal that k_head leaves, from the computation of the law -/
theorem walkG {l : PySem.W.OpenLaw} {n k : Nat} {q : Program} {loose : List Str} {XP : (Str → Option Value) → Heap → Prop} {YP : World → Heap → Prop} {d : DefRec} {K : Params → PySem.W.Frag} {x : Str} {g : List D → Mem → Res D}
    (hn : l.most = some n) (hn2 : n ≤ sizeLine) (hdf : d.params.defaults = []) (hr : Room k callerA) (hY : ∀ (w : World) (h : Heap), YP w h → (K w.params).In h)
    (U : ∀ (w : World) (mg : Str → Option Value) (fa : Addr) (h : Heap), (K w.params).In h → h.Ns mainGlobals mg → mg d.name = some (.ref fa) →
      ∃ fd : FuncData, (∀ (s : Shared) (u : Value), BindsTo s fd ⟨[u], []⟩ [(x, u)]) ∧ ∀ base : Heap, (K w.params).In base → base.Ns mainGlobals mg → FnG l.prog w (K w.params) mg base k fa fd [x] (spM ⟨K w.params, mg⟩ 1 g))
    (ht : ∀ ns : List Int, ns.length ≤ n → ∃ m', g [.scr ns] mem0 = .ok (.bl true) m') : PySem.W.WalkO q loose XP YP l.row.toRowW d [] (fun f vs => PySem.call f vs) := by
  refine Att.attach_call hn hdf fun w s₀ s₁ mg mb fa o pm cd doc a vs ns G Y ho hd hcd hmg hobj hints hlen hg => ?_
  have KX := hY w _ Y
  obtain ⟨fd, hb, hF⟩ := U w mg fa _ KX G.T.g hmg
  exact lawG KX G.T.g G.T.b G.T.builtins G.T.nolimit hg hobj hints (Nat.le_trans hlen hn2) hr hF hb (ht ns hlen)
end Ev

set_option Elab.async false
set_option linter.all false
set_option maxRecDepth 100000
set_option autoImplicit false
/-! Ev10: short words for the printed walks; constants of the module. -/
namespace Ev
open PySem PySem.Spec PyProof.Rows L2
def fuelW : Nat := 1000000000000
theorem d_v {X : Cx} {W : WT} {pos : Pos} {x : Str} (i : Nat) (hN : X.N[i]? = some x := by rfl) (hv : Vis X.env.scope x := by first | exact .inl rfl | exact .inr (.inl rfl) | exact .inr (.inr rfl)) (hd : (x == ("__debug__" : Str)) = false := by decide)
    (hcd : (x == ("__classdict__" : Str)) = false := by decide) : PE X (.Name x pos) (tE (ctOf X) W (mV i)) := d_var hN hv hd hcd
theorem defG_bad {P : Program} {w : World} {K : PySem.W.Frag} {mg : Str → Option Value} {base : Heap} {x : Str} {st : Stmt} {ps : List Str} {f : Addr} {fd : FuncData} (A : DefAt K mg x st ps f fd) : DefG P w K mg base 0 x ps.length (fun _ _ => .bad) :=
  ⟨⟨f, fd, ps, ⟨fun vs H Q E q => by
    obtain ⟨_, io, F, m, ds, S, r, p⟩ := q
    exact p.elim, fun A outer s H args us vs Q E hg hr he hb hv hs => by
    obtain ⟨_, io, F, m, ds, S, r, p⟩ := hs
    exact p.elim⟩, A.mg_, A.U.kp, .all A.bd⟩, fun ds m h => rfl⟩
section
variable {K : PySem.W.Frag} {mg : Str → Option Value} {h : Heap} {x : Str}
theorem glob_int {i : Int} {t : Tok} (X : K.In h) (G : h.Ns mainGlobals mg) (a : PySem.W.nsIn K mainGlobals x = some (some (.int i t))) : GlobOk ⟨K, mg⟩ x (.int i) :=
  ⟨.int i, _, PySem.W.mg_of X G a, ⟨_, rfl⟩, fun _ _ _ _ => by simp only [RelD]⟩
theorem glob_str {i : Str} {t : Tok} (X : K.In h) (G : h.Ns mainGlobals mg) (a : PySem.W.nsIn K mainGlobals x = some (some (.str i t))) : GlobOk ⟨K, mg⟩ x (.str i) :=
  ⟨.str i, _, PySem.W.mg_of X G a, ⟨_, rfl⟩, fun _ _ _ _ => by simp only [RelD]⟩
/-- a written tuple of ints and texts, the first a text -/
def flatW : D → Value → Bool
  | .int i, .int j _ => i == j
  | .str s, .str z _ => s == z
  | _, _ => false
def flatWs : List D → List Value → Bool
  | [], [] => true
  | d :: ds, v :: vs => flatW d v && flatWs ds vs
  | _, _ => false
def vOf : D → V
  | .int i => .int i
  | .str s => .str s
  | _ => .non
theorem flatWs_rel {K : PySem.W.Frag} {io : Nat → Addr} {F : Addr → Prop} {n : Nat} {H : Hp} : ∀ {ds : List D} {vs : List Value}, flatWs ds vs = true → Vals (ds.map vOf) vs ∧ RelDs K io F n H ds (ds.map vOf)
  | [], [], _ => ⟨.nil, by simp only [List.map_nil, RelDs]⟩
  | [], _ :: _, h => by cases h
  | _ :: _, [], h => by cases h
  | d :: ds, v :: vs, h => by
    unfold flatWs at h
    rw [Bool.and_eq_true] at h
    obtain ⟨h1, h2⟩ := flatWs_rel (K := K) (io := io) (F := F) (n := n) (H := H) h.2
    have h0 := h.1
    unfold flatW at h0
    split at h0
    · have e := eq_of_beq h0
      subst e
      exact ⟨.cons ⟨_, rfl⟩ h1, by simp only [List.map_cons, RelDs, vOf, RelD]; exact ⟨trivial, h2⟩⟩
    · have e := eq_of_beq h0
      subst e
      exact ⟨.cons ⟨_, rfl⟩ h1, by simp only [List.map_cons, RelDs, vOf, RelD]; exact ⟨trivial, h2⟩⟩
    · cases h0
theorem glob_tup {p : Addr} {od : Option Addr} {its : Array Value} {n : Nat} {sl : Array (Option Value)} {s : Str} {ds : List D} (X : K.In h) (G : h.Ns mainGlobals mg) (a : PySem.W.nsIn K mainGlobals x = some (some (.ref p)))
    (l : K.lookup p = some ⟨.type "tuple", od, .seq its n, sl⟩) (hf : flatWs (.str s :: ds) its.toList = true) (hz : its.size ≤ sizeLine) : GlobOk ⟨K, mg⟩ x (.tup (.str s :: ds)) := by
  refine ⟨.ref p, _, PySem.W.mg_of X G a, rfl, fun io F n H => ?_⟩
  obtain ⟨h1, h2⟩ := flatWs_rel (K := K) (io := io) (F := F) (n := n) (H := H) hf
  simp only [RelD]
  exact ⟨p, _, rfl, .inr ⟨⟨_, its, _, l, rfl, rfl, hz, h1⟩, s, ds.map vOf, rfl⟩, h2⟩
end
end Ev

set_option Elab.async false
set_option linter.all false
set_option maxRecDepth 100000
set_option autoImplicit false
/-! Ev11: what a computation comes to, told backwards. -/
namespace Ev
open PySem PySem.Spec PyProof.Rows L2
abbrev XQ := Str → List (Str × D) → Mem → Prop
abbrev XS := Str → List (Str × D) → Slots → Mem → Prop
def wp {α : Type} (r : Res α) (Q : α → Mem → Prop) (X : XQ) : Prop := match r with
  | .ok a m => Q a m
  | .exc C fs m => X C fs m
  | .bad => False
def ws (o : Out) (N : Slots → Mem → Prop) (R : D → Mem → Prop) (B C : Slots → Mem → Prop) (X : XS) : Prop := match o with
  | .nx s m => N s m
  | .bk s m => B s m
  | .ct s m => C s m
  | .rt d m => R d m
  | .xc K fs s m => X K fs s m
  | .bad => False
abbrev noX : XQ := fun _ _ _ => False
abbrev noS : Slots → Mem → Prop := fun _ _ => False
abbrev noXs : XS := fun _ _ _ _ => False
/-- a store in a dict -/
def dputP (x y v : D) (m : Mem) (P : Mem → Prop) : Prop := ∃ j ks ds kk, x = .ref j ∧ m.ob j = some (.dk ks ds) ∧ keyOf (view m y) = some kk ∧ ks.length < sizeLine ∧ ks.length = ds.length ∧
  P (m.put j (.dk ((putD (ks.zip ds) kk v).map (·.1)) ((putD (ks.zip ds) kk v).map (·.2))))
def dictP (ps : List (D × D)) (Q : D → Mem → Prop) (m : Mem) : Prop := ∃ es, dictK ps = some es ∧ es.length ≤ 15 ∧ Q (.dk ((mergeD [] es).map (·.1)) ((mergeD [] es).map (·.2))) m
def dictN (ps : List (D × D)) (Q : D → Mem → Prop) (m : Mem) : Prop := ∃ es, dictK ps = some es ∧ es.length ≤ 15 ∧ Q (.ref m.nx) (m.add (.dk ((mergeD [] es).map (·.1)) ((mergeD [] es).map (·.2))))
/-- by a truth -/
def pick (c : Bool) (A B : Prop) : Prop := (c = true → A) ∧ (c = false → B)
theorem pick_t {c : Bool} {A B : Prop} (h : c = true) (a : A) : pick c A B := ⟨fun _ => a, fun z => by rw [h] at z; cases z⟩
theorem pick_f {c : Bool} {A B : Prop} (h : c = false) (b : B) : pick c A B := ⟨fun z => by rw [h] at z; (cases z), fun _ => b⟩
theorem pick_d {p : Prop} [Decidable p] {A B : Prop} (a : p → A) (b : ¬ p → B) : pick (decide p) A B := ⟨fun h => a (of_decide_eq_true h), fun h => b (of_decide_eq_false h)⟩
theorem pick_nd {p : Prop} [Decidable p] {A B : Prop} (a : ¬ p → A) (b : p → B) : pick (!(decide p)) A B := ⟨fun h => a (by simpa using h), fun h => b (by simpa using h)⟩
theorem pick_b {c : Bool} {A B : Prop} (a : c = true → A) (b : c = false → B) : pick c A B := ⟨a, b⟩
theorem pick_dT {p : Prop} [Decidable p] {A B : Prop} (h : p) (a : A) : pick (decide p) A B := pick_t (decide_eq_true h) a
theorem pick_dF {p : Prop} [Decidable p] {A B : Prop} (h : ¬ p) (b : B) : pick (decide p) A B := pick_f (decide_eq_false h) b
theorem pick_if {c : Bool} {N : Prop → Prop} {A B : Prop} (h : pick c A B) : if c = true then A else B := by
  cases c
  · exact h.2 rfl
  · exact h.1 rfl
section
variable {α β : Type} {Q : α → Mem → Prop} {X : XQ} {m : Mem}
theorem wp_ok {a : α} (h : Q a m) : wp (.ok a m) Q X := h
theorem wp_bind {r : Res β} {k : β → Mem → Res α} (h : wp r (fun b m1 => wp (k b m1) Q X) X) : wp (r.bind k) Q X := by
  cases r with
  | ok a m => exact h
  | exc C fs m => exact h
  | bad => exact h
theorem wp_of {o : Option α} {a : α} (e : o = some a) (h : Q a m) : wp (Res.of o m) Q X := by subst e; exact h
theorem wp_mono {r : Res α} {Q' : α → Mem → Prop} {X' : XQ} (h : wp r Q' X') (i : ∀ a m, Q' a m → Q a m) (j : ∀ C fs m, X' C fs m → X C fs m) : wp r Q X := by
  cases r with
  | ok a m => exact i _ _ h
  | exc C fs m => exact j _ _ _ h
  | bad => exact h
theorem wp_imp {r : Res α} {Q' : α → Mem → Prop} (h : wp r Q' noX) (i : ∀ a m, Q' a m → Q a m) : wp r Q X := wp_mono h i fun _ _ _ z => z.elim
theorem wp_det {r : Res α} (h : wp r Q noX) : ∃ a m, r = .ok a m ∧ Q a m := by
  cases r with
  | ok a m => exact ⟨a, m, rfl, h⟩
  | exc C fs m => exact h.elim
  | bad => exact h.elim
theorem wp_eq {r r' : Res α} (e : r = r') (h : wp r' Q X) : wp r Q X := by subst e; exact h
end
section
variable {N : Slots → Mem → Prop} {R : D → Mem → Prop} {B C : Slots → Mem → Prop} {X : XS} {Q : D → Mem → Prop} {QT : Bool → Mem → Prop} {QA : List D → Mem → Prop} {XX : XQ} {s : Slots} {m : Mem} {a b c : ME} {ar : MA} {sa sb : MS} {t u : MT}
theorem ws_mono {o : Out} {N' : Slots → Mem → Prop} {R' : D → Mem → Prop} {B' C' : Slots → Mem → Prop} {X' : XS} (h : ws o N' R' B' C' X') (hn : ∀ s m, N' s m → N s m) (hr : ∀ d m, R' d m → R d m) (hb : ∀ s m, B' s m → B s m) (hc : ∀ s m, C' s m → C s m)
    (hx : ∀ K fs s m, X' K fs s m → X K fs s m) : ws o N R B C X := by
  cases o with
  | nx s m => exact hn _ _ h
  | bk s m => exact hb _ _ h
  | ct s m => exact hc _ _ h
  | rt d m => exact hr _ _ h
  | xc K fs s m => exact hx _ _ _ _ h
  | bad => exact h
/-! statements -/
theorem w_seq (h : ws (sa s m) (fun s1 m1 => ws (sb s1 m1) N R B C X) R B C X) : ws (mSeq sa sb s m) N R B C X := by
  unfold mSeq
  cases q : sa s m <;> rw [q] at h <;> exact h
theorem w_then {α : Type} {r : Res α} {f : α → Mem → Out} (h : wp r (fun a m1 => ws (f a m1) N R B C X) (fun K fs m1 => X K fs s m1)) : ws (r.then_ s f) N R B C X := by
  cases r with
  | ok a m => exact h
  | exc K fs m => exact h
  | bad => exact h
theorem w_skip (h : N s m) : ws (mSkip s m) N R B C X := h
theorem w_brk (h : B s m) : ws (mBrk s m) N R B C X := h
theorem w_cont (h : C s m) : ws (mCont s m) N R B C X := h
theorem w_ret (h : wp (a s m) R (fun K fs m1 => X K fs s m1)) : ws (mRet a s m) N R B C X := w_then h
theorem w_retN (h : R .non m) : ws (mRetN s m) N R B C X := h
theorem w_drop (h : wp (a s m) (fun _ m1 => N s m1) (fun K fs m1 => X K fs s m1)) : ws (mDrop a s m) N R B C X := w_then h
theorem w_set {i : Nat} (h : wp (a s m) (fun d m1 => N (s.set i (some d)) m1) (fun K fs m1 => X K fs s m1)) : ws (mSet i a s m) N R B C X := w_then h
theorem w_if (h : wp (t s m) (fun c m1 => pick c (ws (sa s m1) N R B C X) (ws (sb s m1) N R B C X)) (fun K fs m1 => X K fs s m1)) : ws (mIf t sa sb s m) N R B C X := by
  refine w_then (wp_mono h (fun c m1 p => ?_) fun _ _ _ z => z)
  cases c
  · exact p.2 rfl
  · exact p.1 rfl
theorem w_frz {i j : Nat} {ds : List D} (h1 : s[i]? = some (some (.ref j))) (h2 : m.ob j = some (.lst ds)) (h : N (s.set i (some (.lst ds))) (m.kill j)) : ws (mFrz i s m) N R B C X := by
  unfold mFrz; rw [h1]; dsimp only; rw [h2]; exact h
theorem w_asg {as : As} (h : wp (a s m) (fun d m1 => ∃ s1, as d s = some s1 ∧ N s1 m1) (fun K fs m1 => X K fs s m1)) : ws (mAsg as a s m) N R B C X := by
  refine w_then (wp_mono h (fun d m1 p => ?_) fun _ _ _ z => z)
  obtain ⟨s1, e, p⟩ := p
  rw [e]; exact p
theorem w_for {ci : MI} {as : As} (h : wp (ci s m) (fun ds m1 => ws (loopF as sa ds s m1) N R B C X) (fun K fs m1 => X K fs s m1)) : ws (mFor ci as sa s m) N R B C X := w_then h
theorem w_loop {as : As} {ds : List D} (I : List D → Slots → Mem → Prop) (h0 : I ds s m) (h1 : ∀ s m, I [] s m → N s m)
    (h2 : ∀ d ds s m, I (d :: ds) s m → ∃ s1, as d s = some s1 ∧ ws (sa s1 m) (fun s2 m2 => I ds s2 m2) R N (fun s2 m2 => I ds s2 m2) X) : ws (loopF as sa ds s m) N R B C X := by
  induction ds generalizing s m with
  | nil => exact h1 _ _ h0
  | cons d ds ih =>
    obtain ⟨s1, e, w⟩ := h2 _ _ _ _ h0
    unfold loopF
    rw [e]
    dsimp only
    cases q : sa s1 m with
    | nx s2 m2 => rw [q] at w; exact ih w
    | ct s2 m2 => rw [q] at w; exact ih w
    | bk s2 m2 => rw [q] at w; exact w
    | rt d m2 => rw [q] at w; exact w
    | xc K fs s2 m2 => rw [q] at w; exact w
    | bad => rw [q] at w; exact w
/-- n: how often at most -/
theorem w_while {n : Nat} (I : Nat → Slots → Mem → Prop) (j : Nat) (hj : j < n) (h0 : I j s m)
    (h2 : ∀ j s m, I j s m → wp (t s m) (fun c m1 => pick c (j ≠ 0 ∧ ws (sa s m1) (fun s2 m2 => I (j - 1) s2 m2) R N (fun s2 m2 => I (j - 1) s2 m2) X) (N s m1)) (fun K fs m1 => X K fs s m1)) : ws (mWhile n t sa s m) N R B C X := by
  show ws (loopW t sa n s m) N R B C X
  induction n generalizing j s m with
  | zero => omega
  | succ n ih =>
    unfold loopW
    refine w_then (wp_mono (h2 _ _ _ h0) (fun c m1 p => ?_) fun _ _ _ z => z)
    cases c
    · exact p.2 rfl
    · obtain ⟨hz, w⟩ := p.1 rfl
      rw [if_pos rfl]
      cases q : sa s m1 with
      | nx s2 m2 => rw [q] at w; exact ih (j - 1) (by omega) w
      | ct s2 m2 => rw [q] at w; exact ih (j - 1) (by omega) w
      | bk s2 m2 => rw [q] at w; exact w
      | rt d m2 => rw [q] at w; exact w
      | xc K fs s2 m2 => rw [q] at w; exact w
      | bad => rw [q] at w; exact w
theorem w_body {np n : Nat} {cm : MS} {ds : List D} (hl : ds.length = np) (h : ws (cm (entry n ds) m) (fun _ m1 => Q .non m1) Q noS noS (fun K fs _ m1 => XX K fs m1)) : wp (body np n cm ds m) Q XX := by
  unfold body
  rw [if_pos hl]
  cases q : cm (entry n ds) m <;> rw [q] at h <;> first | exact h | exact h.elim
/-! expressions -/
theorem v_c {d : D} (h : Q d m) : wp (mC d s m) Q XX := h
theorem v_v {i : Nat} {d : D} (e : s[i]? = some (some d)) (h : Q d m) : wp (mV i s m) Q XX := by unfold mV; rw [e]; exact h
theorem v_op {f : O2} (h : wp (a s m) (fun x m1 => wp (b s m1) (fun y m2 => wp (Res.of (f x y m2) m2) Q XX) XX) XX) : wp (mOp f a b s m) Q XX :=
  wp_bind (wp_mono h (fun _ _ z => wp_bind z) fun _ _ _ z => z)
theorem v_o1 {f : O1} (h : wp (a s m) (fun x m1 => wp (Res.of (f x m1) m1) Q XX) XX) : wp (mO1 f a s m) Q XX := wp_bind h
theorem v_isN (h : wp (a s m) (fun x m1 => Q (.bl (isNon x)) m1) XX) : wp (mIsN a s m) Q XX := wp_bind h
theorem v_notN (h : wp (a s m) (fun x m1 => Q (.bl (!isNon x)) m1) XX) : wp (mNotN a s m) Q XX := wp_bind h
theorem v_cb {f : OL} (h : wp (ar s m) (fun x m1 => wp (Res.of (f x m1) m1) Q XX) XX) : wp (mCB f ar s m) Q XX := wp_bind h
theorem v_call {g : List D → Mem → Res D} (h : wp (ar s m) (fun x m1 => wp (g x m1) Q XX) XX) : wp (mCall g ar s m) Q XX := wp_bind h
theorem a_nil (h : QA [] m) : wp (mNil s m) QA XX := h
theorem a_cons (h : wp (a s m) (fun d m1 => wp (ar s m1) (fun ds m2 => QA (d :: ds) m2) XX) XX) : wp (mCons a ar s m) QA XX :=
  wp_bind (wp_mono h (fun _ _ z => wp_bind z) fun _ _ _ z => z)
theorem v_tup (h : wp (ar s m) (fun ds m1 => ds.length ≤ sizeLine ∧ Q (.tup ds) m1) XX) : wp (mTup ar s m) Q XX :=
  wp_bind (wp_mono h (fun ds m1 z => by rw [if_pos z.1]; exact z.2) fun _ _ _ z => z)
theorem v_lst (h : wp (ar s m) (fun ds m1 => ds.length ≤ sizeLine ∧ Q (.lst ds) m1) XX) : wp (mLst ar s m) Q XX :=
  wp_bind (wp_mono h (fun ds m1 z => by rw [if_pos z.1]; exact z.2) fun _ _ _ z => z)
theorem v_newL (h : wp (ar s m) (fun ds m1 => ds.length ≤ sizeLine ∧ Q (.ref m1.nx) (m1.add (.lst ds))) XX) : wp (mNewL ar s m) Q XX :=
  wp_bind (wp_mono h (fun ds m1 z => by rw [if_pos z.1]; exact z.2) fun _ _ _ z => z)
theorem v_and (h : wp (a s m) (fun d m1 => ∃ c, d = .bl c ∧ pick c (wp (b s m1) Q XX) (Q (.bl false) m1)) XX) : wp (mAndV a b s m) Q XX :=
  wp_bind (wp_mono h (fun d m1 z => by
    obtain ⟨c, rfl, z⟩ := z
    cases c
    · exact z.2 rfl
    · exact z.1 rfl) fun _ _ _ z => z)
theorem v_or (h : wp (a s m) (fun d m1 => ∃ c, d = .bl c ∧ pick c (Q (.bl true) m1) (wp (b s m1) Q XX)) XX) : wp (mOrV a b s m) Q XX :=
  wp_bind (wp_mono h (fun d m1 z => by
    obtain ⟨c, rfl, z⟩ := z
    cases c
    · exact z.2 rfl
    · exact z.1 rfl) fun _ _ _ z => z)
theorem v_ifE (h : wp (t s m) (fun c m1 => pick c (wp (a s m1) Q XX) (wp (b s m1) Q XX)) XX) : wp (mIfE t a b s m) Q XX :=
  wp_bind (wp_mono h (fun c m1 z => by
    cases c
    · exact z.2 rfl
    · exact z.1 rfl) fun _ _ _ z => z)
theorem v_chain {f g : O2} (h : wp (a s m) (fun x m1 => wp (b s m1) (fun y m2 => ∃ q, f x y m2 = some (.bl q) ∧ pick q (wp (c s m2) (fun z m3 => wp (Res.of (g y z m3) m3) Q XX) XX) (Q (.bl false) m2)) XX) XX) : wp (mChain f g a b c s m) Q XX :=
  wp_bind (wp_mono h (fun x m1 z => wp_bind (wp_mono z (fun y m2 z => by
    obtain ⟨q, e, z⟩ := z
    rw [e]
    cases q
    · exact z.2 rfl
    · exact wp_bind (z.1 rfl)) fun _ _ _ z => z)) fun _ _ _ z => z)
theorem v_sl {lo hi : MO} (h : wp (a s m) (fun x m1 => wp (lo s m1) (fun l m2 => wp (hi s m2) (fun h m3 => wp (Res.of (opSl x l h m3) m3) Q XX) XX) XX) XX) : wp (mSl a lo hi s m) Q XX :=
  wp_bind (wp_mono h (fun _ _ z => wp_bind (wp_mono z (fun _ _ z => wp_bind z) fun _ _ _ z => z)) fun _ _ _ z => z)
theorem o_partN {Q : Option Int → Mem → Prop} (h : Q none m) : wp (mPartN s m) Q XX := h
theorem o_part {Q : Option Int → Mem → Prop} (h : wp (a s m) (fun d m1 => ∃ i, view m1 d = .int i ∧ Q (some i) m1) XX) : wp (mPart a s m) Q XX :=
  wp_bind (wp_mono h (fun d m1 z => by
    obtain ⟨i, e, z⟩ := z
    rw [e]
    exact z) fun _ _ _ z => z)
theorem t_t (h : wp (a s m) (fun d m1 => ∃ c, d = .bl c ∧ QT c m1) XX) : wp (mT a s m) QT XX :=
  wp_bind (wp_mono h (fun d m1 z => by
    obtain ⟨c, rfl, z⟩ := z
    exact z) fun _ _ _ z => z)
theorem t_not (h : wp (t s m) (fun c m1 => QT (!c) m1) XX) : wp (mNot t s m) QT XX := wp_bind h
theorem t_and (h : wp (t s m) (fun c m1 => pick c (wp (u s m1) QT XX) (QT false m1)) XX) : wp (mAnd t u s m) QT XX :=
  wp_bind (wp_mono h (fun c m1 z => by
    cases c
    · exact z.2 rfl
    · exact z.1 rfl) fun _ _ _ z => z)
theorem t_or (h : wp (t s m) (fun c m1 => pick c (QT true m1) (wp (u s m1) QT XX)) XX) : wp (mOr t u s m) QT XX :=
  wp_bind (wp_mono h (fun c m1 z => by
    cases c
    · exact z.2 rfl
    · exact z.1 rfl) fun _ _ _ z => z)
theorem t_yes (h : QT true m) : wp (mYes s m) QT XX := h
theorem i_iter (h : wp (a s m) (fun d m1 => wp (Res.of (itemsOf m1 d) m1) QA XX) XX) : wp (mIter a s m) QA XX := wp_bind h
theorem i_range {f : List D → Option (List D)} (h : wp (ar s m) (fun ds m1 => wp (Res.of (f ds) m1) QA XX) XX) : wp (mRange f ar s m) QA XX := wp_bind h
theorem p_nil {Q : List (D × D) → Mem → Prop} (h : Q [] m) : wp (mPn s m) Q XX := h
theorem p_cons {Q : List (D × D) → Mem → Prop} {r : MP} (h : wp (a s m) (fun x m1 => wp (b s m1) (fun y m2 => wp (r s m2) (fun ps m3 => Q ((x, y) :: ps) m3) XX) XX) XX) : wp (mPc a b r s m) Q XX :=
  wp_bind (wp_mono h (fun _ _ z => wp_bind (wp_mono z (fun _ _ z => wp_bind z) fun _ _ _ z => z)) fun _ _ _ z => z)
theorem v_dict {p : MP} (h : wp (p s m) (fun ps m1 => dictP ps Q m1) XX) : wp (mDict p s m) Q XX :=
  wp_bind (wp_mono h (fun ps m1 z => by
    obtain ⟨es, e, l, z⟩ := z
    rw [e]; dsimp only; rw [if_pos l]; exact z) fun _ _ _ z => z)
theorem v_newD {p : MP} (h : wp (p s m) (fun ps m1 => dictN ps Q m1) XX) : wp (mNewD p s m) Q XX :=
  wp_bind (wp_mono h (fun ps m1 z => by
    obtain ⟨es, e, l, z⟩ := z
    rw [e]; dsimp only; rw [if_pos l]; exact z) fun _ _ _ z => z)
theorem v_newK (h : Q (.ref m.nx) (m.add (.dk [] []))) : wp (mNewK s m) Q XX := h
theorem v_newT (h : Q (.ref m.nx) (m.add (.dt [] []))) : wp (mNewT s m) Q XX := h
theorem v_comp {own : List Nat} {ci : MI} {as : As} {e : ME} (h : wp (ci s m) (fun ds m1 => wp (loopC as t e (wipeS s own) ds [] m1) QA XX) XX) : wp (mComp own ci as t e s m) QA XX := wp_bind h
theorem v_lc {own : List Nat} {ci : MI} {as : As} {e : ME} (h : wp (ci s m) (fun ds m1 => wp (loopC as t e (wipeS s own) ds [] m1) (fun acc m2 => Q (.lst acc) m2) XX) XX) : wp (mLc own ci as t e s m) Q XX := wp_bind (v_comp h)
theorem v_newLc {own : List Nat} {ci : MI} {as : As} {e : ME} (h : wp (ci s m) (fun ds m1 => wp (loopC as t e (wipeS s own) ds [] m1) (fun acc m2 => Q (.ref m2.nx) (m2.add (.lst acc))) XX) XX) : wp (mNewLc own ci as t e s m) Q XX := wp_bind (v_comp h)
theorem v_loopC {as : As} {e : ME} {ds acc : List D} (I : List D → List D → Mem → Prop) (h0 : I ds acc m) (h1 : ∀ acc m, I [] acc m → QA acc m)
    (h2 : ∀ d ds acc m, I (d :: ds) acc m → ∃ s1, as d s = some s1 ∧ wp (t s1 m) (fun c m1 => pick c (wp (e s1 m1) (fun y m2 => acc.length < sizeLine ∧ I ds (acc ++ [y]) m2) noX) (I ds acc m1)) noX) : wp (loopC as t e s ds acc m) QA XX := by
  induction ds generalizing acc m with
  | nil => exact h1 _ _ h0
  | cons d ds ih =>
    obtain ⟨s1, e1, w⟩ := h2 _ _ _ _ h0
    unfold loopC
    rw [e1]
    dsimp only
    obtain ⟨c, m1, q, w⟩ := wp_det w
    rw [q]
    cases c
    · exact ih (w.2 rfl)
    · obtain ⟨y, m2, q2, w2⟩ := wp_det (w.1 rfl)
      dsimp only
      rw [q2]
      dsimp only
      rw [if_pos w2.1]
      exact ih w2.2
theorem v_l1 {f : D → D → Mem → Res D} (h : wp (a s m) (fun x m1 => isL m1 x = true ∧ wp (b s m1) (fun y m2 => wp (f x y m2) Q XX) XX) XX) : wp (mL1 f a b s m) Q XX :=
  wp_bind (wp_mono h (fun _ _ z => by rw [if_pos z.1]; exact wp_bind z.2) fun _ _ _ z => z)
theorem v_app {j : Nat} {ds : List D} {y : D} (e : m.ob j = some (.lst ds)) (hl : ds.length < sizeLine) (h : Q .non (m.put j (.lst (ds ++ [y])))) : wp (appD (.ref j) y m) Q XX := by
  unfold appD; dsimp only; rw [e]; dsimp only; rw [if_pos hl]; exact h
theorem w_dput {co ci cv : ME} (h : wp (cv s m) (fun v m1 => wp (co s m1) (fun x m2 => wp (ci s m2) (fun y m3 => dputP x y v m3 fun m4 => N s m4) (fun K fs m1 => X K fs s m1)) (fun K fs m1 => X K fs s m1)) (fun K fs m1 => X K fs s m1)) : ws (mDPut co ci cv s m) N R B C X := by
  unfold mDPut
  refine w_then (wp_mono h (fun v m1 h => w_then (wp_mono h (fun x m2 h => w_then (wp_mono h (fun y m3 h => ?_) fun _ _ _ z => z)) fun _ _ _ z => z)) fun _ _ _ z => z)
  obtain ⟨j, ks, ds, kk, rfl, e1, e2, l1, l2, h⟩ := h
  dsimp only
  rw [e1]; dsimp only; rw [e2]; dsimp only; rw [if_pos ⟨l1, l2⟩]; exact h
end
end Ev

set_option Elab.async false
set_option linter.all false
set_option maxRecDepth 100000
set_option autoImplicit false
/-! Ev11b: plain values: equality and repr, told of D. -/
namespace Ev
open PySem PySem.Spec PyProof.Rows L2
mutual
/-- plain: of None, truths, ints, texts, tuples, lists alone -/
def plD : D → Bool
  | .non => true
  | .bl _ => true
  | .int _ => true
  | .str s => PyData.strOk s
  | .tup ds => plDs ds
  | .lst ds => plDs ds
  | _ => false
def plDs : List D → Bool
  | [] => true
  | d :: ds => plD d && plDs ds
end
mutual
def dpD : D → Nat
  | .tup ds => dpDs ds + 1
  | .lst ds => dpDs ds + 1
  | _ => 0
def dpDs : List D → Nat
  | [] => 0
  | d :: ds => max (dpD d) (dpDs ds)
end
mutual
/-- no truths -/
def nbD : D → Bool
  | .bl _ => false
  | .tup ds => nbDs ds
  | .lst ds => nbDs ds
  | _ => true
def nbDs : List D → Bool
  | [] => true
  | d :: ds => nbD d && nbDs ds
end
mutual
/-- a bound of what repr tells -/
def szD : D → Nat
  | .non => 4
  | .bl _ => 5
  | .int i => i.natAbs.log2 + 2
  | .str s => 10 * s.length + 2
  | .tup ds => szDs ds + 3
  | .lst ds => szDs ds + 3
  | _ => 0
def szDs : List D → Nat
  | [] => 0
  | d :: ds => szD d + 2 + szDs ds
end
mutual
/-- ints of at most 1919 bits -/
def inD : D → Bool
  | .int i => decide (i.natAbs.log2 < 1920)
  | .tup ds => inDs ds
  | .lst ds => inDs ds
  | _ => true
def inDs : List D → Bool
  | [] => true
  | d :: ds => inD d && inDs ds
end
mutual
def deq : D → D → Bool
  | .non, .non => true
  | .bl a, .bl b => a == b
  | .bl a, .int j => (if a then 1 else 0) == j
  | .int i, .bl b => i == (if b then 1 else 0)
  | .int i, .int j => i == j
  | .str x, .str y => x == y
  | .lst xs, .lst ys => deqs xs ys
  | .tup xs, .tup ys => deqs xs ys
  | _, _ => false
def deqs : List D → List D → Bool
  | [], [] => true
  | x :: xs, y :: ys => deq x y && deqs xs ys
  | _, _ => false
end
mutual
def pyD : D → PyData
  | .non => .none
  | .bl b => .bool b
  | .int i => .int i
  | .str s => .str s
  | .tup ds => .tuple (pyDs ds)
  | .lst ds => .list (pyDs ds)
  | _ => .none
def pyDs : List D → List PyData
  | [] => []
  | d :: ds => pyD d :: pyDs ds
end
mutual
theorem py_of : ∀ {d : D}, plD d = true → toPy d = some (pyD d)
  | .non, _ => by simp only [toPy, pyD]
  | .bl _, _ => by simp only [toPy, pyD]
  | .int _, _ => by simp only [toPy, pyD]
  | .str _, _ => by simp only [toPy, pyD]
  | .tup ds, h => by
    simp only [plD] at h
    simp only [toPy, pyD, pys_of h, Option.map_some]
  | .lst ds, h => by
    simp only [plD] at h
    simp only [toPy, pyD, pys_of h, Option.map_some]
  | .scr _, h => by simp only [plD] at h; cases h
  | .dk _ _, h => by simp only [plD] at h; cases h
  | .dt _ _, h => by simp only [plD] at h; cases h
  | .ref _, h => by simp only [plD] at h; cases h
theorem pys_of : ∀ {ds : List D}, plDs ds = true → toPys ds = some (pyDs ds)
  | [], _ => by simp only [toPys, pyDs]
  | d :: ds, h => by
    simp only [plDs, Bool.and_eq_true] at h
    simp only [toPys, pyDs, py_of h.1, pys_of h.2]
end
mutual
theorem lay_of : ∀ {d : D}, plD d = true → (pyD d).canLay0 = true
  | .non, _ => by simp only [pyD, PyData.canLay0]
  | .bl _, _ => by simp only [pyD, PyData.canLay0]
  | .int _, _ => by simp only [pyD, PyData.canLay0]
  | .str _, h => by simp only [plD] at h; simp only [pyD, PyData.canLay0]; exact h
  | .tup ds, h => by
    simp only [plD] at h
    simp only [pyD, PyData.canLay0]; exact lays_of h
  | .lst ds, h => by
    simp only [plD] at h
    simp only [pyD, PyData.canLay0]; exact lays_of h
  | .scr _, h => by simp only [plD] at h; cases h
  | .dk _ _, h => by simp only [plD] at h; cases h
  | .dt _ _, h => by simp only [plD] at h; cases h
  | .ref _, h => by simp only [plD] at h; cases h
theorem lays_of : ∀ {ds : List D}, plDs ds = true → PyData.canLayAll0 (pyDs ds) = true
  | [], _ => by simp only [PyData.canLayAll0, pyDs]
  | d :: ds, h => by
    simp only [plDs, Bool.and_eq_true] at h
    simp only [pyDs, PyData.canLayAll0, lay_of h.1, lays_of h.2, Bool.and_self]
end
mutual
theorem depth_of : ∀ d : D, (pyD d).depth = dpD d
  | .non => by simp only [pyD, PyData.depth, dpD]
  | .bl _ => by simp only [pyD, PyData.depth, dpD]
  | .int _ => by simp only [pyD, PyData.depth, dpD]
  | .str _ => by simp only [pyD, PyData.depth, dpD]
  | .tup ds => by simp only [pyD, PyData.depth, dpD, depths_of ds]
  | .lst ds => by simp only [pyD, PyData.depth, dpD, depths_of ds]
  | .scr _ => by simp only [pyD, PyData.depth, dpD]
  | .dk _ _ => by simp only [pyD, PyData.depth, dpD]
  | .dt _ _ => by simp only [pyD, PyData.depth, dpD]
  | .ref _ => by simp only [pyD, PyData.depth, dpD]
theorem depths_of : ∀ ds : List D, PyData.depthAll (pyDs ds) = dpDs ds
  | [] => by simp only [pyDs, PyData.depthAll, dpDs]
  | d :: ds => by simp only [pyDs, PyData.depthAll, dpDs, depth_of d, depths_of ds]
end
theorem shaped_of {d : D} (h : plD d = true) (hd : dpD d ≤ 64) : SeqAt.shaped (pyD d) = true := by
  unfold SeqAt.shaped
  rw [lay_of h, depth_of, decide_eq_true hd]; rfl
mutual
theorem eqv_of : ∀ {x y : D}, plD x = true → plD y = true → PyData.eqv (pyD x) (pyD y) = deq x y
  | .scr _, _, h, _ => by simp only [plD] at h; cases h
  | .dk _ _, _, h, _ => by simp only [plD] at h; cases h
  | .dt _ _, _, h, _ => by simp only [plD] at h; cases h
  | .ref _, _, h, _ => by simp only [plD] at h; cases h
  | .tup xs, y, hx, hy => by
    cases y <;> first | (simp only [plD] at hy; cases hy; done) | (simp only [pyD, PyData.eqv, deq]) | (simp only [pyD, PyData.eqv, deq, Bool.false_eq_true]; done) | skip
    simp only [plD] at hx hy
    exact eqvs_of hx hy
  | .lst xs, y, hx, hy => by
    cases y <;> first | (simp only [plD] at hy; cases hy; done) | (simp only [pyD, PyData.eqv, deq]) | skip
    simp only [plD] at hx hy
    exact eqvs_of hx hy
  | .non, y, hx, hy => by cases y <;> first | (simp only [plD] at hy; cases hy; done) | (simp only [pyD, PyData.eqv, deq])
  | .bl _, y, hx, hy => by cases y <;> first | (simp only [plD] at hy; cases hy; done) | (simp only [pyD, PyData.eqv, deq])
  | .int _, y, hx, hy => by cases y <;> first | (simp only [plD] at hy; cases hy; done) | (simp only [pyD, PyData.eqv, deq])
  | .str _, y, hx, hy => by cases y <;> first | (simp only [plD] at hy; cases hy; done) | (simp only [pyD, PyData.eqv, deq])
theorem eqvs_of : ∀ {xs ys : List D}, plDs xs = true → plDs ys = true → PyData.eqvAll (pyDs xs) (pyDs ys) = deqs xs ys
  | [], [], _, _ => by simp only [pyDs, PyData.eqvAll, deqs]
  | [], _ :: _, _, _ => by simp only [pyDs, PyData.eqvAll, deqs]
  | _ :: _, [], _, _ => by simp only [pyDs, PyData.eqvAll, deqs]
  | x :: xs, y :: ys, hx, hy => by
    simp only [plDs, Bool.and_eq_true] at hx hy
    simp only [pyDs, PyData.eqvAll, deqs, eqv_of hx.1 hy.1, eqvs_of hx.2 hy.2]
end
mutual
theorem deq_refl : ∀ {d : D}, plD d = true → deq d d = true
  | .non, _ => by simp only [deq]
  | .bl _, _ => by simp only [deq, beq_self_eq_true]
  | .int _, _ => by simp only [deq, beq_self_eq_true]
  | .str _, _ => by simp only [deq, beq_self_eq_true]
  | .tup ds, h => by simp only [plD] at h; simp only [deq]; exact deqs_refl h
  | .lst ds, h => by simp only [plD] at h; simp only [deq]; exact deqs_refl h
  | .scr _, h => by simp only [plD] at h; cases h
  | .dk _ _, h => by simp only [plD] at h; cases h
  | .dt _ _, h => by simp only [plD] at h; cases h
  | .ref _, h => by simp only [plD] at h; cases h
theorem deqs_refl : ∀ {ds : List D}, plDs ds = true → deqs ds ds = true
  | [], _ => by simp only [deqs]
  | d :: ds, h => by
    simp only [plDs, Bool.and_eq_true] at h
    simp only [deqs, deq_refl h.1, deqs_refl h.2, Bool.and_self]
end
mutual
theorem deq_eq : ∀ {x y : D}, nbD x = true → nbD y = true → deq x y = true → x = y
  | .non, y, hx, hy, h => by cases y <;> first | rfl | (simp only [deq] at h; cases h; done)
  | .bl _, _, hx, _, _ => by simp only [nbD] at hx; cases hx
  | .int i, y, hx, hy, h => by
    cases y <;> first | (simp only [nbD] at hy; cases hy; done) | (simp only [deq, beq_iff_eq] at h; subst h; rfl) | (simp only [deq] at h; cases h; done)
  | .str i, y, hx, hy, h => by
    cases y <;> first | (simp only [nbD] at hy; cases hy; done) | (simp only [deq, beq_iff_eq] at h; subst h; rfl) | (simp only [deq] at h; cases h; done)
  | .tup xs, y, hx, hy, h => by
    cases y with
    | tup ys =>
      simp only [nbD] at hx hy
      simp only [deq] at h
      rw [deqs_eq hx hy h]
    | _ => simp only [deq] at h; cases h
  | .lst xs, y, hx, hy, h => by
    cases y with
    | lst ys =>
      simp only [nbD] at hx hy
      simp only [deq] at h
      rw [deqs_eq hx hy h]
    | _ => simp only [deq] at h; cases h
  | .scr _, y, _, _, h => by cases y <;> (simp only [deq] at h; cases h; done)
  | .dk _ _, y, _, _, h => by cases y <;> (simp only [deq] at h; cases h; done)
  | .dt _ _, y, _, _, h => by cases y <;> (simp only [deq] at h; cases h; done)
  | .ref _, y, _, _, h => by cases y <;> (simp only [deq] at h; cases h; done)
theorem deqs_eq : ∀ {xs ys : List D}, nbDs xs = true → nbDs ys = true → deqs xs ys = true → xs = ys
  | [], [], _, _, _ => rfl
  | [], _ :: _, _, _, h => by simp only [deqs] at h; cases h
  | _ :: _, [], _, _, h => by simp only [deqs] at h; cases h
  | x :: xs, y :: ys, hx, hy, h => by
    simp only [nbDs, Bool.and_eq_true] at hx hy
    simp only [deqs, Bool.and_eq_true] at h
    rw [deq_eq hx.1 hy.1 h.1, deqs_eq hx.2 hy.2 h.2]
end
mutual
theorem deq_comm : ∀ x y : D, deq x y = deq y x
  | .tup xs, y => by cases y <;> first | (simp only [deq]; exact deqs_comm _ _) | simp only [deq]
  | .lst xs, y => by cases y <;> first | (simp only [deq]; exact deqs_comm _ _) | simp only [deq]
  | .non, y => by cases y <;> simp only [deq]
  | .bl a, y => by cases y <;> simp only [deq] <;> exact Bool.beq_comm ..
  | .int _, y => by cases y <;> simp only [deq] <;> exact Bool.beq_comm ..
  | .str _, y => by cases y <;> simp only [deq] <;> exact Bool.beq_comm ..
  | .scr _, y => by cases y <;> simp only [deq]
  | .dk _ _, y => by cases y <;> simp only [deq]
  | .dt _ _, y => by cases y <;> simp only [deq]
  | .ref _, y => by cases y <;> simp only [deq]
theorem deqs_comm : ∀ xs ys : List D, deqs xs ys = deqs ys xs
  | [], [] => by simp only [deqs]
  | [], _ :: _ => by simp only [deqs]
  | _ :: _, [] => by simp only [deqs]
  | x :: xs, y :: ys => by simp only [deqs]; rw [deq_comm x y, deqs_comm xs ys]
end
theorem view_pl {d : D} (h : plD d = true) (m : Mem) : view m d = d := by
  cases d <;> first | rfl | (simp only [plD] at h; cases h; done)
/-- plain and not too deep -/
structure Pl (x : D) : Prop where
  p : plD x = true
  d : dpD x ≤ 64
theorem pyEq_pl {x y : D} {m : Mem} (hx : Pl x) (hy : Pl y) : pyEq x y m = some (deq x y) := by
  unfold pyEq
  rw [view_pl hx.p, view_pl hy.p, py_of hx.p, py_of hy.p]
  dsimp only
  cases q : twoStr x y with
  | some c =>
    obtain ⟨s, t, rfl, rfl, rfl⟩ := twoStr_inv q
    simp only [deq]; rfl
  | none =>
    dsimp only
    rw [if_pos ⟨shaped_of hx.p hx.d, shaped_of hy.p hy.d⟩, eqv_of hx.p hy.p]
theorem opEq_pl {x y : D} {m : Mem} (hx : Pl x) (hy : Pl y) : opEq x y m = some (.bl (deq x y)) := by
  unfold opEq; rw [pyEq_pl hx hy]; rfl
theorem opNe_pl {x y : D} {m : Mem} (hx : Pl x) (hy : Pl y) : opNe x y m = some (.bl (!deq x y)) := by
  unfold opNe; rw [pyEq_pl hx hy]; rfl
/-- x in a plain tuple or list -/
def din (x : D) (ys : List D) : Bool := ys.any fun y => deq y x
theorem any_of {x : D} (hx : plD x = true) : ∀ {ys : List D}, plDs ys = true → ((pyDs ys).any fun z => PyData.eqv z (pyD x)) = din x ys
  | [], _ => rfl
  | y :: ys, h => by
    simp only [plDs, Bool.and_eq_true] at h
    unfold din
    simp only [pyDs, List.any_cons, eqv_of h.1 hx]
    rw [any_of hx h.2]; rfl
theorem pyIn_tup {x : D} {ys : List D} {m : Mem} (hx : Pl x) (hy : Pl (.tup ys)) : pyIn x (.tup ys) m = some (din x ys) := by
  have hp := hy.p
  simp only [plD] at hp
  have e : toPy (.tup ys) = some (.tuple (pyDs ys)) := py_of hy.p
  have s : SeqAt.shaped (.tuple (pyDs ys)) = true := shaped_of hy.p hy.d
  unfold pyIn
  simp only [view_tup]
  rw [view_pl hx.p, py_of hx.p, e]
  dsimp only
  rw [if_pos ⟨shaped_of hx.p hx.d, s⟩, any_of hx.p hp]
theorem pyIn_lst {x : D} {ys : List D} {m : Mem} (hx : Pl x) (hy : Pl (.lst ys)) : pyIn x (.lst ys) m = some (din x ys) := by
  have hp := hy.p
  simp only [plD] at hp
  have e : toPy (.lst ys) = some (.list (pyDs ys)) := py_of hy.p
  have s : SeqAt.shaped (.list (pyDs ys)) = true := shaped_of hy.p hy.d
  unfold pyIn
  simp only [view_lst]
  rw [view_pl hx.p, py_of hx.p, e]
  dsimp only
  rw [if_pos ⟨shaped_of hx.p hx.d, s⟩, any_of hx.p hp]
/-! repr -/
def shD (d : D) : Str := PyData.shown (pyD d)
mutual
theorem showable_of : ∀ {d : D}, inD d = true → PyData.showable (pyD d) = true
  | .non, _ => by simp only [pyD, PyData.showable]
  | .bl _, _ => by simp only [pyD, PyData.showable]
  | .int _, h => by simp only [inD] at h; simp only [pyD, PyData.showable]; exact h
  | .str _, h => by simp only [pyD, PyData.showable]
  | .tup ds, h => by simp only [inD] at h; simp only [pyD, PyData.showable]; exact showables_of h
  | .lst ds, h => by simp only [inD] at h; simp only [pyD, PyData.showable]; exact showables_of h
  | .scr _, h => by simp only [pyD, PyData.showable]
  | .dk _ _, h => by simp only [pyD, PyData.showable]
  | .dt _ _, h => by simp only [pyD, PyData.showable]
  | .ref _, h => by simp only [pyD, PyData.showable]
theorem showables_of : ∀ {ds : List D}, inDs ds = true → PyData.showableAll (pyDs ds) = true
  | [], _ => by simp only [pyDs, PyData.showableAll]
  | d :: ds, h => by
    simp only [inDs, Bool.and_eq_true] at h
    simp only [pyDs, PyData.showableAll, showable_of h.1, showables_of h.2, Bool.and_self]
end
theorem shownAll_len : ∀ ds : List D, (PyData.shownAll (pyDs ds)).length = ds.length
  | [] => by simp only [pyDs, PyData.shownAll, List.length_nil]
  | d :: ds => by simp only [pyDs, PyData.shownAll, List.length_cons, shownAll_len ds]
theorem strInt_len {i : Int} : (PyData.shown (.int i)).length ≤ i.natAbs.log2 + 2 := by
  have h := int_text_length_le (a := i) (k := i.natAbs.log2 + 1) (Nat.succ_pos _) (Nat.lt_succ_self _)
  have e : (PyData.shown (.int i)).length = (toString i).length := by
    show (Str.ofString (toString i)).length = _
    rw [Str.ofString_eq_toList]
    show ((toString i).toList.map Char.toNat).toArray.size = _
    rw [List.size_toArray, List.length_map, String.length_toList]
  omega
mutual
theorem shown_sz : ∀ {d : D}, plD d = true → (shD d).length ≤ szD d
  | .non, _ => by decide
  | .bl b, _ => by cases b <;> decide
  | .int i, _ => by simp only [szD]; exact strInt_len
  | .str s, h => by
    simp only [plD, PyData.strOk] at h
    have := StrLaws.reprText_len s (fun c hc => by
      have := Array.all_eq_true_iff_forall_mem.mp h c (Array.mem_toList_iff.mp hc)
      have := of_decide_eq_true this
      omega)
    simp only [szD]
    show (PyData.shown (.str s)).length ≤ _
    simp only [PyData.shown]
    exact this
  | .tup ds, h => by
    simp only [plD] at h
    have h1 := tupleText_len_le (PyData.shownAll (pyDs ds))
    have h2 := showns_sz h
    have h3 := shownAll_len ds
    show (PyData.shown (.tuple (pyDs ds))).length ≤ _
    simp only [PyData.shown, szD]
    omega
  | .lst ds, h => by
    simp only [plD] at h
    have h1 := listText_len_le (PyData.shownAll (pyDs ds))
    have h2 := showns_sz h
    have h3 := shownAll_len ds
    show (PyData.shown (.list (pyDs ds))).length ≤ _
    simp only [PyData.shown, szD]
    omega
  | .scr _, h => by simp only [plD] at h; cases h
  | .dk _ _, h => by simp only [plD] at h; cases h
  | .dt _ _, h => by simp only [plD] at h; cases h
  | .ref _, h => by simp only [plD] at h; cases h
theorem showns_sz : ∀ {ds : List D}, plDs ds = true → ((PyData.shownAll (pyDs ds)).map (·.length)).sum + 2 * ds.length ≤ szDs ds
  | [], _ => by simp only [pyDs, PyData.shownAll, szDs, List.map_nil, List.sum_nil, List.length_nil]; omega
  | d :: ds, h => by
    simp only [plDs, Bool.and_eq_true] at h
    have h1 := shown_sz h.1
    have h2 := showns_sz h.2
    simp only [pyDs, PyData.shownAll, szDs, List.map_cons, List.sum_cons, List.length_cons]
    unfold shD at h1
    omega
end
/-- what repr can tell -/
structure Sh (x : D) : Prop where
  p : plD x = true
  d : dpD x ≤ 64
  i : inD x = true
  z : szD x ≤ 16000000
theorem Sh.pl {d : D} (h : Sh d) : Pl d := ⟨h.p, h.d⟩
theorem opRepr_sh {x : D} {m : Mem} (h : Sh x) : opRepr [x] m = some (.str (shD x)) := by
  have z1 := shown_sz h.p
  have z2 := h.z
  unfold opRepr
  dsimp only
  rw [view_pl h.p, py_of h.p]
  dsimp only
  rw [if_pos ⟨showable_of h.i, shaped_of h.p h.d, by
    rw [sizeLine_eq]
    unfold shD at z1
    omega⟩]
  rfl
theorem pls_ints : ∀ c : List Int, plDs (c.map D.int) = true
  | [] => by simp only [List.map_nil, plDs]
  | i :: c => by simp only [List.map_cons, plDs, plD, pls_ints c, Bool.and_self]
theorem dps_ints : ∀ c : List Int, dpDs (c.map D.int) = 0
  | [] => by simp only [List.map_nil, dpDs]
  | i :: c => by simp only [List.map_cons, dpDs, dpD, dps_ints c, Nat.max_self]
theorem pl_ints (c : List Int) : Pl (.lst (c.map D.int)) := ⟨by simp only [plD]; exact pls_ints c, by simp only [dpD, dps_ints]; decide⟩
theorem pl_int (i : Int) : Pl (.int i) := ⟨by simp only [plD], by simp only [dpD]; decide⟩
theorem pl_bl (i : Bool) : Pl (.bl i) := ⟨by simp only [plD], by simp only [dpD]; decide⟩
theorem pl_non : Pl .non := ⟨by simp only [plD], by simp only [dpD]; decide⟩
theorem pl_nil : Pl (.lst []) := ⟨by simp only [plD, plDs], by simp only [dpD, dpDs]; decide⟩
theorem pl_str {s : Str} (h : PyData.strOk s = true) : Pl (.str s) := ⟨by simp only [plD]; exact h, by simp only [dpD]; decide⟩
section
variable {Q : D → Mem → Prop} {XX : XQ} {m : Mem} {x y : D} {i j : Int}
theorem q_eq (hx : Pl x) (hy : Pl y) (h : Q (.bl (deq x y)) m) : wp (Res.of (opEq x y m) m) Q XX := wp_of (opEq_pl hx hy) h
theorem q_ne (hx : Pl x) (hy : Pl y) (h : Q (.bl (!deq x y)) m) : wp (Res.of (opNe x y m) m) Q XX := wp_of (opNe_pl hx hy) h
theorem q_eb {a b : Bool} (h : Q (.bl (decide (a = b))) m) : wp (Res.of (opEq (.bl a) (.bl b) m) m) Q XX := q_eq (pl_bl a) (pl_bl b) (by
  have e : deq (.bl a) (.bl b) = decide (a = b) := by simp only [deq]; rfl
  rw [e]; exact h)
theorem q_nb {a b : Bool} (h : Q (.bl (!decide (a = b))) m) : wp (Res.of (opNe (.bl a) (.bl b) m) m) Q XX := q_ne (pl_bl a) (pl_bl b) (by
  have e : deq (.bl a) (.bl b) = decide (a = b) := by simp only [deq]; rfl
  rw [e]; exact h)
theorem q_ei (h : Q (.bl (decide (i = j))) m) : wp (Res.of (opEq (.int i) (.int j) m) m) Q XX := q_eq (pl_int i) (pl_int j) (by
  have e : deq (.int i) (.int j) = decide (i = j) := by simp only [deq]; rfl
  rw [e]; exact h)
theorem q_ni (h : Q (.bl (!decide (i = j))) m) : wp (Res.of (opNe (.int i) (.int j) m) m) Q XX := q_ne (pl_int i) (pl_int j) (by
  have e : deq (.int i) (.int j) = decide (i = j) := by simp only [deq]; rfl
  rw [e]; exact h)
theorem q_es {s t : Str} (h : Q (.bl (decide (s = t))) m) : wp (Res.of (opEq (.str s) (.str t) m) m) Q XX := h
theorem q_ns {s t : Str} (h : Q (.bl (!decide (s = t))) m) : wp (Res.of (opNe (.str s) (.str t) m) m) Q XX := h
theorem q_inT {ys : List D} (hx : Pl x) (hy : Pl (.tup ys)) (h : Q (.bl (din x ys)) m) : wp (Res.of (opIn x (.tup ys) m) m) Q XX := wp_of (by unfold opIn; rw [pyIn_tup hx hy]; rfl) h
theorem q_ninT {ys : List D} (hx : Pl x) (hy : Pl (.tup ys)) (h : Q (.bl (!din x ys)) m) : wp (Res.of (opNotIn x (.tup ys) m) m) Q XX := wp_of (by unfold opNotIn; rw [pyIn_tup hx hy]; rfl) h
theorem q_repr (hx : Sh x) (h : Q (.str (shD x)) m) : wp (Res.of (opRepr [x] m) m) Q XX := wp_of (opRepr_sh hx) h
def oP {α : Type} (o : Option α) (Q : α → Mem → Prop) (m : Mem) : Prop := ∃ z, o = some z ∧ Q z m
theorem ex_o {α : Type} {o : Option α} {z : α} {Q : α → Mem → Prop} (e : o = some z) (h : Q z m) : oP o Q m := ⟨z, e, h⟩
def vvP (s : Slots) (i : Nat) (Q : D → Mem → Prop) (m : Mem) : Prop := ∃ d, s[i]? = some (some d) ∧ Q d m
theorem ex_v {s : Slots} {k : Nat} {d : D} (e : s[k]? = some (some d)) (h : Q d m) : vvP s k Q m := ⟨d, e, h⟩
theorem v_vx {s : Slots} {k : Nat} (h : vvP s k Q m) : wp (mV k s m) Q XX := by
  obtain ⟨d, e, h⟩ := h
  exact v_v e h
theorem wp_ofx {α : Type} {o : Option α} {Q : α → Mem → Prop} (h : oP o Q m) : wp (Res.of o m) Q XX := by
  obtain ⟨z, e, h⟩ := h
  exact wp_of e h
theorem q_add (h : Q (.int (i + j)) m) : wp (Res.of (opAdd (.int i) (.int j) m) m) Q XX := h
theorem q_sub (h : Q (.int (i - j)) m) : wp (Res.of (opSub (.int i) (.int j) m) m) Q XX := h
theorem q_neg (h : Q (.int (-i)) m) : wp (Res.of (opNeg (.int i) m) m) Q XX := h
theorem q_not {b : Bool} (h : Q (.bl (!b)) m) : wp (Res.of (opNotV (.bl b) m) m) Q XX := h
theorem q_lt (h : Q (.bl (decide (i < j))) m) : wp (Res.of (opLt (.int i) (.int j) m) m) Q XX := h
theorem q_le (h : Q (.bl (decide (i ≤ j))) m) : wp (Res.of (opLe (.int i) (.int j) m) m) Q XX := h
theorem q_gt (h : Q (.bl (decide (j < i))) m) : wp (Res.of (opGt (.int i) (.int j) m) m) Q XX := h
theorem q_ge (h : Q (.bl (decide (j ≤ i))) m) : wp (Res.of (opGe (.int i) (.int j) m) m) Q XX := h
theorem q_ixT {ds : List D} (h : oP (atI ds i) Q m) : wp (Res.of (opIx (.tup ds) (.int i) m) m) Q XX := by
  obtain ⟨z, e, h⟩ := h
  exact wp_of e h
theorem q_ixL {ds : List D} (h : oP (atI ds i) Q m) : wp (Res.of (opIx (.lst ds) (.int i) m) m) Q XX := by
  obtain ⟨z, e, h⟩ := h
  exact wp_of e h
theorem q_addT {xs ys : List D} (hl : xs.length + ys.length ≤ sizeLine) (h : Q (.tup (xs ++ ys)) m) : wp (Res.of (opAdd (.tup xs) (.tup ys) m) m) Q XX := wp_of (if_pos hl) h
theorem q_addL {xs ys : List D} (hl : xs.length + ys.length ≤ sizeLine) (h : Q (.lst (xs ++ ys)) m) : wp (Res.of (opAdd (.lst xs) (.lst ys) m) m) Q XX := wp_of (if_pos hl) h
theorem q_addS {s t : Str} (hl : s.length + t.length ≤ sizeLine) (h : Q (.str (s ++ t)) m) : wp (Res.of (opAdd (.str s) (.str t) m) m) Q XX := wp_of (if_pos hl) h
theorem q_lenT {ds : List D} (h : Q (.int ds.length) m) : wp (Res.of (opLen [.tup ds] m) m) Q XX := h
theorem q_lenL {ds : List D} (h : Q (.int ds.length) m) : wp (Res.of (opLen [.lst ds] m) m) Q XX := h
theorem q_abs (h : Q (.int i.natAbs) m) : wp (Res.of (opAbs [.int i] m) m) Q XX := wp_of (a := .int i.natAbs) (by
  show some (D.int (if i < 0 then -i else i)) = _
  congr 2
  split <;> omega) h
theorem q_intI (h : Q (.int i) m) : wp (Res.of (opInt1 [.int i] m) m) Q XX := h
theorem q_intB {b : Bool} (h : Q (.int (if b = true then 1 else 0)) m) : wp (Res.of (opInt1 [.bl b] m) m) Q XX := h
theorem q_listT {ds : List D} (h : Q (.lst ds) m) : wp (Res.of (opList [.tup ds] m) m) Q XX := h
theorem q_listL {ds : List D} (h : Q (.lst ds) m) : wp (Res.of (opList [.lst ds] m) m) Q XX := h
theorem q_tupT {ds : List D} (h : Q (.tup ds) m) : wp (Res.of (opTuple [.tup ds] m) m) Q XX := h
theorem q_tupL {ds : List D} (h : Q (.tup ds) m) : wp (Res.of (opTuple [.lst ds] m) m) Q XX := h
theorem q_itT {ds : List D} {QA : List D → Mem → Prop} (h : QA ds m) : wp (Res.of (itemsOf m (.tup ds)) m) QA XX := h
theorem q_itL {ds : List D} {QA : List D → Mem → Prop} (h : QA ds m) : wp (Res.of (itemsOf m (.lst ds)) m) QA XX := h
theorem q_itS {z : Str} {QA : List D → Mem → Prop} (h : QA (chars z) m) : wp (Res.of (itemsOf m (.str z)) m) QA XX := h
theorem q_isi {t : String} {b : Bool} (e : (tyD m x).bind (fun n => kitB n t) = some b) (h : Q (.bl b) m) : wp (Res.of (opIsi t x m) m) Q XX := by
  refine wp_of (a := .bl b) ?_ h
  unfold opIsi
  cases q : tyD m x with
  | none => rw [q] at e; cases e
  | some n =>
    rw [q] at e
    show (kitB n t).map D.bl = _
    rw [show kitB n t = some b from e]; rfl
theorem ex_bl {c : Bool} {P : Bool → Prop} (h : P c) : ∃ e, D.bl c = D.bl e ∧ P e := ⟨c, rfl, h⟩
theorem len_ok {ds : List D} {P : Prop} (h : ds.length ≤ sizeLine) (p : P) : ds.length ≤ sizeLine ∧ P := ⟨h, p⟩
theorem ex_some {o : Option Slots} {s : Slots} {P : Slots → Prop} (e : o = some s) (h : P s) : ∃ s1, o = some s1 ∧ P s1 := ⟨s, e, h⟩
theorem ex_part {P : Int → Prop} (h : P i) : ∃ k, view m (.int i) = .int k ∧ P k := ⟨i, rfl, h⟩
theorem w_seqI {N : Slots → Mem → Prop} {R : D → Mem → Prop} {B C : Slots → Mem → Prop} {X : XS} {s : Slots} {sa sb : MS} (I : Slots → Mem → Prop) (h1 : ws (sa s m) I R B C X) (h2 : ∀ s1 m1, I s1 m1 → ws (sb s1 m1) N R B C X) : ws (mSeq sa sb s m) N R B C X :=
  w_seq (ws_mono h1 h2 (fun _ _ z => z) (fun _ _ z => z) (fun _ _ z => z) fun _ _ _ _ z => z)
theorem i_mod (hj : 0 < j) (h : Q (.int (i % j)) m) : wp (Res.of (opMod (.int i) (.int j) m) m) Q XX := by
  refine wp_of (a := .int (i % j)) ?_ h
  show (if cPos i j = true then _ else none) = _
  rw [if_pos (show cPos i j = true from decide_eq_true hj)]
theorem i_div (hj : 0 < j) (hl : j.natAbs.log2 < 9000) (h : Q (.int (i / j)) m) : wp (Res.of (opDiv (.int i) (.int j) m) m) Q XX := by
  refine wp_of (a := .int (i / j)) ?_ h
  show (if cDiv i j = true then _ else none) = _
  rw [if_pos]
  unfold cDiv
  rw [decide_eq_true hj, decide_eq_true hl]; rfl
theorem i_pow (h0 : 0 ≤ j) (h1 : j ≤ 1000000) (h2 : i.natAbs < 2 ^ 64) (h : Q (.int (i ^ j.toNat)) m) : wp (Res.of (opPow (.int i) (.int j) m) m) Q XX := by
  refine wp_of (a := .int (i ^ j.toNat)) ?_ h
  show (if cPow i j = true then _ else none) = _
  rw [if_pos]
  unfold cPow
  rw [decide_eq_true h0, decide_eq_true h1, decide_eq_true h2]; rfl
theorem log2_lt {n k : Nat} (h : n < 2 ^ (k + 1)) : n.log2 ≤ k := by
  by_cases hn : n = 0
  · subst hn; simp
  · exact Nat.le_of_lt_succ ((Nat.log2_lt hn).2 h)
theorem i_mul (h1 : i.natAbs < 2 ^ 250) (h2 : j.natAbs < 2 ^ 250) (h : Q (.int (i * j)) m) : wp (Res.of (opMul (.int i) (.int j) m) m) Q XX := by
  refine wp_of (a := .int (i * j)) ?_ h
  show (if cMul i j = true then _ else none) = _
  rw [if_pos]
  have a1 := log2_lt (k := 249) h1
  have a2 := log2_lt (k := 249) h2
  exact decide_eq_true (by omega)
end
/-! dict displays -/
theorem putD_new {κ : Type} [DecidableEq κ] {kvs : List (κ × D)} {k : κ} {v : D} (h : k ∉ kvs.map (·.1)) : putD kvs k v = kvs ++ [(k, v)] := by
  unfold putD
  rw [if_neg]
  intro z
  rw [List.any_eq_true] at z
  obtain ⟨p, hp, e⟩ := z
  exact h (List.mem_map.mpr ⟨p, hp, of_decide_eq_true e⟩)
theorem mergeD_app : ∀ (more kvs : List (Key × D)), ((kvs ++ more).map (·.1)).Nodup → mergeD kvs more = kvs ++ more
  | [], kvs, _ => by unfold mergeD; simp
  | (k, v) :: more, kvs, h => by
    show mergeD (putD kvs k v) more = _
    rw [putD_new, mergeD_app more (kvs ++ [(k, v)]) (by simpa using h)]
    · simp
    · intro z
      rw [List.map_append, List.nodup_append] at h
      exact h.2.2 k z k (by simp) rfl
theorem mergeD_nil {es : List (Key × D)} (h : (es.map (·.1)).Nodup) : mergeD [] es = es := by
  have := mergeD_app es [] (by simpa using h)
  simpa using this
theorem dictP_id {ps : List (D × D)} {Q : D → Mem → Prop} {m : Mem} (h : dictP ps Q m) : dictP ps Q m := h
theorem dictN_id {ps : List (D × D)} {Q : D → Mem → Prop} {m : Mem} (h : dictN ps Q m) : dictN ps Q m := h
inductive DK : List (D × D) → List Key → List D → Prop
  | nil : DK [] [] []
  | s {s : Str} {v : D} {ps : List (D × D)} {ks : List Key} {ds : List D} : DK ps ks ds → DK ((.str s, v) :: ps) (.inr s :: ks) (v :: ds)
  | i {i : Int} {v : D} {ps : List (D × D)} {ks : List Key} {ds : List D} : DK ps ks ds → DK ((.int i, v) :: ps) (.inl i :: ks) (v :: ds)
theorem DK.get : ∀ {ps : List (D × D)} {ks : List Key} {ds : List D}, DK ps ks ds → ∃ es, dictK ps = some es ∧ es.map (·.1) = ks ∧ es.map (·.2) = ds
  | _, _, _, .nil => ⟨[], rfl, rfl, rfl⟩
  | _, _, _, @DK.s s0 v ps ks ds h => by
    obtain ⟨es, e1, e2, e3⟩ := h.get
    exact ⟨(.inr s0, v) :: es, by simp only [dictK, keyOf, e1], by simp only [List.map_cons, e2], by simp only [List.map_cons, e3]⟩
  | _, _, _, @DK.i s0 v ps ks ds h => by
    obtain ⟨es, e1, e2, e3⟩ := h.get
    exact ⟨(.inl s0, v) :: es, by simp only [dictK, keyOf, e1], by simp only [List.map_cons, e2], by simp only [List.map_cons, e3]⟩
theorem ex_dict {ps : List (D × D)} {ks : List Key} {ds : List D} {m : Mem} {Q : D → Mem → Prop} (e : DK ps ks ds) (hn : ks.Nodup) (hl : ks.length ≤ 15) (h : Q (.dk ks ds) m) :
    dictP ps Q m := by
  obtain ⟨es, e, hk, hd⟩ := e.get
  refine ⟨es, e, by rw [← List.length_map (·.1), hk]; exact hl, ?_⟩
  rw [mergeD_nil (by rw [hk]; exact hn), hk, hd]
  exact h
theorem ex_newD {ps : List (D × D)} {ks : List Key} {ds : List D} {m : Mem} {Q : D → Mem → Prop} (e : DK ps ks ds) (hn : ks.Nodup) (hl : ks.length ≤ 15) (h : Q (.ref m.nx) (m.add (.dk ks ds))) :
    dictN ps Q m := by
  obtain ⟨es, e, hk, hd⟩ := e.get
  refine ⟨es, e, by rw [← List.length_map (·.1), hk]; exact hl, ?_⟩
  rw [mergeD_nil (by rw [hk]; exact hn), hk, hd]
  exact h
theorem look_here {κ : Type} [DecidableEq κ] {k : κ} {ks : List κ} {d : D} {ds : List D} : look (k :: ks) (d :: ds) k = some d := if_pos rfl
theorem look_skip {κ : Type} [DecidableEq κ] {k x : κ} {ks : List κ} {d : D} {ds : List D} {o : Option D} (h : k ≠ x) (e : look ks ds x = o) : look (k :: ks) (d :: ds) x = o := by rw [look_cons, if_neg h]; exact e
section
variable {Q : D → Mem → Prop} {XX : XQ} {m : Mem} {x y : D} {i j : Int}
theorem q_ixDs {s : Str} {ks : List Key} {ds : List D} (h : oP (look ks ds (.inr s)) Q m) : wp (Res.of (opIx (.dk ks ds) (.str s) m) m) Q XX := by
  obtain ⟨z, e, h⟩ := h
  refine wp_of (a := z) ?_ h
  show (match keyOf (D.str s) with | some k => look ks ds k | none => none) = _
  exact e
theorem atI_all {ds : List D} {i : Int} {P : D → Prop} (h0 : 0 ≤ i) (h1 : i < ds.length) (hP : ∀ d ∈ ds, P d) : ∃ z, atI ds i = some z ∧ P z := by
  obtain ⟨j, rfl⟩ := Int.eq_ofNat_of_zero_le h0
  have hj : j < ds.length := by omega
  exact ⟨ds[j], atI_nat (List.getElem?_eq_getElem hj), hP _ (List.getElem_mem hj)⟩
theorem q_ixAllL {ds : List D} (P : D → Prop) (h0 : 0 ≤ i) (h1 : i < ds.length) (hP : ∀ d ∈ ds, P d) (k : ∀ z, P z → Q z m) : wp (Res.of (opIx (.lst ds) (.int i) m) m) Q XX := by
  obtain ⟨z, e, p⟩ := atI_all h0 h1 hP
  exact q_ixL (ex_o e (k z p))
theorem q_ixAllT {ds : List D} (P : D → Prop) (h0 : 0 ≤ i) (h1 : i < ds.length) (hP : ∀ d ∈ ds, P d) (k : ∀ z, P z → Q z m) : wp (Res.of (opIx (.tup ds) (.int i) m) m) Q XX := by
  obtain ⟨z, e, p⟩ := atI_all h0 h1 hP
  exact q_ixT (ex_o e (k z p))
end
theorem i_rng {n : Int} {m : Mem} {QA : List D → Mem → Prop} {XX : XQ} (h0 : 0 ≤ n) (h1 : n < 2 ^ 40) (h : QA (upto 0 n.toNat) m) : wp (Res.of (rng1 [.int n]) m) QA XX := by
  refine wp_of (a := upto 0 n.toNat) ?_ h
  show (if small n = true then _ else none) = _
  rw [if_pos]
  unfold small
  rw [Bool.and_eq_true, decide_eq_true_eq, decide_eq_true_eq]
  omega
end Ev

set_option Elab.async false
set_option linter.all false
set_option maxRecDepth 100000
set_option autoImplicit false
/-! Ev13: methods that change nothing; more built-ins. -/
namespace Ev
open PySem PySem.Spec PyProof.Rows L2
section
variable {X : Cx} {k : Nat} {W : WT} {o e : Expr} {es : List Expr} {pos apos cpos : Pos} {co ca cb : ME} {cA : MA}
/-- what may have methods asked -/
def hasS (m : Mem) (x : D) : Bool := match view m x with
  | .str _ => true
  | _ => false
def hasL (m : Mem) (x : D) : Bool := match view m x with
  | .lst _ => true
  | _ => false
abbrev OM := D → List D → Mem → Option D
def mM (t : Mem → D → Bool) (f : OM) (co : ME) (cA : MA) : ME := fun s m => (co s m).bind fun x m1 => if t m1 x = true then (cA s m1).bind fun ys m2 => Res.of (f x ys m2) m2 else .bad
def mM0 (t : Mem → D → Bool) (f : OM) (co : ME) : ME := fun s m => (co s m).bind fun x m1 => if t m1 x = true then Res.of (f x [] m1) m1 else .bad
def rM (T : Ct) (f : OM) : V → List V → Hp → VK → Prop := fun x xs H Q => ∃ io F m d ds, Sim T io F m H ∧ RelD T.K io F m.nx H d x ∧ RelDs T.K io F m.nx H ds xs ∧ ∃ z, f d ds m = some z ∧ Then T io F m H z Q
/-- the test shows the type -/
def TyOf (t : Mem → D → Bool) (ty : String) : Prop := ∀ {T : Ct} {io : Nat → Addr} {F : Addr → Prop} {m : Mem} {H : Hp} {d : D} {v : V}, Sim T io F m H → RelD T.K io F m.nx H d v → t m d = true → tyV T.K ty v H
theorem ty_hasS : TyOf hasS "str" := by
  intro T io F m H d v S r h
  unfold hasS at h
  split at h
  · rename_i s e
    rw [is_str r e]
    rfl
  · cases h
theorem ty_hasL : TyOf hasL "list" := by
  intro T io F m H d v S r h
  unfold hasL at h
  split at h
  · rename_i ds e
    obtain ⟨a, xs, rfl, h1, _⟩ := at_lst S r e
    exact .inl ⟨rfl, xs, .inl (.inl h1)⟩
  · cases h
theorem tM_of {t : Mem → D → Bool} {ty : String} {f : OM} {σ : L2.St} {H : Hp} {Q : VK} (ht : TyOf t ty) (h : tE (ctOf X) W (mM t f co cA) σ H Q) : tE (ctOf X) W co σ H fun x H1 => tyV X.K ty x H1 ∧ tA (ctOf X) W cA σ H1 fun ys H2 => rM (ctOf X) f x ys H2 Q := by
  refine (tG.bind (R := RD (ctOf X)) (R' := RD (ctOf X)) (c := co) (k := fun x s m1 => if t m1 x = true then (cA s m1).bind fun y m2 => Res.of (f x y m2) m2 else .bad) h).imp fun x H1 h2 => ?_
  obtain ⟨io, F, m, sd, d, S, rs, r, p⟩ := h2
  dsimp only at p
  split at p
  · rename_i hl
    refine ⟨ht S r hl, ?_⟩
    have h3 : tK (RD (ctOf X)) (RD (ctOf X)) (ctOf X) W (fun x s m1 => (cA s m1).bind fun y m2 => Res.of (f x y m2) m2) x σ H1 Q := ⟨io, F, m, sd, d, S, rs, r, p⟩
    refine (tK.bind (R := RDs (ctOf X)) (monoD _) h3).imp fun y H2 h4 => ?_
    obtain ⟨io, F, m, sd, ⟨d, e⟩, S, rs, ⟨r1, r2⟩, p⟩ := h4
    obtain ⟨z, hz, kk⟩ := p.of_
    exact ⟨io, F, m, d, e, S, r1, r2, z, hz, kk⟩
  · exact p.elim
theorem tM0_of {t : Mem → D → Bool} {ty : String} {f : OM} {σ : L2.St} {H : Hp} {Q : VK} (ht : TyOf t ty) (h : tE (ctOf X) W (mM0 t f co) σ H Q) : tE (ctOf X) W co σ H fun x H1 => tyV X.K ty x H1 ∧ rM (ctOf X) f x [] H1 Q := by
  refine (tG.bind (R := RD (ctOf X)) (R' := RD (ctOf X)) (c := co) (k := fun x s m1 => if t m1 x = true then Res.of (f x [] m1) m1 else .bad) h).imp fun x H1 h2 => ?_
  obtain ⟨io, F, m, sd, d, S, rs, r, p⟩ := h2
  dsimp only at p
  split at p
  · rename_i hl
    obtain ⟨z, hz, kk⟩ := p.of_
    exact ⟨ht S r hl, io, F, m, d, [], S, r, by simp only [RelDs], z, hz, kk⟩
  · exact p.elim
theorem d_mm {t : Mem → D → Bool} {ty id : String} {f : OM} {name : Str} (pa : PlainAttrs ty) (slot : Slot ty name id) (hty : typeOf (.builtin id) = pure (.type "method_descriptor")) (ht : TyOf t ty) (hm : MtR X id (rM (ctOf X) f))
    (ho : PE X o (tE (ctOf X) W co)) (ha : PA X (e :: es) (tA (ctOf X) W cA)) (h1 : attributeBase o name X.env (eval o X.env) = eval o X.env := by rfl)
    (h2 : ((backTo cpos (starEach (e :: es) X.env)).all (fun x => !x.1) && ((backToKw cpos (keywordEach [] X.env)).all fun x => x.1.isSome) && decide ((e :: es).length + ([] : List Keyword).length + (if ([] : List Keyword).isEmpty then 0 else 1) < 30)) = true := by rfl)
    (h3 : (apos.endLine == cpos.line) = true := by rfl) (h4 : starEach (e :: es) X.env = (false, eval e X.env) :: starEach es X.env := by rfl) (h5 : (backTo cpos (starEach es X.env)).any (·.1) = false := by rfl) :
    PE X (.Call (.Attribute o name apos) (e :: es) [] cpos) (tE (ctOf X) W (mM t f co cA)) :=
  pe_imp (pe_bm pa slot hty hm ho ha h1 h2 h3 h4 h5) fun σ H Q h => tM_of ht h
theorem d_mm0 {t : Mem → D → Bool} {ty id : String} {f : OM} {name : Str} (pa : PlainAttrs ty) (slot : Slot ty name id) (hty : typeOf (.builtin id) = pure (.type "method_descriptor")) (ht : TyOf t ty) (hm : MtR X id (rM (ctOf X) f))
    (ho : PE X o (tE (ctOf X) W co)) (h1 : attributeBase o name X.env (eval o X.env) = eval o X.env := by rfl) (h3 : (apos.endLine == cpos.line) = true := by rfl) :
    PE X (.Call (.Attribute o name apos) [] [] cpos) (tE (ctOf X) W (mM0 t f co)) :=
  pe_imp (pe_bm0 pa slot hty hm ho h1 h3) fun σ H Q h => tM0_of ht h

/-! ### count -/
def opCount : OM := fun x ys m => match view m x, ys with
  | .lst ds, [y] => if plDs ds = true ∧ plD y = true ∧ dpDs ds ≤ 64 ∧ dpD y ≤ 64 then some (.int ((ds.countP fun z => deq z y : Nat) : Int)) else none
  | _, _ => none
mutual
theorem plain_of : ∀ {d : D}, plD d = true → (pyD d).plain = true
  | .non, _ => by simp only [pyD, PyData.plain]
  | .bl _, _ => by simp only [pyD, PyData.plain]
  | .int _, _ => by simp only [pyD, PyData.plain]
  | .str _, h => by simp only [pyD, PyData.plain]
  | .tup ds, h => by
    simp only [plD] at h
    simp only [pyD, PyData.plain]; exact plains_of h
  | .lst ds, h => by
    simp only [plD] at h
    simp only [pyD, PyData.plain]; exact plains_of h
  | .scr _, h => by simp only [plD] at h; cases h
  | .dk _ _, h => by simp only [plD] at h; cases h
  | .dt _ _, h => by simp only [plD] at h; cases h
  | .ref _, h => by simp only [plD] at h; cases h
theorem plains_of : ∀ {ds : List D}, plDs ds = true → PyData.plainAll (pyDs ds) = true
  | [], _ => by simp only [PyData.plainAll, pyDs]
  | d :: ds, h => by
    simp only [plDs, Bool.and_eq_true] at h
    simp only [pyDs, PyData.plainAll, plain_of h.1, plains_of h.2, Bool.and_self]
end
theorem countP_py {y : D} (hy : plD y = true) : ∀ {ds : List D}, plDs ds = true → ((pyDs ds).countP fun z => PyData.eqv z (pyD y)) = ds.countP fun z => deq z y
  | [], _ => rfl
  | d :: ds, h => by
    simp only [plDs, Bool.and_eq_true] at h
    simp only [pyDs, List.countP_cons, eqv_of h.1 hy, countP_py hy h.2]
theorem dpAll_of {K : PySem.W.Frag} {io : Nat → Addr} {F : Addr → Prop} {n : Nat} {H : Hp} {ds : List D} {vs : List V} (r : RelDs K io F n H ds vs) (h : plDs ds = true) : DpAll K H vs (pyDs ds) := toDps K ds r (pys_of h)
theorem mt_count_d (hu : X.A.units + 200 < cLine) : MtR X "list.count" (rM (ctOf X) opCount) := by
  intro pins s σ H x xs v us Q I rx rxs h
  obtain ⟨io, F, m, d, ds, S, rd, rds, z, hz, kk⟩ := h
  unfold opCount at hz
  split at hz
  · rename_i es y e1
    split at hz
    · rename_i hc
      cases hz
      obtain ⟨a, ys, rfl, t, q⟩ := at_lst S rd e1
      obtain ⟨w, rfl, rw_⟩ := one_rel rds
      cases rx
      obtain ⟨u, rfl, ru⟩ := rxs.one
      obtain ⟨its, rv, pl, hl⟩ := I.list (.inl (.inl t))
      obtain ⟨as, ra⟩ := Dp.readsAll I _ _ _ (dpAll_of q hc.1) rv
      obtain ⟨bs, rb⟩ := Dp.reads I _ _ _ (toDp X.K y rw_ (py_of hc.2.1)) ru
      have d1 : PyData.depthAll (pyDs es) = dpDs es := depths_of es
      have hmin : min (PyData.depthAll (pyDs es)) (pyD y).depth ≤ 64 := by rw [d1]; omega
      refine SeqAt.count_list_data (vs := its.toArray) pl.isList ra rb (plains_of hc.1) (plain_of hc.2.1) (by omega) ?_
      refine ⟨.int ((es.countP fun z => deq z y : Nat) : Int), H, I.tok _, ⟨s.toks, ?_⟩, kk.now S (by simp only [RelD])⟩
      rw [countP_py hc.2.1 hc.1]
    · cases hz
  · cases hz
def mM_count1 (a b : ME) : ME := mM hasL opCount a (mCons b mNil)
theorem d_m_count1 (hh : Here k W X) (ho : PE X o (tE (ctOf X) W ca)) (he : PE X e (tE (ctOf X) W cb)) (h1 : attributeBase o "count" X.env (eval o X.env) = eval o X.env := by rfl)
    (h2 : ((backTo cpos (starEach [e] X.env)).all (fun x => !x.1) && ((backToKw cpos (keywordEach [] X.env)).all fun x => x.1.isSome) && decide ([e].length + ([] : List Keyword).length + (if ([] : List Keyword).isEmpty then 0 else 1) < 30)) = true := by rfl)
    (h3 : (apos.endLine == cpos.line) = true := by rfl) (h4 : starEach [e] X.env = (false, eval e X.env) :: starEach [] X.env := by rfl) (h5 : (backTo cpos (starEach [] X.env)).any (·.1) = false := by rfl) :
    PE X (.Call (.Attribute o "count" apos) [e] [] cpos) (tE (ctOf X) W (mM_count1 ca cb)) :=
  d_mm PySem.F.plainAttrs_list PySem.F.slot_list_count PySem.F.type_list_count ty_hasL (mt_count_d (by have := hh.rm.un; omega)) ho (d_cons he d_nil h4) h1 h2 h3 h4 h5
/-! ### all, any, sum, min, max -/
def blsOf : List D → Option (List Bool)
  | [] => some []
  | .bl b :: ds => (blsOf ds).map fun r => b :: r
  | _ => none
theorem bls_map : ∀ {ds : List D} {bs : List Bool}, blsOf ds = some bs → ds = bs.map D.bl
  | [], bs, e => by simp only [blsOf, Option.some.injEq] at e; subst e; rfl
  | .bl b :: ds, bs, e => by
    simp only [blsOf, Option.map_eq_some_iff] at e
    obtain ⟨r, e, rfl⟩ := e
    rw [bls_map e]; rfl
  | .non :: _, _, e => by simp only [blsOf] at e; cases e
  | .int _ :: _, _, e => by simp only [blsOf] at e; cases e
  | .str _ :: _, _, e => by simp only [blsOf] at e; cases e
  | .tup _ :: _, _, e => by simp only [blsOf] at e; cases e
  | .lst _ :: _, _, e => by simp only [blsOf] at e; cases e
  | .scr _ :: _, _, e => by simp only [blsOf] at e; cases e
  | .dk _ _ :: _, _, e => by simp only [blsOf] at e; cases e
  | .dt _ _ :: _, _, e => by simp only [blsOf] at e; cases e
  | .ref _ :: _, _, e => by simp only [blsOf] at e; cases e
theorem bls_of (bs : List Bool) : blsOf (bs.map D.bl) = some bs := by
  induction bs with
  | nil => rfl
  | cons b bs ih => simp only [List.map_cons, blsOf, ih, Option.map_some]
theorem bls_rel {K : PySem.W.Frag} {io : Nat → Addr} {F : Addr → Prop} {n : Nat} {H : Hp} : ∀ {bs : List Bool} {vs : List V}, RelDs K io F n H (bs.map D.bl) vs → vs = bs.map V.bl
  | [], [], _ => rfl
  | [], _ :: _, r => by simp only [List.map_nil, RelDs] at r
  | _ :: _, [], r => by simp only [List.map_cons, RelDs] at r
  | b :: bs, v :: vs, r => by
    simp only [List.map_cons, RelDs, RelD] at r
    rw [r.1, bls_rel r.2]; rfl
def intsOf : List D → Option (List Int)
  | [] => some []
  | .int b :: ds => (intsOf ds).map fun r => b :: r
  | _ => none
theorem intsOf_map : ∀ {ds : List D} {bs : List Int}, intsOf ds = some bs → ds = bs.map D.int
  | [], bs, e => by simp only [intsOf, Option.some.injEq] at e; subst e; rfl
  | .int b :: ds, bs, e => by
    simp only [intsOf, Option.map_eq_some_iff] at e
    obtain ⟨r, e, rfl⟩ := e
    rw [intsOf_map e]; rfl
  | .non :: _, _, e => by simp only [intsOf] at e; cases e
  | .bl _ :: _, _, e => by simp only [intsOf] at e; cases e
  | .str _ :: _, _, e => by simp only [intsOf] at e; cases e
  | .tup _ :: _, _, e => by simp only [intsOf] at e; cases e
  | .lst _ :: _, _, e => by simp only [intsOf] at e; cases e
  | .scr _ :: _, _, e => by simp only [intsOf] at e; cases e
  | .dk _ _ :: _, _, e => by simp only [intsOf] at e; cases e
  | .dt _ _ :: _, _, e => by simp only [intsOf] at e; cases e
  | .ref _ :: _, _, e => by simp only [intsOf] at e; cases e
theorem intsOf_of (bs : List Int) : intsOf (bs.map D.int) = some bs := by
  induction bs with
  | nil => rfl
  | cons b bs ih => simp only [List.map_cons, intsOf, ih, Option.map_some]
theorem intsV_rel {K : PySem.W.Frag} {io : Nat → Addr} {F : Addr → Prop} {n : Nat} {H : Hp} : ∀ {bs : List Int} {vs : List V}, RelDs K io F n H (bs.map D.int) vs → vs = bs.map V.int
  | [], [], _ => rfl
  | [], _ :: _, r => by simp only [List.map_nil, RelDs] at r
  | _ :: _, [], r => by simp only [List.map_cons, RelDs] at r
  | b :: bs, v :: vs, r => by
    simp only [List.map_cons, RelDs, RelD] at r
    rw [r.1, intsV_rel r.2]; rfl
def strsOf : List D → Option (List Str)
  | [] => some []
  | .str b :: ds => (strsOf ds).map fun r => b :: r
  | _ => none
theorem strsOf_map : ∀ {ds : List D} {bs : List Str}, strsOf ds = some bs → ds = bs.map D.str
  | [], bs, e => by simp only [strsOf, Option.some.injEq] at e; subst e; rfl
  | .str b :: ds, bs, e => by
    simp only [strsOf, Option.map_eq_some_iff] at e
    obtain ⟨r, e, rfl⟩ := e
    rw [strsOf_map e]; rfl
  | .non :: _, _, e => by simp only [strsOf] at e; cases e
  | .bl _ :: _, _, e => by simp only [strsOf] at e; cases e
  | .int _ :: _, _, e => by simp only [strsOf] at e; cases e
  | .tup _ :: _, _, e => by simp only [strsOf] at e; cases e
  | .lst _ :: _, _, e => by simp only [strsOf] at e; cases e
  | .scr _ :: _, _, e => by simp only [strsOf] at e; cases e
  | .dk _ _ :: _, _, e => by simp only [strsOf] at e; cases e
  | .dt _ _ :: _, _, e => by simp only [strsOf] at e; cases e
  | .ref _ :: _, _, e => by simp only [strsOf] at e; cases e
theorem strsOf_of (bs : List Str) : strsOf (bs.map D.str) = some bs := by
  induction bs with
  | nil => rfl
  | cons b bs ih => simp only [List.map_cons, strsOf, ih, Option.map_some]
theorem strsV_rel {K : PySem.W.Frag} {io : Nat → Addr} {F : Addr → Prop} {n : Nat} {H : Hp} : ∀ {bs : List Str} {vs : List V}, RelDs K io F n H (bs.map D.str) vs → vs = bs.map V.str
  | [], [], _ => rfl
  | [], _ :: _, r => by simp only [List.map_nil, RelDs] at r
  | _ :: _, [], r => by simp only [List.map_cons, RelDs] at r
  | b :: bs, v :: vs, r => by
    simp only [List.map_cons, RelDs, RelD] at r
    rw [r.1, strsV_rel r.2]; rfl
theorem strs_rel (K : PySem.W.Frag) (io : Nat → Addr) (F : Addr → Prop) (n : Nat) (H : Hp) : ∀ ns : List Str, RelDs K io F n H (ns.map D.str) (ns.map V.str)
  | [] => by simp only [List.map_nil, RelDs]
  | i :: r => by simp only [List.map_cons, RelDs, RelD]; exact ⟨trivial, strs_rel K io F n H r⟩
/-- a list's items -/
def lstOf (x : D) (m : Mem) : Option (List D) := match view m x with
  | .lst ds => some ds
  | _ => none
theorem lstOf_rel {T : Ct} {io : Nat → Addr} {F : Addr → Prop} {m : Mem} {H : Hp} {d : D} {v : V} {ds : List D} (S : Sim T io F m H) (r : RelD T.K io F m.nx H d v) (h : lstOf d m = some ds) : ∃ a xs, v = .ref a ∧ H a = some (.lst xs) ∧ RelDs T.K io F m.nx H ds xs := by
  unfold lstOf at h
  split at h
  · rename_i es e
    cases h
    exact at_lst S r e
  · cases h
def opAll : OL := fun ds m => match ds with
  | [x] => ((lstOf x m).bind blsOf).map fun bs => .bl (bs.all id)
  | _ => none
def opAny : OL := fun ds m => match ds with
  | [x] => ((lstOf x m).bind blsOf).map fun bs => .bl (bs.any id)
  | _ => none
def opSum : OL := fun ds m => match ds with
  | [x] => ((lstOf x m).bind intsOf).map fun bs => .int bs.sum
  | _ => none
theorem c_all (hh : Here k W X) : CallR X (.builtin "all") (rC (ctOf X) opAll) := by
  intro pins s σ H xs us Q I rx h
  obtain ⟨io, F, m, ds, S, r, z, hz, kk⟩ := h
  unfold opAll at hz
  split at hz
  · obtain ⟨v, rfl, rv⟩ := one_rel r
    rw [Option.map_eq_some_iff] at hz
    obtain ⟨bs, hz, rfl⟩ := hz
    rw [Option.bind_eq_some_iff] at hz
    obtain ⟨es, h1, h2⟩ := hz
    obtain ⟨a, ys, rfl, t, q⟩ := lstOf_rel S rv h1
    rw [bls_map h2] at q
    rw [bls_rel q] at t
    exact cr_all hh.calm pins s σ H _ us Q I rx ⟨a, bs, rfl, .inl (.inl t), kk.now S (by simp only [RelD])⟩
  · cases hz
theorem c_any (hh : Here k W X) : CallR X (.builtin "any") (rC (ctOf X) opAny) := by
  intro pins s σ H xs us Q I rx h
  obtain ⟨io, F, m, ds, S, r, z, hz, kk⟩ := h
  unfold opAny at hz
  split at hz
  · obtain ⟨v, rfl, rv⟩ := one_rel r
    rw [Option.map_eq_some_iff] at hz
    obtain ⟨bs, hz, rfl⟩ := hz
    rw [Option.bind_eq_some_iff] at hz
    obtain ⟨es, h1, h2⟩ := hz
    obtain ⟨a, ys, rfl, t, q⟩ := lstOf_rel S rv h1
    rw [bls_map h2] at q
    rw [bls_rel q] at t
    exact cr_any hh.calm pins s σ H _ us Q I rx ⟨a, bs, rfl, .inl (.inl t), kk.now S (by simp only [RelD])⟩
  · cases hz
theorem c_sum (hh : Here k W X) : CallR X (.builtin "sum") (rC (ctOf X) opSum) := by
  intro pins s σ H xs us Q I rx h
  obtain ⟨io, F, m, ds, S, r, z, hz, kk⟩ := h
  unfold opSum at hz
  split at hz
  · obtain ⟨v, rfl, rv⟩ := one_rel r
    rw [Option.map_eq_some_iff] at hz
    obtain ⟨bs, hz, rfl⟩ := hz
    rw [Option.bind_eq_some_iff] at hz
    obtain ⟨es, h1, h2⟩ := hz
    obtain ⟨a, ys, rfl, t, q⟩ := lstOf_rel S rv h1
    rw [intsOf_map h2] at q
    rw [intsV_rel q] at t
    exact cr_sum hh.calm pins s σ H _ us Q I rx ⟨a, bs, rfl, .inl (.inl t), kk.now S (by simp only [RelD])⟩
  · cases hz
def opMin : OL := fun ds m => match ds with
  | [.int i, .int j] => some (.int (if j < i then j else i))
  | _ => none
def opMax : OL := fun ds m => match ds with
  | [.int i, .int j] => some (.int (if j > i then j else i))
  | _ => none
theorem c_min (hh : Here k W X) : CallR X (.builtin "min") (rC (ctOf X) opMin) := by
  intro pins s σ H xs us Q I rx h
  obtain ⟨io, F, m, ds, S, r, z, hz, kk⟩ := h
  unfold opMin at hz
  split at hz
  · rename_i i j
    obtain ⟨v, u, rfl, r1, r2⟩ := two_rel r
    simp only [RelD] at r1 r2
    subst r1 r2
    cases hz
    exact call_min2 hh.calm pins s σ H _ us Q I rx ⟨i, j, rfl, kk.now S (by simp only [RelD])⟩
  · cases hz
theorem c_max (hh : Here k W X) : CallR X (.builtin "max") (rC (ctOf X) opMax) := by
  intro pins s σ H xs us Q I rx h
  obtain ⟨io, F, m, ds, S, r, z, hz, kk⟩ := h
  unfold opMax at hz
  split at hz
  · rename_i i j
    obtain ⟨v, u, rfl, r1, r2⟩ := two_rel r
    simp only [RelD] at r1 r2
    subst r1 r2
    cases hz
    exact call_max2 hh.calm pins s σ H _ us Q I rx ⟨i, j, rfl, kk.now S (by simp only [RelD])⟩
  · cases hz

/-! ### methods of texts -/
def opSplit : OM := fun x ys m => match view m x, ys with
  | .str a, [y] => (match view m y with
    | .str b => if (b.length == 0) = false ∧ a.length + 2 ≤ sizeLine then some (.lst ((Txt.split a b).map D.str)) else none
    | _ => none)
  | _, _ => none
theorem mt_split_d : MtR X "str.split" (rM (ctOf X) opSplit) := by
  intro pins s σ H x xs v us Q I rx rxs h
  obtain ⟨io, F, m, d, ds, S, rd, rds, z, hz, kk⟩ := h
  unfold opSplit at hz
  split at hz
  · rename_i a y e1
    split at hz
    · rename_i b e2
      split at hz
      · rename_i hc
        cases hz
        obtain ⟨w, rfl, rw_⟩ := one_rel rds
        have ex := is_str rd e1
        have ey := is_str rw_ e2
        subst ex ey
        exact mt_split pins s σ H _ _ v us Q I rx rxs ⟨a, b, rfl, rfl, hc.1, hc.2, fun p hp => kk.newL S hp (strs_rel _ _ _ _ _ _)⟩
      · cases hz
    · cases hz
  · cases hz
def mM_split1 (a b : ME) : ME := mM hasS opSplit a (mCons b mNil)
theorem d_m_split1 (hh : Here k W X) (ho : PE X o (tE (ctOf X) W ca)) (he : PE X e (tE (ctOf X) W cb)) (h1 : attributeBase o "split" X.env (eval o X.env) = eval o X.env := by rfl)
    (h2 : ((backTo cpos (starEach [e] X.env)).all (fun x => !x.1) && ((backToKw cpos (keywordEach [] X.env)).all fun x => x.1.isSome) && decide ([e].length + ([] : List Keyword).length + (if ([] : List Keyword).isEmpty then 0 else 1) < 30)) = true := by rfl)
    (h3 : (apos.endLine == cpos.line) = true := by rfl) (h4 : starEach [e] X.env = (false, eval e X.env) :: starEach [] X.env := by rfl) (h5 : (backTo cpos (starEach [] X.env)).any (·.1) = false := by rfl) :
    PE X (.Call (.Attribute o "split" apos) [e] [] cpos) (tE (ctOf X) W (mM_split1 ca cb)) :=
  d_mm PySem.F.plainAttrs_str PySem.F.slot_str_split PySem.F.type_str_split ty_hasS mt_split_d ho (d_cons he d_nil h4) h1 h2 h3 h4 h5
def seqStrs (x : D) (m : Mem) : Option (List Str) := match view m x with
  | .lst ds => strsOf ds
  | .tup ds => strsOf ds
  | _ => none
def opJoin : OM := fun x ys m => match view m x, ys with
  | .str a, [y] => (seqStrs y m).bind fun zs : List Str => if (zs.map (·.length)).sum + zs.length * a.length ≤ 16777216 then some (.str (Txt.join a zs)) else none
  | _, _ => none
theorem mt_join_d : MtR X "str.join" (rM (ctOf X) opJoin) := by
  intro pins s σ H x xs v us Q I rx rxs h
  obtain ⟨io, F, m, d, ds, S, rd, rds, z, hz, kk⟩ := h
  unfold opJoin at hz
  split at hz
  · rename_i a y e1
    rw [Option.bind_eq_some_iff] at hz
    obtain ⟨zs, h1, h2⟩ := hz
    split at h2
    · rename_i hc
      cases h2
      obtain ⟨w, rfl, rw_⟩ := one_rel rds
      have ex := is_str rd e1
      subst ex
      unfold seqStrs at h1
      split at h1
      · rename_i es e2
        obtain ⟨p, xs, rfl, t, q⟩ := at_lst S rw_ e2
        rw [strsOf_map h1] at q
        rw [strsV_rel q] at t
        exact mt_join pins s σ H _ _ v us Q I rx rxs ⟨a, p, zs, rfl, rfl, .inl (.inl (.inl t)), hc, kk.now S (by simp only [RelD])⟩
      · rename_i es e2
        obtain ⟨p, xs, rfl, t, q⟩ := is_tup rw_ e2
        rw [strsOf_map h1] at q
        rw [strsV_rel q] at t
        exact mt_join pins s σ H _ _ v us Q I rx rxs ⟨a, p, zs, rfl, rfl, .inr t.sq, hc, kk.now S (by simp only [RelD])⟩
      · cases h1
    · cases h2
  · cases hz
def mM_join1 (a b : ME) : ME := mM hasS opJoin a (mCons b mNil)
theorem d_m_join1 (hh : Here k W X) (ho : PE X o (tE (ctOf X) W ca)) (he : PE X e (tE (ctOf X) W cb)) (h1 : attributeBase o "join" X.env (eval o X.env) = eval o X.env := by rfl)
    (h2 : ((backTo cpos (starEach [e] X.env)).all (fun x => !x.1) && ((backToKw cpos (keywordEach [] X.env)).all fun x => x.1.isSome) && decide ([e].length + ([] : List Keyword).length + (if ([] : List Keyword).isEmpty then 0 else 1) < 30)) = true := by rfl)
    (h3 : (apos.endLine == cpos.line) = true := by rfl) (h4 : starEach [e] X.env = (false, eval e X.env) :: starEach [] X.env := by rfl) (h5 : (backTo cpos (starEach [] X.env)).any (·.1) = false := by rfl) :
    PE X (.Call (.Attribute o "join" apos) [e] [] cpos) (tE (ctOf X) W (mM_join1 ca cb)) :=
  d_mm PySem.F.plainAttrs_str PySem.F.slot_str_join PySem.F.type_str_join ty_hasS mt_join_d ho (d_cons he d_nil h4) h1 h2 h3 h4 h5
def opUpper : OM := fun x ys m => match view m x, ys with
  | .str a, [] => if a.length ≤ 5592405 then some (.str (Txt.upper a)) else none
  | _, _ => none
theorem mt_upper_d : MtR X "str.upper" (rM (ctOf X) opUpper) := by
  intro pins s σ H x xs v us Q I rx rxs h
  obtain ⟨io, F, m, d, ds, S, rd, rds, z, hz, kk⟩ := h
  unfold opUpper at hz
  split at hz
  · rename_i a e1
    split at hz
    · rename_i hc
      cases hz
      have ex := is_str rd e1
      subst ex
      cases xs with
      | nil => exact mt_upper pins s σ H _ _ v us Q I rx rxs ⟨a, rfl, rfl, hc, kk.now S (by simp only [RelD])⟩
      | cons _ _ => simp only [RelDs] at rds
    · cases hz
  · cases hz
def mM_upper0 (a : ME) : ME := mM0 hasS opUpper a
theorem d_m_upper0 (hh : Here k W X) (ho : PE X o (tE (ctOf X) W ca)) (h1 : attributeBase o "upper" X.env (eval o X.env) = eval o X.env := by rfl) (h3 : (apos.endLine == cpos.line) = true := by rfl) :
    PE X (.Call (.Attribute o "upper" apos) [] [] cpos) (tE (ctOf X) W (mM_upper0 ca)) :=
  d_mm0 PySem.F.plainAttrs_str PySem.F.slot_str_upper PySem.F.type_str_upper ty_hasS mt_upper_d ho h1 h3
end
end Ev

set_option Elab.async false
set_option linter.all false
set_option maxRecDepth 100000
set_option autoImplicit false
/-! Ev14: enumerate of tuples and lists, zip. -/
namespace Ev
open PySem PySem.Spec PyProof.Rows L2
open AutoSeq1 (wpAny_loadPart')
/-! ### enumerate(a tuple) -/
theorem enum_newT (l : Addr) (items : Array Value) (n : Nat) (dct : Option Addr) (sl : Array (Option Value)) : Meets (Builtin.«enumerate.__new__» ⟨[.type "enumerate", .ref l], []⟩) (fun _ R s =>
      s.heap.get? l = some { cls := .type "tuple", dict := dct, data := .seq items n, slots := sl } ∧
      R (.ok (.ret (.ref (s.heap.push { cls := .type "tuple_iterator", data := .fields #[.ref l, .int 0 0] }).objs.size)))
        { s with heap := (s.heap.push { cls := .type "tuple_iterator", data := .fields #[.ref l, .int 0 0] }).push { cls := .type "enumerate", data := .fields #[.none, .bool false, .ref s.heap.objs.size, rawInt 0, .none, .none] } }) := .of_wp fun prog w A R s h => by
  obtain ⟨hp, g, d, tk, os⟩ := s
  obtain ⟨hl, h⟩ := h
  have hsub := sub_enumerate
  have hL : Heap.IsTuple (Shared.heap ⟨hp, g, d, tk, os⟩) l items := ⟨_, hl, rfl, n, rfl⟩
  wp_walk using wpAny_loadPart' hl
  refine wpAny_stack_any fun st => wpAny_pure ?_
  split
  · rename_i c _ _ _ _ _
    cases (c == Value.type "enumerate") <;> (wp_walk using wpAny_loadPart' hl, wpAny_pyIter_tuple hL; exact ⟨_, rfl, h⟩)
  · wp_walk using wpAny_loadPart' hl, wpAny_pyIter_tuple hL
    exact ⟨_, rfl, h⟩
theorem call_enumT {P : Program} {w : World} {A : Around} {E : Value → Shared → Prop} {s : Shared} {l : Addr} {items : Array Value} {Q : Value → Shared → Prop} (hL : s.heap.IsTuple l items)
    (h : ∀ h2, IsEnum h2 (s.heap.objs.size + 1) s.heap.objs.size 0 .none → h2.IsTupleIter s.heap.objs.size l 0 → h2.objs.size = s.heap.objs.size + 2 → (∀ b o, s.heap.get? b = some o → h2.get? b = some o) → Q (.ref (s.heap.objs.size + 1)) { s with heap := h2 }) :
    wpAny (model P w) A (call (.type "enumerate") [.ref l]) Q E s := by
  obtain ⟨⟨c, dct, dt, sl⟩, hl, hc, n, hd⟩ := hL
  replace hc : c = .type "tuple" := hc
  replace hd : dt = .seq items n := hd
  subst hc hd
  refine callType_new F.called_enumerate (by decide) (F.typeCall_enumerate_1 _) (F.newCall_enumerate_1 _) (fun obj => F.args_object_init_2 obj _) F.entry_enumerate_new (enum_newT l items n dct sl) ⟨hl, ?_⟩
  generalize hg : s.heap.push { cls := .type "tuple_iterator", data := .fields #[.ref l, .int 0 0] } = h1
  have hz : h1.objs.size = s.heap.objs.size + 1 := by rw [← hg]; exact Heap.size_push ..
  show _ ∧ _
  rw [hz]
  have he : IsEnum (h1.push { cls := .type "enumerate", data := .fields #[.none, .bool false, .ref s.heap.objs.size, rawInt 0, .none, .none] }) (s.heap.objs.size + 1) s.heap.objs.size 0 .none := by
    have z := Heap.get?_push_size h1 (o := { cls := .type "enumerate", data := .fields #[.none, .bool false, .ref s.heap.objs.size, rawInt 0, .none, .none] }) rfl
    rw [hz] at z; exact z
  have h0 : h1.get? s.heap.objs.size = some { cls := .type "tuple_iterator", data := .fields #[.ref l, .int 0 0] } := by rw [← hg]; exact Heap.get?_push_size _ rfl
  exact ⟨⟨_, he, rfl⟩, h _ he ⟨_, Heap.get?_push_of_some _ h0, rfl, rfl⟩ (by rw [Heap.size_push, hz]) fun b o x => Heap.get?_push_of_some _ (by rw [← hg]; exact Heap.get?_push_of_some _ x)⟩
/-- the tuple at a, each item in a new pair -/
def ItT (K : PySem.W.Frag) (a : Addr) : It :=
  ⟨fun i H => ∃ (xs : List V) (x : V), SqT K H a xs ∧ xs[i]? = some x, fun i H v H' => ∃ T x, v = .ref T ∧ H T = none ∧ H' = upd H T (.tup [.int (i : Nat), x]) ∧ ∀ zs, SqT K H a zs → zs[i]? = some x, fun i H => ∃ xs : List V, SqT K H a xs ∧ xs.length ≤ i⟩
theorem turn_enumT {P : Program} {w : World} {K : PySem.W.Frag} {elts : List Expr} {kk : Nat} {tpos : Pos} (a e it : Addr) :
    Turn P w K (.Tuple elts kk tpos) (ItT K a) [e, it] e (fun i h => (∃ old, IsEnum h e it ((i : Nat) : Int) old) ∧ h.IsTupleIter it a i ∧ e ≠ it ∧ a ≠ it ∧ a ≠ e) where
  mem := by simp
  obj := fun i h st b hb => by
    obtain ⟨⟨old, he⟩, ⟨o, ho, hc, hd⟩, _⟩ := st
    rcases (by simpa using hb : b = e ∨ b = it) with rfl | rfl
    · exact ⟨_, he, fun v q => nomatch q⟩
    · exact ⟨o, ho, fun v q => by rw [hd] at q; cases q⟩
  keep := fun i h h' st k => by
    obtain ⟨⟨old, he⟩, hi, hne⟩ := st
    exact ⟨⟨old, k e (by simp) _ he⟩, hi.at fun o q => k it (by simp) o q, hne⟩
  item := by
    intro X hP hw hK hc i pins s σ H E I hf st hg
    subst hP hw hK
    obtain ⟨⟨old, he⟩, hit, hne, hai, hae⟩ := st
    obtain ⟨xs, x, hq, hx⟩ := hg
    obtain ⟨its, rv, p, hz⟩ := I.tuple hq
    obtain ⟨u, hu, ru⟩ := rv.get hx
    have hel : e < s.heap.objs.size := Heap.lt_size he
    have hil : it < s.heap.objs.size := by obtain ⟨_, q, _⟩ := hit; exact Heap.lt_size q
    have hp : s.heap.IsTuple a its.toArray := p
    have D := Draws.tuple (prog := X.prog) (w := X.w) (A := X.A.in1) (I.ok.hd hc) it a hai its.toArray
    have hi : i < its.toArray.size := by
      rw [List.size_toArray]
      exact (List.getElem?_eq_some_iff.mp hu).1
    refine wpAny_pyNext_enum_itemD D he ⟨hit, hp⟩ hi hne (by simp; exact ⟨hne, fun z => hae z.symm⟩) fun y h' tk hy ho hst' hT hsz hk => ?_
    have ey : y = u := by
      have h1 : its[i]? = some y := by simpa using hy
      rw [hu] at h1; exact (Option.some.inj h1).symm
    subst ey
    refine ⟨_, rfl, wpAny_letOwnedTupleGo_enum (s := { s with heap := h', toks := tk + 1 }) ho fun h'' he' sb => ?_⟩
    have hT2 : h''.get? s.heap.objs.size = some { cls := .type "tuple", data := .seq #[.int i tk, y] } := (sb.2 _ (Nat.ne_of_gt hel)).trans hT
    have new : ObjOk X.prog X.w (upd H s.heap.objs.size (.tup [.int (i : Nat), x])) h'' s.heap.objs.size (.tup [.int (i : Nat), x]) :=
      ⟨by show 2 ≤ sizeLine; decide, [.int i tk, y], .cons ⟨_, rfl⟩ (.cons ru .nil), ⟨_, hT2, rfl, _, rfl⟩⟩
    have I1 : Inv X pins σ (upd H s.heap.objs.size (.tup [.int (i : Nat), x])) { s with heap := h'', toks := tk + 1 } :=
      I.turnedNew (ch := [e, it]) (fun b ob hb q => (sb.2 b (fun z => hb (by simp [z]))).trans (hk b ob (fun z => hb (by simp [z])) (fun z => hb (by simp [z])) q)) hf (Nat.le_refl _) new
    refine ⟨.ref s.heap.objs.size, _, I1, rfl, ⟨_, x, rfl, I.hok.fresh (Nat.le_refl _), rfl, fun ys hy => by rw [I.tuple_inj hy hq]; exact hx⟩, ⟨⟨y, ?_⟩, hst'.1.at fun o q => (sb.2 it (Ne.symm hne)).trans q, hne, hai, hae⟩, fun b hb => ?_⟩
    · rw [show ((i + 1 : Nat) : Int) = (i : Int) + 1 by omega]; exact he'
    · have hlt : b < s.heap.objs.size := by
        rcases (by simpa using hb : b = e ∨ b = it) with rfl | rfl
        · exact hel
        · exact hil
      rw [upd_ne (Nat.ne_of_lt hlt)]
      exact (hf b hb).1
  done := by
    intro X hP hw hK hc i pins s σ H E I hf st hg
    subst hP hw hK
    obtain ⟨⟨old, he⟩, hit, hne, hai, hae⟩ := st
    obtain ⟨xs, hq, hx⟩ := hg
    obtain ⟨its, rv, p, hz⟩ := I.tuple hq
    obtain ⟨f0, f1, f2, f3, f4, f5⟩ := hf it (by simp)
    have hp : s.heap.IsTuple a its.toArray := p
    have hl := rv.length
    have hT : s.TypeIs (.ref e) "enumerate" := ⟨_, he, rfl⟩
    have stop : its.toArray[i]? = none := by simp; omega
    unfold pyNext
    refine wpAny_bind (wpAny_attempt (wpAny_callSpecial?_slot (name := Str.ofString "__next__") hT F.slot_enumerate_next (wpAny_call_entry F.slot_enumerate_next hT F.entry_enumerate_next ?_ (F.args_enumerate_next_1 _)))); show wpAny _ _ (field (.ref e) 2 >>= _) _ _ _
    refine wpAny_bind (wpAny_field he rfl (x := .ref it) rfl (wpAny_bind (wpAny_nextOf_tuple_end (I.ok.hd hc) hit hp stop fun h2 y eb hy => ?_)))
    obtain ⟨o, ho, hcl⟩ := hy
    refine wpAny_bind (wpAny_isInstance (T := "StopIteration") (b := true) ⟨o, ho, hcl⟩ isSubtype_stop (wpAny_pure ?_))
    exact ⟨rfl, I.turned (t' := s.toks) (fun b o hb q => eb b o hb q) f0 f1 f3 f4 f5⟩
  self := fun A i s Q E st h => by
    obtain ⟨⟨_, he⟩, _⟩ := st
    exact wpAny_pyIter_enum he h
def iEnumT (K : PySem.W.Frag) (ta : TA) : TI := fun σ H R => ta σ H fun vs H1 => ∃ a xs, vs = [.ref a] ∧ SqT K H1 a xs ∧ R (ItT K a) H1
theorem pi_enumT {X : Cx} {e : Expr} {ta : TA} {p pos tpos : Pos} {elts : List Expr} {kk : Nat} (hg : Gl X "enumerate") (hm : X.mg "enumerate" = none) (ha : PA X [e] ta) (hs : starEach [e] X.env = [(false, eval e X.env)] := by rfl) :
    PI X (.Tuple elts kk tpos) (.Call (.Name "enumerate" p) [e] [] pos) (iEnumT X.K ta) := by
  refine ⟨fun pins s σ H R I h => Call_ (ld_blt I hg hm boot_enumerate (PyProof.Rows.callWith_type1 (thn (ha.run pos pins s σ H _ I h) fun us s1 ⟨vs, H1, I1, r1, q1⟩ => ?_) hs rfl))⟩
  obtain ⟨a, xs, rfl, hq, q⟩ := q1
  cases r1 with
  | cons r rr =>
    cases rr
    cases r
    obtain ⟨its, rv, p', hz⟩ := I1.tuple hq
    have hp : s1.heap.IsTuple a its.toArray := p'
    have hlt : a < s1.heap.objs.size := by obtain ⟨o, ho, _⟩ := hp; exact Heap.lt_size ho
    refine call_enumT hp fun h2 he hit hsz hk => wpAny_pyIter_enum he ?_
    have I2 : Inv X pins σ H1 { s1 with heap := h2 } := I1.kept (t' := s1.toks) hk
    refine ⟨s1.heap.objs.size + 1, [s1.heap.objs.size + 1, s1.heap.objs.size], _, _, H1, rfl, I2, turn_enumT a (s1.heap.objs.size + 1) s1.heap.objs.size, ⟨⟨.none, he⟩, hit, Nat.succ_ne_self _, Nat.ne_of_lt hlt, Nat.ne_of_lt (Nat.lt_succ_of_lt hlt)⟩, fun b hb => ?_, q⟩
    have hle : s1.heap.objs.size ≤ b := by
      rcases (by simpa using hb : b = s1.heap.objs.size + 1 ∨ b = s1.heap.objs.size) with z | z
      · rw [z]; exact Nat.le_add_right _ _
      · rw [z]; exact Nat.le_refl _
    exact I1.fpOk hle (I1.hok.fresh hle)
/-- (0, x), (1, y), .. -/
def numb : Nat → List D → List D
  | _, [] => []
  | n, d :: ds => .tup [.int (n : Int), d] :: numb (n + 1) ds
theorem numb_get : ∀ (ds : List D) (n i : Nat), (numb n ds)[i]? = (ds[i]?).map fun d => .tup [.int ((n + i : Nat) : Int), d]
  | [], _, _ => rfl
  | d :: ds, n, 0 => rfl
  | d :: ds, n, i + 1 => by
    show (numb (n + 1) ds)[i]? = _
    rw [numb_get ds (n + 1) i, show n + 1 + i = n + (i + 1) by omega]; rfl
theorem numb_len : ∀ (ds : List D) (n : Nat), (numb n ds).length = ds.length
  | [], _ => rfl
  | d :: ds, n => by simp only [numb, List.length_cons, numb_len ds]
def enumOf (x : D) (m : Mem) : Option (List D) := match x with
  | .tup ds => some (numb 0 ds)
  | .lst ds => some (numb 0 ds)
  | _ => none
def mEnum (a : ME) : MI := fun s m => (a s m).bind fun d m1 => Res.of (enumOf d m1) m1
section
variable {X : Cx} {k : Nat} {W : WT} {e : Expr} {ca cb : ME} {p pos tpos : Pos} {elts : List Expr} {kk : Nat}
theorem it_pairs {T : Ct} {io io' : Nat → Addr} {F F' : Addr → Prop} {m m' : Mem} {H H' : Hp} {ds : List D} {xs : List V} {d : D} {i : Nat} {x : V} {P : Addr} (S : Sim T io F m H) (q : RelDs T.K io F m.nx H ds xs) (E : Ext io F m H io' F' m' H') (S' : Sim T io' F' m' H')
    (e : (numb 0 ds)[i]? = some d) (ex : xs[i]? = some x) (hP : H' P = none) : ∃ io'' F'', Ext io' F' m' H' io'' F'' m' (upd H' P (.tup [.int (i : Nat), x])) ∧ Sim T io'' F'' m' (upd H' P (.tup [.int (i : Nat), x])) ∧ RelD T.K io'' F'' m'.nx (upd H' P (.tup [.int (i : Nat), x])) d (.ref P) := by
  rw [numb_get, Option.map_eq_some_iff] at e
  obtain ⟨c, e, rfl⟩ := e
  obtain ⟨v, e1, e2⟩ := q.get e
  rw [ex] at e1
  cases e1
  have E2 := Ext.addF (o := .tup [.int (i : Nat), x]) S' hP
  have S2 := S'.newF (o := .tup [.int (i : Nat), x]) hP
  refine ⟨io', orF F' P, E2, S2, ?_⟩
  simp only [RelD, RelDs]
  refine ⟨P, [.int (i : Nat), x], rfl, .inl ⟨.inr rfl, upd_same⟩, ?_⟩
  simp only [RelDs, RelD]
  exact ⟨by simp, (e2.mono (S.mono E)).mono (S'.mono E2), trivial⟩
theorem it_enumL {T : Ct} {io : Nat → Addr} {F : Addr → Prop} {m : Mem} {H : Hp} {a : Addr} {xs : List V} {ds : List D} (S : Sim T io F m H) (q : RelDs T.K io F m.nx H ds xs) (hs : ∀ io' F' m' H', Ext io F m H io' F' m' H' → SqL T.K H' a xs) : ItOk T io F m H (numb 0 ds) (Ite T.K a) := by
  refine ⟨fun i io' F' m' H' E S' hi => ?_, fun i io' F' m' H' E S' hi => ⟨xs, hs _ _ _ _ E, by rw [hi, numb_len, q.len]; exact Nat.le_refl _⟩, fun i io' F' m' H' x H'' d E S' e y => ?_⟩
  · rw [numb_len] at hi
    obtain ⟨v, e1, _⟩ := q.get (List.getElem?_eq_getElem hi)
    exact ⟨xs, v, hs _ _ _ _ E, e1⟩
  · obtain ⟨P, x, rfl, hP, rfl, y⟩ := y
    exact it_pairs S q E S' e (y xs (hs _ _ _ _ E)) hP
theorem it_enumT {T : Ct} {io : Nat → Addr} {F : Addr → Prop} {m : Mem} {H : Hp} {a : Addr} {xs : List V} {ds : List D} (S : Sim T io F m H) (q : RelDs T.K io F m.nx H ds xs) (hs : ∀ io' F' m' H', Ext io F m H io' F' m' H' → SqT T.K H' a xs) : ItOk T io F m H (numb 0 ds) (ItT T.K a) := by
  refine ⟨fun i io' F' m' H' E S' hi => ?_, fun i io' F' m' H' E S' hi => ⟨xs, hs _ _ _ _ E, by rw [hi, numb_len, q.len]; exact Nat.le_refl _⟩, fun i io' F' m' H' x H'' d E S' e y => ?_⟩
  · rw [numb_len] at hi
    obtain ⟨v, e1, _⟩ := q.get (List.getElem?_eq_getElem hi)
    exact ⟨xs, v, hs _ _ _ _ E, e1⟩
  · obtain ⟨P, x, rfl, hP, rfl, y⟩ := y
    exact it_pairs S q E S' e (y xs (hs _ _ _ _ E)) hP
theorem d_enum (hh : Here k W X) (hg : Gl X "enumerate") (hm : X.mg "enumerate" = none) (ha : PE X e (tE (ctOf X) W ca)) (hs : starEach [e] X.env = (false, eval e X.env) :: starEach [] X.env := by rfl) (hs1 : starEach [e] X.env = [(false, eval e X.env)] := by rfl) :
    DIt X W (.Tuple elts kk tpos) (.Call (.Name "enumerate" p) [e] [] pos) (mEnum ca) := by
  have hA := d_cons ha (d_nil (X := X) (W := W)) hs
  refine ⟨_, pi_or (pi_enum hg hm hA hs1) (pi_enumT hg hm hA hs1), fun σ H R io F m sd S rs h => ?_⟩
  unfold mEnum at h
  cases q : ca sd m with
  | bad => rw [q] at h; exact h.elim
  | exc C fs m1 => rw [q] at h; exact .inl ⟨io, F, m, sd, S, rs, by
      have z : mCons ca mNil sd m = .exc C fs m1 := by unfold mCons mNil; rw [q]; rfl
      rw [z]; exact h⟩
  | ok d m1 =>
    rw [q] at h
    simp only [Res.bind_ok] at h
    cases d with
    | tup ds =>
      refine .inr ⟨io, F, m, sd, S, rs, ?_⟩
      have z : mCons ca mNil sd m = .ok [.tup ds] m1 := by unfold mCons mNil; rw [q]; rfl
      rw [z]
      intro io' F' H' v E S' r
      obtain ⟨v, rfl, r2⟩ := one_rel r
      simp only [RelD] at r2
      obtain ⟨a, xs, rfl, t, qq⟩ := r2
      exact ⟨a, xs, rfl, t.sq, h io' F' H' _ E S' (it_enumT S' qq fun _ _ _ _ E' => t.later S' E')⟩
    | lst ds =>
      refine .inl ⟨io, F, m, sd, S, rs, ?_⟩
      have z : mCons ca mNil sd m = .ok [.lst ds] m1 := by unfold mCons mNil; rw [q]; rfl
      rw [z]
      intro io' F' H' v E S' r
      obtain ⟨v, rfl, r2⟩ := one_rel r
      simp only [RelD] at r2
      obtain ⟨a, xs, rfl, f, t, qq⟩ := r2
      exact ⟨a, xs, rfl, .inl (.inl t), h io' F' H' _ E S' (it_enumL S' qq fun _ _ _ _ E' => .inl (.inl ((S'.mono E').kl a xs f t)))⟩
    | _ => exact h.elim
end
end Ev

set_option Elab.async false
set_option linter.all false
set_option maxRecDepth 100000
set_option autoImplicit false
/-! Ev16: new lists by + and list(..), stores in lists. -/
namespace Ev
open PySem PySem.Spec PyProof.Rows L2
section
variable {X : Cx} {k : Nat} {W : WT} {a b e o i value : Expr} {es : List Expr} {x : Str} {pos pos' p : Pos} {ca cb cv co ci : ME} {cA : MA}
/-- a new list, a + b -/
def mNewAdd (ca cb : ME) : ME := fun s m => (ca s m).bind fun x m1 => (cb s m1).bind fun y m2 => match lstOf x m2, lstOf y m2 with
  | some ds, some es => if ds.length + es.length ≤ sizeLine then .ok (.ref m2.nx) (m2.add (.lst (ds ++ es))) else .bad
  | _, _ => .bad
theorem d_newAdd (ha : PE X a (tE (ctOf X) W ca)) (hb : PE X b (tE (ctOf X) W cb)) : PE X (.BinOp a .Add b pos) (tE (ctOf X) W (mNewAdd ca cb)) :=
  pe_imp (pe_op op_cat ha hb) fun σ H Q h => by
    have h1 := tG.bind (R := RD (ctOf X)) (R' := RD (ctOf X)) (c := ca) (k := fun x s m1 => (cb s m1).bind fun y m2 => match lstOf x m2, lstOf y m2 with
      | some ds, some es => if ds.length + es.length ≤ sizeLine then .ok (D.ref m2.nx) (m2.add (.lst (ds ++ es))) else .bad
      | _, _ => .bad) h
    refine h1.imp fun x H1 h2 => ?_
    refine (tK.bind (R := RD (ctOf X)) (monoD _) h2).imp fun y H2 h3 => ?_
    obtain ⟨io, F, m, sd, ⟨d, e⟩, S, rs, ⟨r1, r2⟩, p⟩ := h3
    dsimp only at p r1 r2
    split at p
    · rename_i ds es e1 e2
      split at p
      · rename_i hl
        obtain ⟨u, xs, rfl, t1, q1⟩ := lstOf_rel S r1 e1
        obtain ⟨v, ys, rfl, t2, q2⟩ := lstOf_rel S r2 e2
        refine ⟨u, v, xs, ys, rfl, rfl, t1, t2, by rw [← q1.len, ← q2.len]; exact hl, fun q hq => ?_⟩
        have E := Ext.alloc (u := .lst (ds ++ es)) (o := .lst (xs ++ ys)) S hq
        refine p _ _ _ _ E (S.alloc hq ⟨xs ++ ys, upd_same, (q1.mono (S.mono E)).app (q2.mono (S.mono E))⟩) ?_
        simp only [RD, RelD]
        exact ⟨Nat.lt_succ_self _, by rw [ioN_self]⟩
      · exact p.elim
    · exact p.elim
/-- a new list of a list or tuple -/
def seqOf (x : D) (m : Mem) : Option (List D) := match view m x with
  | .lst ds => some ds
  | .tup ds => some ds
  | _ => none
def mNewList (ca : ME) : ME := fun s m => (ca s m).bind fun x m1 => match seqOf x m1 with
  | some ds => .ok (.ref m1.nx) (m1.add (.lst ds))
  | none => .bad
theorem d_newList (hh : Here k W X) (hg : Gl X "list") (hm : X.mg "list" = none) (ha : PE X e (tE (ctOf X) W ca)) (hs : starEach [e] X.env = (false, eval e X.env) :: starEach [] X.env := by rfl) (hpl : (backTo pos (starEach [] X.env)).any (·.1) = false := by rfl) :
    PE X (.Call (.Name "list" p) [e] [] pos) (tE (ctOf X) W (mNewList ca)) :=
  pe_imp (pe_callTy call_list_of hg hm boot_list (d_cons ha (d_nil (X := X) (W := W)) hs) (by decide) (by decide) hs hpl) fun σ H Q h => by
    have h0 : tG (RD (ctOf X)) (ctOf X) W (fun s m => (mCons ca mNil s m).bind fun xs m1 => match xs with
        | [x] => (match seqOf x m1 with
          | some ds => Res.ok (D.ref m1.nx) (m1.add (.lst ds))
          | none => .bad)
        | _ => .bad) σ H Q := by
      obtain ⟨io, F, m, sd, S, rs, p⟩ := h
      refine ⟨io, F, m, sd, S, rs, ?_⟩
      unfold mNewList at p
      unfold mCons mNil
      cases q : ca sd m with
      | ok a m1 => rw [q] at p; dsimp only; rw [q]; exact p
      | exc C fs m1 => rw [q] at p; dsimp only; rw [q]; exact p
      | bad => rw [q] at p; dsimp only; rw [q]; exact p
    refine (tG.bind (R := RDs (ctOf X)) (R' := RD (ctOf X)) (c := mCons ca mNil) (k := fun xs s m1 => match xs with
        | [x] => (match seqOf x m1 with
          | some ds => Res.ok (D.ref m1.nx) (m1.add (.lst ds))
          | none => .bad)
        | _ => .bad) h0).imp fun xs H1 h2 => ?_
    obtain ⟨io, F, m, sd, ds, S, rs, r, p⟩ := h2
    dsimp only at p
    split at p
    · rename_i d
      obtain ⟨v, rfl, rv⟩ := one_rel (r : RelDs _ _ _ _ _ _ _)
      split at p
      · rename_i es e1
        have key : ∃ u ys, v = .ref u ∧ (SqL X.K H1 u ys ∨ SqT X.K H1 u ys) ∧ RelDs X.K io F m.nx H1 es ys := by
          unfold seqOf at e1
          split at e1
          · rename_i f e2
            cases e1
            obtain ⟨u, ys, rfl, t, q⟩ := at_lst S rv e2
            exact ⟨u, ys, rfl, .inl (.inl (.inl t)), q⟩
          · rename_i f e2
            cases e1
            obtain ⟨u, ys, rfl, t, q⟩ := is_tup rv e2
            exact ⟨u, ys, rfl, .inr t.sq, q⟩
          · cases e1
        obtain ⟨u, ys, rfl, t, q⟩ := key
        refine ⟨u, ys, rfl, t, fun l hl => ?_⟩
        have E := Ext.alloc (u := .lst es) (o := .lst ys) S hl
        refine p _ _ _ _ E (S.alloc hl ⟨ys, upd_same, q.mono (S.mono E)⟩) ?_
        simp only [RD, RelD]
        exact ⟨Nat.lt_succ_self _, by rw [ioN_self]⟩
      · exact p.elim
    · exact p.elim
/-- o[i] = e, o a list that may change -/
def mLPut (co ci cv : ME) : MS := fun s m => (cv s m).then_ s fun v m1 => (co s m1).then_ s fun x m2 => (ci s m2).then_ s fun y m3 => match x, y with
  | .ref j, .int i => (match m3.ob j with
    | some (.lst ds) => (match ixN ds.length i with
      | some n => .nx s (m3.put j (.lst (ds.set n v)))
      | none => .bad)
    | _ => .bad)
  | _, _ => .bad
theorem d_lput (hh : Here k W X) (ho : PE X o (tE (ctOf X) W co)) (hi : PE X i (tE (ctOf X) W ci)) (hv : PE X value (tE (ctOf X) W cv)) (h1 : swapsWithSole [.Subscript o i pos'] value pos.line X.env = pure false := by rfl) (h2 : swappedStores [.Subscript o i pos'] value X.env = pure none := by rfl)
    (h3 : (assignEach [.Subscript o i pos'] X.env).map (·.2) = [assign (.Subscript o i pos') X.env] := by rfl)
    (h4 : ∀ v, assign (.Subscript o i pos') X.env v = (do let ov ← holding [v] (eval o X.env); let iv ← holding [v, ov] (eval i X.env); standAt pos'; holding [v, ov, iv] (setItem ov iv v); release [v, ov, iv] []) := by intro _; rfl) : PS X (.Assign [.Subscript o i pos'] value pos) (tS (ctOf X) W (mLPut co ci cv)) := by
  refine ps_imp (ps_asg hv (pg_sub ho hi set_list h4) h1 h2 h3) fun D σ H h => ?_
  obtain ⟨io, F, m, sd, S, rs, p⟩ := h
  refine ⟨io, F, m, sd, S, rs, (PostS.then_ (R := RD (ctOf X)) S rs p).imp fun v H1 ⟨io1, F1, m1, d1, S1, rs1, r1, p1⟩ => ?_⟩
  have q2 := PostS.then_ (R := RD (ctOf X)) S1 rs1 p1
  refine ⟨io1, F1, m1, sd, S1, rs1, ?_⟩
  cases e2 : co sd m1 with
  | bad => rw [e2] at q2; exact q2
  | exc C fs m2 => rw [e2] at q2; exact q2
  | ok d2 m2 =>
    rw [e2] at p1
    simp only [Res.then_ok] at p1
    intro io2 F2 H2 x E2 S2 r2
    have r1' := r1.mono (S1.mono E2)
    have rs2 := rs1.mono (S1.mono E2)
    have p2 := p1.ext E2
    have q3 := PostS.then_ (R := RD (ctOf X)) S2 rs2 p2
    refine ⟨io2, F2, m2, sd, S2, rs2, ?_⟩
    cases e3 : ci sd m2 with
    | bad => rw [e3] at q3; exact q3
    | exc C fs m3 => rw [e3] at q3; exact q3
    | ok d3 m3 =>
      rw [e3] at p2
      simp only [Res.then_ok] at p2
      intro io3 F3 H3 y E3 S3 r3
      have r1'' := r1'.mono (S2.mono E3)
      have r2' := r2.mono (S2.mono E3)
      have rs3 := rs2.mono (S2.mono E3)
      have p3 := p2.ext E3
      split at p3
      · rename_i j ii
        split at p3
        · rename_i ds q
          split at p3
          · rename_i n hn
            obtain ⟨xs, hx, t, rx⟩ := lst_of S3 r2' rfl q
            simp only [RD, RelD] at r3
            refine ⟨io3 j, xs, ii, n, hx, r3, t, by rw [← rx.len]; exact hn, ?_⟩
            have E := Ext.put (u' := .lst (ds.set n d1)) (o := .lst (xs.set n v)) S3 q
            exact p3 _ _ _ _ E (S3.put q ⟨xs.set n v, upd_same, (rx.mono (S3.mono E)).set n (r1''.mono (S3.mono E))⟩) (rs3.mono (S3.mono E))
          · exact p3.elim
        · exact p3.elim
      · exact p3.elim
variable {s : Shared} {H : Hp} {sc : Scope} {ce : Env} {fp : List Addr}
theorem d_gtupB {tgs : List Expr} {g : List D → Slots → Option Slots} {ts : List Nat} {n kk : Nat} {g1 : TGs} (hc : (X.blk s H sc ce fp).calm = true) (h : DTgs (X.blk s H sc ce fp) tgs g1 g ts) (hl : (assignEach tgs (X.blk s H sc ce fp).env).length = n := by rfl)
    (hn : (assignEach tgs (X.blk s H sc ce fp).env).findIdx? (·.1) = none := by rfl) : DTg (X.blk s H sc ce fp) (.Tuple tgs kk pos) (gTup X.K n g1) (aTup n g) ts := d_gtup hc h hl hn
theorem d_glstB {tgs : List Expr} {g : List D → Slots → Option Slots} {ts : List Nat} {n kk : Nat} {g1 : TGs} (hc : (X.blk s H sc ce fp).calm = true) (h : DTgs (X.blk s H sc ce fp) tgs g1 g ts) (hl : (assignEach tgs (X.blk s H sc ce fp).env).length = n := by rfl)
    (hn : (assignEach tgs (X.blk s H sc ce fp).env).findIdx? (·.1) = none := by rfl) : DTg (X.blk s H sc ce fp) (.Tuple tgs kk pos) (gLst X.K n g1) (aLst n g) ts := d_glst hc h hl hn
theorem d_if1B {c : Expr} {ct : MT} (h : PT (X.blk s H sc ce fp) c (tT (ctOf (X.blk s H sc ce fp)) W ct)) : DIfs (X.blk s H sc ce fp) W [c] (tT (ctOf X) W ct) ct := ⟨pts_one h, fun σ H Q q => q⟩
/-- a < b, tuples of ints -/
def opLtT : O2 := fun x y m => match view m x, view m y with
  | .tup a, .tup b => (match intsOf a, intsOf b with
    | some ns, some ms => some (.bl (HT.lexLt ns ms))
    | _, _ => none)
  | _, _ => none
theorem o_ltT (hu : X.A.units + 65 < cLine) : OpR X (compareOp .Lt) (rD (ctOf X) opLtT) := by
  intro pins s σ H x y v u Q I rx ry h
  obtain ⟨io, F, m, d, e, S, rd, re, z, hz, k⟩ := h
  unfold opLtT at hz
  split at hz
  · rename_i a b e1 e2
    split at hz
    · rename_i ns ms h1 h2
      cases hz
      obtain ⟨p, xs, rfl, t1, q1⟩ := is_tup rd e1
      obtain ⟨q, ys, rfl, t2, q2⟩ := is_tup re e2
      rw [intsOf_map h1] at q1
      rw [intsOf_map h2] at q2
      have z1 := intsV_rel q1
      have z2 := intsV_rel q2
      subst z1 z2
      exact op_ltT (by omega) pins s σ H _ _ v u Q I rx ry ⟨p, q, ns, ms, rfl, rfl, t1.sq, t2.sq, k.now S (by simp only [RelD])⟩
    · cases hz
  · cases hz
end
end Ev

set_option Elab.async false
set_option linter.all false
set_option maxRecDepth 100000
set_option autoImplicit false
/-! Ev12: the pen with cells, at, left. -/
namespace Ev
open PySem PySem.Spec PyProof.Rows L2
def penA (c : List Int) (a l : Int) : Ob := .dk [.inr "cells", .inr "at", .inr "left"] [.lst (c.map D.int), .int a, .int l]
def mA_draw : MS :=
    (mSeq (mIf (mT (mOp opGt (mOp opIx (mV 0) (mC (.str "left"))) (mC (.int 0)))) (mSeq (mSet 2 (mOp opMod (mOp opIx (mV 0) (mC (.str "left"))) (mV 1)))
    (mSeq (mDPut (mV 0) (mC (.str "left")) (mOp opDiv (mOp opIx (mV 0) (mC (.str "left"))) (mV 1)))
    (mRet (mV 2)))) mSkip)
    (mSeq (mSet 3 (mOp opIx (mV 0) (mC (.str "cells"))))
    (mSeq (mSet 4 (mOp opIx (mV 0) (mC (.str "at"))))
    (mSeq (mDPut (mV 0) (mC (.str "at")) (mOp opAdd (mV 4) (mC (.int 1))))
    (mSeq (mSet 5 (mOp opAdd (mOp opMul (mC (.int 30011)) (mV 4)) (mC (.int 77))))
    (mSeq (mIf (mT (mOp opNe (mV 3) (mLst mNil))) (mSet 5 (mOp opIx (mV 3) (mOp opMod (mV 4) (mCB opLen (mCons (mV 3) mNil))))) mSkip)
    (mSeq (mIf (mAnd (mT (mOp opLt (mV 4) (mCB opLen (mCons (mV 3) mNil)))) (mT (mOp opGe (mCB opAbs (mCons (mV 5) mNil)) (mOp opPow (mC (.int 10)) (mC (.int 18)))))) (mSeq (mDPut (mV 0) (mC (.str "left")) (mOp opDiv (mCB opAbs (mCons (mV 5) mNil)) (mV 1)))
    (mRet (mOp opMod (mCB opAbs (mCons (mV 5) mNil)) (mV 1)))) mSkip)
    (mSeq (mSet 6 (mOp opMod (mOp opPow (mOp opAdd (mOp opAdd (mOp opMod (mV 5) (mC (.int 2147483587))) (mOp opMul (mC (.int 50021)) (mV 4))) (mC (.int 29))) (mC (.int 5))) (mC (.int 2147483629))))
    (mSeq (mSet 6 (mOp opMod (mOp opPow (mOp opAdd (mOp opMul (mV 6) (mOp opAdd (mOp opMul (mC (.int 2)) (mV 4)) (mC (.int 5)))) (mC (.int 81799))) (mC (.int 3))) (mC (.int 2147483647))))
    (mRet (mOp opMod (mOp opDiv (mV 6) (mC (.int 16))) (mV 1))))))))))))
def sC : MS := (mSeq (mSet 6 (mOp opMod (mOp opPow (mOp opAdd (mOp opAdd (mOp opMod (mV 5) (mC (.int 2147483587))) (mOp opMul (mC (.int 50021)) (mV 4))) (mC (.int 29))) (mC (.int 5))) (mC (.int 2147483629))))
    (mSeq (mSet 6 (mOp opMod (mOp opPow (mOp opAdd (mOp opMul (mV 6) (mOp opAdd (mOp opMul (mC (.int 2)) (mV 4)) (mC (.int 5)))) (mC (.int 81799))) (mC (.int 3))) (mC (.int 2147483647))))
    (mRet (mOp opMod (mOp opDiv (mV 6) (mC (.int 16))) (mV 1)))))
def sB : MS :=
    (mSeq (mIf (mAnd (mT (mOp opLt (mV 4) (mCB opLen (mCons (mV 3) mNil)))) (mT (mOp opGe (mCB opAbs (mCons (mV 5) mNil)) (mOp opPow (mC (.int 10)) (mC (.int 18)))))) (mSeq (mDPut (mV 0) (mC (.str "left")) (mOp opDiv (mCB opAbs (mCons (mV 5) mNil)) (mV 1)))
    (mRet (mOp opMod (mCB opAbs (mCons (mV 5) mNil)) (mV 1)))) mSkip) sC)
theorem look_left (c a l : D) : look [(.inr "cells" : Key), .inr "at", .inr "left"] [c, a, l] (.inr "left") = some l := by
  rw [look_cons, if_neg (by decide), look_cons, if_neg (by decide), look_cons, if_pos rfl]
theorem look_at (c a l : D) : look [(.inr "cells" : Key), .inr "at", .inr "left"] [c, a, l] (.inr "at") = some a := by
  rw [look_cons, if_neg (by decide), look_cons, if_pos rfl]
theorem look_cells (c a l : D) : look [(.inr "cells" : Key), .inr "at", .inr "left"] [c, a, l] (.inr "cells") = some c := by
  rw [look_cons, if_pos rfl]
theorem ix_dk {m : Mem} {i : Nat} {ks : List Key} {ds : List D} {y z : D} {k : Key} (e : m.ob i = some (.dk ks ds)) (hk : keyOf y = some k) (h : look ks ds k = some z) : opIx (.ref i) y m = some z := by
  unfold opIx
  rw [view_ref, e]
  dsimp only [viewO]
  cases y <;> (cases hk; try exact h)
theorem put_left (c a l l' : D) : putD ([(.inr "cells" : Key), .inr "at", .inr "left"].zip [c, a, l]) (.inr "left") l' = [(.inr "cells", c), (.inr "at", a), (.inr "left", l')] := by
  unfold putD
  rw [if_pos (by rw [List.any_eq_true]; exact ⟨(.inr "left", l), by simp [List.zip, List.zipWith], decide_eq_true rfl⟩)]
  show [_, _, _] = _
  dsimp only
  rw [if_neg (by decide), if_neg (by decide), if_pos rfl]
theorem put_at (c a l a' : D) : putD ([(.inr "cells" : Key), .inr "at", .inr "left"].zip [c, a, l]) (.inr "at") a' = [(.inr "cells", c), (.inr "at", a'), (.inr "left", l)] := by
  unfold putD
  rw [if_pos (by rw [List.any_eq_true]; exact ⟨(.inr "at", a), by simp [List.zip, List.zipWith], decide_eq_true rfl⟩)]
  show [_, _, _] = _
  dsimp only
  rw [if_neg (by decide), if_pos rfl, if_neg (by decide)]
section
variable {N : Slots → Mem → Prop} {R : D → Mem → Prop} {B C : Slots → Mem → Prop} {X : XS} {Q : D → Mem → Prop} {XX : XQ} {s : Slots} {m : Mem} {c : List Int} {a l l' : Int}
theorem ixA_left (hp : m.ob 0 = some (penA c a l)) (h : Q (.int l) m) : wp (Res.of (opIx (.ref 0) (.str "left") m) m) Q XX := wp_of (ix_dk hp rfl (look_left _ _ _)) h
theorem ixA_at (hp : m.ob 0 = some (penA c a l)) (h : Q (.int a) m) : wp (Res.of (opIx (.ref 0) (.str "at") m) m) Q XX := wp_of (ix_dk hp rfl (look_at _ _ _)) h
theorem ixA_cells (hp : m.ob 0 = some (penA c a l)) (h : Q (.lst (c.map D.int)) m) : wp (Res.of (opIx (.ref 0) (.str "cells") m) m) Q XX := wp_of (ix_dk hp rfl (look_cells _ _ _)) h
theorem putA_left {P : Mem → Prop} (hp : m.ob 0 = some (penA c a l)) (h : P (m.put 0 (penA c a l'))) : dputP (.ref 0) (.str "left") (.int l') m P :=
  ⟨0, _, _, .inr "left", rfl, hp, rfl, by decide, rfl, by rw [put_left]; exact h⟩
theorem putA_at {P : Mem → Prop} (hp : m.ob 0 = some (penA c a l)) (h : P (m.put 0 (penA c l' l))) : dputP (.ref 0) (.str "at") (.int l') m P :=
  ⟨0, _, _, .inr "at", rfl, hp, rfl, by decide, rfl, by rw [put_at]; exact h⟩
theorem put_ob (m : Mem) (i : Nat) (o : Ob) : (m.put i o).ob i = some o := if_pos rfl
theorem put_put (m : Mem) (i : Nat) (o o' : Ob) : (m.put i o).put i o' = m.put i o' := by
  unfold Mem.put
  congr 1
  funext j
  dsimp only
  split <;> rfl
end

/-- memory with the pen, at most t numbers drawn anew -/
structure PM (t : Nat) (m : Mem) : Prop where
  pen : ∃ c a l, m.ob 0 = some (penA c a l) ∧ c.length ≤ 63 ∧ 0 ≤ a ∧ a ≤ t ∧ 0 ≤ l
  wf : ∀ j, m.nx ≤ j → m.ob j = none
/-- just the pen is another one -/
structure Ch (m m' : Mem) : Prop where
  nx : m.nx ≤ m'.nx
  ob : ∀ j, j ≠ 0 → j < m.nx → m'.ob j = m.ob j
theorem Ch.refl (m : Mem) : Ch m m := ⟨Nat.le_refl _, fun _ _ _ => rfl⟩
theorem Ch.trans {a b c : Mem} (h : Ch a b) (k : Ch b c) : Ch a c := ⟨Nat.le_trans h.nx k.nx, fun j z l => (k.ob j z (Nat.lt_of_lt_of_le l h.nx)).trans (h.ob j z l)⟩
theorem PM.mono {t u : Nat} {m : Mem} (h : PM t m) (l : t ≤ u) : PM u m := by
  obtain ⟨⟨c, a, l0, e, h1, h2, h3, h4⟩, w⟩ := h
  exact ⟨⟨c, a, l0, e, h1, h2, by omega, h4⟩, w⟩
theorem PM.nx {t : Nat} {m : Mem} (h : PM t m) : 0 < m.nx := by
  obtain ⟨⟨c, a, l0, e, h1, h2, h3, h4⟩, w⟩ := h
  rcases Nat.lt_or_ge 0 m.nx with z | z
  · exact z
  · rw [w 0 z] at e; cases e
theorem PM.put {t : Nat} {m : Mem} (h : PM t m) {c : List Int} {a l : Int} (u : Nat) (h1 : c.length ≤ 63) (h2 : 0 ≤ a) (h3 : a ≤ u) (h4 : 0 ≤ l) : PM u (m.put 0 (penA c a l)) ∧ Ch m (m.put 0 (penA c a l)) :=
  ⟨⟨⟨c, a, l, put_ob _ _ _, h1, h2, h3, h4⟩, fun j hj => by
    have := h.nx
    have hj' : m.nx ≤ j := hj
    show (if j = 0 then _ else m.ob j) = none
    rw [if_neg (by omega)]; exact h.wf j hj⟩, ⟨Nat.le_refl _, fun j hj _ => if_neg hj⟩⟩
theorem w_draw {t : Nat} {n : Int} {m : Mem} {Q : D → Mem → Prop} {XX : XQ} (p : PM t m) (ht : t < 2 ^ 31) (hn : 0 < n) (hl : n.natAbs.log2 < 9000)
    (k : ∀ d m', PM (t + 1) m' → Ch m m' → 0 ≤ d → d < n → Q (.int d) m') : wp (body 2 7 mA_draw [.ref 0, .int n] m) Q XX := by
  obtain ⟨⟨c, a, l, hp, h1, h2, h3, h4⟩, w⟩ := p
  have p : PM t m := ⟨⟨c, a, l, hp, h1, h2, h3, h4⟩, w⟩
  refine w_body rfl ?_
  unfold mA_draw
  (repeat' (first | (with_reducible first | refine w_seq ?_ | refine w_if ?_ | refine v_c ?_ | refine v_op ?_ | refine t_t ?_) | (with_reducible refine v_vx ?_; refine ex_v rfl ?_) | fail))
  refine ixA_left hp ?_
  (repeat' (first | (with_reducible first | refine v_c ?_ | refine ex_bl ?_ | refine q_gt ?_) | fail))
  refine pick_d (fun h => ?_) (fun h => ?_)
  · (repeat' (first | (with_reducible first | refine w_seq ?_ | refine w_set ?_ | refine v_c ?_ | refine v_op ?_) | (with_reducible refine v_vx ?_; refine ex_v rfl ?_) | fail))
    refine ixA_left hp ?_
    (repeat' (first | (with_reducible refine v_vx ?_; refine ex_v rfl ?_) | fail))
    refine i_mod hn ?_
    (repeat' (first | (with_reducible first | refine w_seq ?_ | refine w_dput ?_ | refine v_c ?_ | refine v_op ?_) | (with_reducible refine v_vx ?_; refine ex_v rfl ?_) | fail))
    refine ixA_left hp ?_
    (repeat' (first | (with_reducible refine v_vx ?_; refine ex_v rfl ?_) | fail))
    refine i_div hn hl ?_
    (repeat' (first | (with_reducible first | refine v_c ?_) | (with_reducible refine v_vx ?_; refine ex_v rfl ?_) | fail))
    refine putA_left hp ?_
    (repeat' (first | (with_reducible first | refine w_ret ?_) | (with_reducible refine v_vx ?_; refine ex_v rfl ?_) | fail))
    have q := p.put (c := c) (a := a) (l := l / n) (t + 1) h1 h2 (by omega) (Int.ediv_nonneg h4 (Int.le_of_lt hn))
    exact k _ _ q.1 q.2 (Int.emod_nonneg _ (by omega)) (Int.emod_lt_of_pos _ hn)
  · (repeat' (first | (with_reducible first | refine w_seq ?_ | refine w_set ?_ | refine w_skip ?_ | refine v_c ?_ | refine v_op ?_) | (with_reducible refine v_vx ?_; refine ex_v rfl ?_) | fail))
    refine ixA_cells hp ?_
    (repeat' (first | (with_reducible first | refine w_seq ?_ | refine w_set ?_ | refine v_c ?_ | refine v_op ?_) | (with_reducible refine v_vx ?_; refine ex_v rfl ?_) | fail))
    refine ixA_at hp ?_
    (repeat' (first | (with_reducible first | refine w_seq ?_ | refine w_dput ?_ | refine v_c ?_ | refine v_op ?_ | refine q_add ?_) | (with_reducible refine v_vx ?_; refine ex_v rfl ?_) | fail))
    refine putA_at hp ?_
    (repeat' (first | (with_reducible first | refine w_seq ?_ | refine w_set ?_ | refine v_c ?_ | refine v_op ?_) | (with_reducible refine v_vx ?_; refine ex_v rfl ?_) | fail))
    refine i_mul (by decide) (by omega) ?_
    (repeat' (first | (with_reducible first | refine w_seq ?_ | refine w_if ?_ | refine v_c ?_ | refine v_op ?_ | refine a_nil ?_ | refine v_lst ?_ | refine t_t ?_ | refine q_add ?_) | (with_reducible refine v_vx ?_; refine ex_v rfl ?_) | (with_reducible refine len_ok (by simp [sizeLine_eq]) ?_) | fail))
    refine q_ne (pl_ints _) pl_nil ?_
    refine ex_bl ?_
    -- the cell
    have fin : ∀ e : Int, ws (sB (((List.set (entry 7 [D.ref 0, D.int n]) 3 (some (D.lst (List.map D.int c)))).set 4 (some (D.int a))).set 5 (some (D.int e))) (m.put 0 (penA c (a + 1) l)))
        (fun _ m1 => Q .non m1) Q noS noS (fun K fs _ m1 => XX K fs m1) := by
      intro e
      have hp1 : (m.put 0 (penA c (a + 1) l)).ob 0 = some (penA c (a + 1) l) := put_ob _ _ _
      unfold sB
      (repeat' (first | (with_reducible first | refine w_seq ?_ | refine w_if ?_ | refine v_op ?_ | refine v_cb ?_ | refine a_nil ?_ | refine a_cons ?_ | refine t_t ?_ | refine t_and ?_ | refine ex_bl ?_ | refine q_lt ?_ | refine q_lenL ?_) | (with_reducible refine v_vx ?_; refine ex_v rfl ?_) | fail))
      have rest : ws (sC ((((List.set (entry 7 [D.ref 0, D.int n]) 3 (some (D.lst (List.map D.int c)))).set 4 (some (D.int a))).set 5 (some (D.int e)))) (m.put 0 (penA c (a + 1) l)))
          (fun _ m1 => Q .non m1) Q noS noS (fun K fs _ m1 => XX K fs m1) := by
        have at31 : a < 2 ^ 31 := by omega
        unfold sC
        (repeat' (first | (with_reducible first | refine w_seq ?_ | refine w_set ?_ | refine v_c ?_ | refine v_op ?_) | (with_reducible refine v_vx ?_; refine ex_v rfl ?_) | (with_reducible refine i_mod (by decide) ?_) | fail))
        refine i_mul (by decide) (by omega) ?_
        (repeat' (first | (with_reducible first | refine v_c ?_ | refine q_add ?_) | fail))
        have b1 := Int.emod_nonneg e (b := 2147483587) (by decide)
        have b2 := Int.emod_lt_of_pos e (b := 2147483587) (by decide)
        refine i_pow (by decide) (by decide) (by omega) ?_
        (repeat' (first | (with_reducible first | refine w_seq ?_ | refine w_set ?_ | refine v_c ?_ | refine v_op ?_) | (with_reducible refine v_vx ?_; refine ex_v rfl ?_) | (with_reducible refine i_mod (by decide) ?_) | fail))
        generalize hX : (e % 2147483587 + 50021 * a + 29) ^ Int.toNat 5 = x
        skip
        have c1 := Int.emod_nonneg x (b := 2147483629) (by decide)
        have c2 := Int.emod_lt_of_pos x (b := 2147483629) (by decide)
        generalize x % 2147483629 = y at c1 c2 ⊢
        refine i_mul (by decide) (by omega) ?_
        (repeat' (first | (with_reducible first | refine v_c ?_ | refine q_add ?_) | fail))
        have yb : y * (2 * a + 5) ≤ 2147483629 * (2 * a + 5) := Int.mul_le_mul_of_nonneg_right (by omega) (by omega)
        have yc : 0 ≤ y * (2 * a + 5) := Int.mul_nonneg c1 (by omega)
        refine i_mul (by omega) (by omega) ?_
        (repeat' (first | (with_reducible first | refine v_c ?_ | refine q_add ?_) | fail))
        refine i_pow (by decide) (by decide) (by omega) ?_
        (repeat' (first | (with_reducible first | refine w_ret ?_ | refine v_c ?_ | refine v_op ?_) | (with_reducible refine v_vx ?_; refine ex_v rfl ?_) | (with_reducible refine i_mod (by decide) ?_) | (with_reducible refine i_div (by decide) (by decide) ?_) | fail))
        generalize (y * (2 * a + 5) + 81799) ^ Int.toNat 3 = z
        skip
        refine i_mod hn ?_
        have q := p.put (c := c) (a := a + 1) (l := l) (t + 1) h1 (by omega) (by omega) h4
        exact k _ _ q.1 q.2 (Int.emod_nonneg _ (by omega)) (Int.emod_lt_of_pos _ hn)
      refine pick_d (fun h5 => ?_) (fun h5 => ?_)
      · (repeat' (first | (with_reducible first | refine v_c ?_ | refine v_op ?_ | refine v_cb ?_ | refine a_nil ?_ | refine a_cons ?_ | refine t_t ?_ | refine ex_bl ?_ | refine q_ge ?_ | refine q_abs ?_) | (with_reducible refine v_vx ?_; refine ex_v rfl ?_) | (with_reducible refine i_pow (by decide) (by decide) (by decide) ?_) | fail))
        refine pick_d (fun h6 => ?_) (fun h6 => ?_)
        · (repeat' (first | (with_reducible first | refine w_seq ?_ | refine w_dput ?_ | refine v_op ?_ | refine v_cb ?_ | refine a_nil ?_ | refine a_cons ?_ | refine q_abs ?_) | (with_reducible refine v_vx ?_; refine ex_v rfl ?_) | fail))
          refine i_div hn hl ?_
          (repeat' (first | (with_reducible first | refine v_c ?_) | (with_reducible refine v_vx ?_; refine ex_v rfl ?_) | fail))
          refine putA_left hp1 ?_
          (repeat' (first | (with_reducible first | refine w_ret ?_ | refine v_op ?_ | refine v_cb ?_ | refine a_nil ?_ | refine a_cons ?_ | refine q_abs ?_) | (with_reducible refine v_vx ?_; refine ex_v rfl ?_) | fail))
          refine i_mod hn ?_
          rw [put_put]
          have q := p.put (c := c) (a := a + 1) (l := (e.natAbs : Int) / n) (t + 1) h1 (by omega) (by omega) (Int.ediv_nonneg (by omega) (Int.le_of_lt hn))
          exact k _ _ q.1 q.2 (Int.emod_nonneg _ (by omega)) (Int.emod_lt_of_pos _ hn)
        · refine w_skip ?_
          exact rest
      · refine pick_f rfl ?_
        refine w_skip ?_
        exact rest
    refine pick_b (fun hc => ?_) (fun hc => ?_)
    · (repeat' (first | (with_reducible first | refine w_set ?_ | refine v_op ?_ | refine v_cb ?_ | refine a_nil ?_ | refine a_cons ?_ | refine q_lenL ?_) | (with_reducible refine v_vx ?_; refine ex_v rfl ?_) | fail))
      have hl : c ≠ [] := by
        rintro rfl
        simp only [List.map_nil, deq, deqs, Bool.not_true, Bool.false_eq_true] at hc
      have hl : 0 < c.length := List.length_pos_iff.mpr hl
      rw [List.length_map]
      refine i_mod (by omega) ?_
      have d1 := Int.emod_nonneg a (b := (c.length : Int)) (by omega)
      have d2 := Int.emod_lt_of_pos a (b := (c.length : Int)) (by omega)
      refine q_ixL ?_
      obtain ⟨j, hj⟩ := Int.eq_ofNat_of_zero_le d1
      rw [hj] at d2 ⊢
      have hj2 : j < c.length := by omega
      refine ex_o (z := .int c[j]) (atI_nat (by rw [List.getElem?_map, List.getElem?_eq_getElem hj2]; rfl)) ?_
      exact fin _
    · refine w_skip ?_
      exact fin _
/-- drawn, told from where one began -/
theorem w_drawC {t : Nat} {n : Int} {m0 m : Mem} {Q : D → Mem → Prop} {XX : XQ} (p : PM t m) (c : Ch m0 m) (ht : t < 2 ^ 31) (hn : 0 < n) (hl : n.natAbs.log2 < 9000)
    (k : ∀ d m', PM (t + 1) m' → Ch m0 m' → 0 ≤ d → d < n → Q (.int d) m') : wp (body 2 7 mA_draw [.ref 0, .int n] m) Q XX :=
  w_draw p ht hn hl fun d m' p' c' h0 h1 => k d m' p' (c.trans c') h0 h1
/-- from a promise, told from where one began -/
theorem wp_from {α : Type} {r : Res α} {t : Nat} {m0 m : Mem} {P : α → Prop} {Q : α → Mem → Prop} {XX : XQ} (h : wp r (fun v m' => PM t m' ∧ Ch m m' ∧ P v) noX) (c : Ch m0 m) (k : ∀ v m', PM t m' → Ch m0 m' → P v → Q v m') : wp r Q XX :=
  wp_imp h fun v m' ⟨p, c', hv⟩ => k v m' p (c.trans c') hv
theorem pm_new {c : List Int} (h : c.length ≤ 63) : PM 0 (mem0.add (penA c 0 0)) :=
  ⟨⟨c, 0, 0, rfl, h, by decide, by decide, by decide⟩, fun j hj => by
    have hj : 1 ≤ j := hj
    show (if j = 0 then _ else none) = none
    rw [if_neg (by omega)]⟩
theorem cut_len {α : Type} (xs : List α) (n : Nat) : (Ev.cutD xs none (some (n : Int))).length ≤ n := by
  unfold Ev.cutD
  rw [HT.sIx_nat, HT.sIx_none, List.length_take]
  omega
theorem chars_mem {z : Str} {d : D} (h : d ∈ chars z) : ∃ c ∈ z.cps.toList, d = .str ⟨#[c]⟩ := by
  unfold chars at h
  obtain ⟨c, hc, e⟩ := List.mem_map.mp h
  exact ⟨c, hc, e.symm⟩
theorem q_ixSt {z : Str} {i : Int} {m : Mem} {Q : D → Mem → Prop} {XX : XQ} (hz : z.length ≤ sizeLine) (h0 : 0 ≤ i) (h1 : i < z.length) (k : ∀ c, c ∈ z.cps.toList → Q (.str ⟨#[c]⟩) m) : wp (Res.of (opIx (.str z) (.int i) m) m) Q XX := by
  obtain ⟨j, rfl⟩ := Int.eq_ofNat_of_zero_le h0
  have hj : j < z.cps.toList.length := by
    rw [Array.length_toList]
    have : z.length = z.cps.size := rfl
    omega
  refine wp_of (a := .str ⟨#[z.cps.toList[j]]⟩) ?_ (k _ (List.getElem_mem hj))
  show (if z.length ≤ sizeLine then (atI z.cps.toList (j : Int)).map _ else none) = _
  rw [if_pos hz, atI_nat (List.getElem?_eq_getElem hj)]
  rfl
end Ev

set_option Elab.async false
set_option linter.all false
set_option maxRecDepth 100000
set_option autoImplicit false
/-! Ev15: backwards through methods, enumerate and more built-ins. -/
namespace Ev
open PySem PySem.Spec PyProof.Rows L2
section
variable {Q : D → Mem → Prop} {QA : List D → Mem → Prop} {XX : XQ} {s : Slots} {m : Mem} {a b c : ME} {ar : MA} {x y : D} {i j : Int}
theorem v_mm {t : Mem → D → Bool} {f : OM} (h : wp (a s m) (fun x m1 => t m1 x = true ∧ wp (ar s m1) (fun ys m2 => wp (Res.of (f x ys m2) m2) Q XX) XX) XX) : wp (mM t f a ar s m) Q XX :=
  wp_bind (wp_mono h (fun _ _ z => by rw [if_pos z.1]; exact wp_bind z.2) fun _ _ _ z => z)
theorem v_mm0 {t : Mem → D → Bool} {f : OM} (h : wp (a s m) (fun x m1 => t m1 x = true ∧ wp (Res.of (f x [] m1) m1) Q XX) XX) : wp (mM0 t f a s m) Q XX :=
  wp_bind (wp_mono h (fun _ _ z => by rw [if_pos z.1]; exact z.2) fun _ _ _ z => z)
theorem one_arg {QA : List D → Mem → Prop} (h : wp (b s m) (fun y m2 => QA [y] m2) XX) : wp (mCons b mNil s m) QA XX := a_cons (wp_mono h (fun _ _ z => a_nil z) fun _ _ _ z => z)
theorem v_m_count1 (h : wp (a s m) (fun x m1 => hasL m1 x = true ∧ wp (b s m1) (fun y m2 => wp (Res.of (opCount x [y] m2) m2) Q XX) XX) XX) : wp (mM_count1 a b s m) Q XX :=
  v_mm (wp_mono h (fun _ _ z => ⟨z.1, one_arg z.2⟩) fun _ _ _ z => z)
theorem v_m_split1 (h : wp (a s m) (fun x m1 => hasS m1 x = true ∧ wp (b s m1) (fun y m2 => wp (Res.of (opSplit x [y] m2) m2) Q XX) XX) XX) : wp (mM_split1 a b s m) Q XX :=
  v_mm (wp_mono h (fun _ _ z => ⟨z.1, one_arg z.2⟩) fun _ _ _ z => z)
theorem v_m_join1 (h : wp (a s m) (fun x m1 => hasS m1 x = true ∧ wp (b s m1) (fun y m2 => wp (Res.of (opJoin x [y] m2) m2) Q XX) XX) XX) : wp (mM_join1 a b s m) Q XX :=
  v_mm (wp_mono h (fun _ _ z => ⟨z.1, one_arg z.2⟩) fun _ _ _ z => z)
theorem v_m_upper0 (h : wp (a s m) (fun x m1 => hasS m1 x = true ∧ wp (Res.of (opUpper x [] m1) m1) Q XX) XX) : wp (mM_upper0 a s m) Q XX := v_mm0 h
theorem ok_hasS {z : Str} {P : Prop} (h : P) : hasS m (.str z) = true ∧ P := ⟨rfl, h⟩
theorem ok_hasL {ds : List D} {P : Prop} (h : P) : hasL m (.lst ds) = true ∧ P := ⟨rfl, h⟩
theorem i_enum (h : wp (a s m) (fun d m1 => wp (Res.of (enumOf d m1) m1) QA XX) XX) : wp (mEnum a s m) QA XX := wp_bind h
theorem q_enT {ds : List D} (h : QA (numb 0 ds) m) : wp (Res.of (enumOf (.tup ds) m) m) QA XX := h
theorem q_enL {ds : List D} (h : QA (numb 0 ds) m) : wp (Res.of (enumOf (.lst ds) m) m) QA XX := h
theorem q_count {ds : List D} (h1 : plDs ds = true) (h2 : plD y = true) (h3 : dpDs ds ≤ 64) (h4 : dpD y ≤ 64) (h : Q (.int ((ds.countP fun z => deq z y : Nat) : Int)) m) : wp (Res.of (opCount (.lst ds) [y] m) m) Q XX := by
  refine wp_of (a := .int ((ds.countP fun z => deq z y : Nat) : Int)) ?_ h
  show (if _ then _ else none) = _
  rw [if_pos ⟨h1, h2, h3, h4⟩]
theorem q_all {bs : List Bool} (h : Q (.bl (bs.all id)) m) : wp (Res.of (opAll [.lst (bs.map D.bl)] m) m) Q XX := by
  refine wp_of (a := .bl (bs.all id)) ?_ h
  show ((some (bs.map D.bl)).bind blsOf).map _ = _
  rw [Option.bind_some, bls_of]; rfl
theorem q_any {bs : List Bool} (h : Q (.bl (bs.any id)) m) : wp (Res.of (opAny [.lst (bs.map D.bl)] m) m) Q XX := by
  refine wp_of (a := .bl (bs.any id)) ?_ h
  show ((some (bs.map D.bl)).bind blsOf).map _ = _
  rw [Option.bind_some, bls_of]; rfl
theorem q_sum {bs : List Int} (h : Q (.int bs.sum) m) : wp (Res.of (opSum [.lst (bs.map D.int)] m) m) Q XX := by
  refine wp_of (a := .int bs.sum) ?_ h
  show ((some (bs.map D.int)).bind intsOf).map _ = _
  rw [Option.bind_some, intsOf_of]; rfl
theorem q_split {z t : Str} (h1 : (t.length == 0) = false) (h2 : z.length + 2 ≤ sizeLine) (h : Q (.lst ((Txt.split z t).map D.str)) m) : wp (Res.of (opSplit (.str z) [.str t] m) m) Q XX := wp_of (if_pos ⟨h1, h2⟩) h
theorem q_joinL {z : Str} {ts : List Str} (hl : (ts.map (·.length)).sum + ts.length * z.length ≤ 16777216) (h : Q (.str (Txt.join z ts)) m) : wp (Res.of (opJoin (.str z) [.lst (ts.map D.str)] m) m) Q XX := by
  refine wp_of (a := .str (Txt.join z ts)) ?_ h
  show (strsOf (ts.map D.str)).bind _ = _
  rw [strsOf_of, Option.bind_some, if_pos hl]
theorem v_newAdd (h : wp (a s m) (fun x m1 => wp (b s m1) (fun y m2 => ∃ ds es, lstOf x m2 = some ds ∧ lstOf y m2 = some es ∧ ds.length + es.length ≤ sizeLine ∧ Q (.ref m2.nx) (m2.add (.lst (ds ++ es)))) XX) XX) : wp (mNewAdd a b s m) Q XX :=
  wp_bind (wp_mono h (fun x m1 z => wp_bind (wp_mono z (fun y m2 z => by
    obtain ⟨ds, es, e1, e2, l, z⟩ := z
    rw [e1, e2]
    dsimp only
    rw [if_pos l]
    exact z) fun _ _ _ z => z)) fun _ _ _ z => z)
theorem v_newList (h : wp (a s m) (fun x m1 => ∃ ds, seqOf x m1 = some ds ∧ Q (.ref m1.nx) (m1.add (.lst ds))) XX) : wp (mNewList a s m) Q XX :=
  wp_bind (wp_mono h (fun x m1 z => by
    obtain ⟨ds, e1, z⟩ := z
    rw [e1]
    exact z) fun _ _ _ z => z)
def lputP (x y v : D) (m : Mem) (P : Mem → Prop) : Prop := ∃ j ds i n, x = .ref j ∧ y = .int i ∧ m.ob j = some (.lst ds) ∧ ixN ds.length i = some n ∧ P (m.put j (.lst (ds.set n v)))
theorem w_lput {N : Slots → Mem → Prop} {R : D → Mem → Prop} {B C : Slots → Mem → Prop} {X : XS} (h : wp (c s m) (fun v m1 => wp (a s m1) (fun x m2 => wp (b s m2) (fun y m3 => lputP x y v m3 fun m4 => N s m4) (fun K fs m1 => X K fs s m1)) (fun K fs m1 => X K fs s m1)) (fun K fs m1 => X K fs s m1)) : ws (mLPut a b c s m) N R B C X := by
  unfold mLPut
  refine w_then (wp_mono h (fun v m1 h => w_then (wp_mono h (fun x m2 h => w_then (wp_mono h (fun y m3 h => ?_) fun _ _ _ z => z)) fun _ _ _ z => z)) fun _ _ _ z => z)
  obtain ⟨j, ds, i, n, rfl, rfl, e1, e2, h⟩ := h
  dsimp only
  rw [e1]; dsimp only; rw [e2]; exact h
end
/-! memories -/
theorem PM.addO {t : Nat} {m : Mem} (h : PM t m) (o : Ob) : PM t (m.add o) := by
  have hn := h.nx
  obtain ⟨⟨c, a, l, e, h1⟩, w⟩ := h
  refine ⟨⟨c, a, l, ?_, h1⟩, fun j hj => ?_⟩
  · show (if 0 = m.nx then _ else m.ob 0) = _
    rw [if_neg (by omega)]; exact e
  · have hj : m.nx + 1 ≤ j := hj
    show (if j = m.nx then _ else m.ob j) = _
    rw [if_neg (by omega)]; exact w j (by omega)
theorem PM.putO {t : Nat} {m : Mem} (h : PM t m) {i : Nat} (hi : i ≠ 0) (hl : i < m.nx) (o : Ob) : PM t (m.put i o) := by
  obtain ⟨⟨c, a, l, e, h1⟩, w⟩ := h
  refine ⟨⟨c, a, l, ?_, h1⟩, fun j hj => ?_⟩
  · show (if 0 = i then _ else m.ob 0) = _
    rw [if_neg (by omega)]; exact e
  · have hj : m.nx ≤ j := hj
    show (if j = i then _ else m.ob j) = _
    rw [if_neg (by omega)]; exact w j hj
theorem PM.killO {t : Nat} {m : Mem} (h : PM t m) {i : Nat} (hi : i ≠ 0) : PM t (m.kill i) := by
  obtain ⟨⟨c, a, l, e, h1⟩, w⟩ := h
  refine ⟨⟨c, a, l, ?_, h1⟩, fun j hj => ?_⟩
  · show (if 0 = i then _ else m.ob 0) = _
    rw [if_neg (by omega)]; exact e
  · have hj : m.nx ≤ j := hj
    show (if j = i then _ else m.ob j) = _
    split
    · rfl
    · exact w j hj
theorem Ch.addO {m0 m : Mem} (h : Ch m0 m) (o : Ob) : Ch m0 (m.add o) :=
  ⟨Nat.le_succ_of_le h.nx, fun j hj hl => by
    have := h.nx
    show (if j = m.nx then _ else m.ob j) = _
    rw [if_neg (by omega)]; exact h.ob j hj hl⟩
theorem Ch.putO {m0 m : Mem} (h : Ch m0 m) {i : Nat} (hi : m0.nx ≤ i) (o : Ob) : Ch m0 (m.put i o) :=
  ⟨h.nx, fun j hj hl => by
    show (if j = i then _ else m.ob j) = _
    rw [if_neg (by omega)]; exact h.ob j hj hl⟩
theorem Ch.killO {m0 m : Mem} (h : Ch m0 m) {i : Nat} (hi : m0.nx ≤ i) : Ch m0 (m.kill i) :=
  ⟨h.nx, fun j hj hl => by
    show (if j = i then _ else m.ob j) = _
    rw [if_neg (by omega)]; exact h.ob j hj hl⟩
theorem add_ob (m : Mem) (o : Ob) : (m.add o).ob m.nx = some o := if_pos rfl
theorem ob_lt {t : Nat} {m : Mem} (h : PM t m) {j : Nat} {o : Ob} (e : m.ob j = some o) : j < m.nx := by
  rcases Nat.lt_or_ge j m.nx with z | z
  · exact z
  · rw [h.wf j z] at e; cases e
section
variable {Q : D → Mem → Prop} {XX : XQ} {m : Mem} {x y : D} {j : Nat} {ds : List D}
theorem q_lenR (e : m.ob j = some (.lst ds)) (h : Q (.int ds.length) m) : wp (Res.of (opLen [.ref j] m) m) Q XX := by
  refine wp_of (a := .int ds.length) ?_ h
  unfold opLen
  dsimp only
  rw [view_ref, e]; rfl
theorem q_tupR (e : m.ob j = some (.lst ds)) (h : Q (.tup ds) m) : wp (Res.of (opTuple [.ref j] m) m) Q XX := by
  refine wp_of (a := .tup ds) ?_ h
  unfold opTuple
  dsimp only
  rw [view_ref, e]; rfl
theorem q_inR (e : m.ob j = some (.lst ds)) (hx : Pl x) (hy : Pl (.lst ds)) (h : Q (.bl (din x ds)) m) : wp (Res.of (opIn x (.ref j) m) m) Q XX := by
  refine wp_of (a := .bl (din x ds)) ?_ h
  have e2 := pyIn_lst (m := m) hx hy
  unfold opIn
  have e3 : pyIn x (.ref j) m = pyIn x (.lst ds) m := by
    unfold pyIn
    rw [view_ref, e]; rfl
  rw [e3, e2]; rfl
theorem q_inL (hx : Pl x) (hy : Pl (.lst ds)) (h : Q (.bl (din x ds)) m) : wp (Res.of (opIn x (.lst ds) m) m) Q XX := by
  refine wp_of (a := .bl (din x ds)) ?_ h
  unfold opIn
  rw [pyIn_lst hx hy]; rfl
theorem isL_ref (e : m.ob j = some (.lst ds)) : isL m (.ref j) = true := by
  unfold isL
  dsimp only
  rw [e]
end
theorem upto_cons (lo : Int) (n : Nat) : upto lo (n + 1) = .int lo :: upto (lo + 1) n := by
  unfold upto
  rw [List.range_succ_eq_map, List.map_cons, List.map_map]
  congr 1
  · simp
  · apply List.map_congr_left
    intro i _
    simp only [Function.comp]
    congr 1
    omega
theorem upto_inv {lo : Int} {n : Nat} {d : D} {ds : List D} (h : d :: ds = upto lo n) : ∃ k, n = k + 1 ∧ d = .int lo ∧ ds = upto (lo + 1) k := by
  cases n with
  | zero => unfold upto at h; simp at h
  | succ k =>
    rw [upto_cons] at h
    obtain ⟨h1, h2⟩ := List.cons.inj h
    exact ⟨k, rfl, h1, h2⟩
theorem upto_nil {lo : Int} {n : Nat} (h : [] = upto lo n) : n = 0 := by
  cases n with
  | zero => rfl
  | succ k => rw [upto_cons] at h; cases h
section
variable {Q : D → Mem → Prop} {XX : XQ} {m : Mem} {x y : D} {j : Nat} {ds es : List D}
theorem q_ltT {ns ms : List Int} (h : Q (.bl (HT.lexLt ns ms)) m) : wp (Res.of (opLtT (.tup (ns.map D.int)) (.tup (ms.map D.int)) m) m) Q XX := by
  refine wp_of (a := .bl (HT.lexLt ns ms)) ?_ h
  show (match intsOf (ns.map D.int), intsOf (ms.map D.int) with | some ns, some ms => some (D.bl (HT.lexLt ns ms)) | _, _ => none) = _
  rw [intsOf_of, intsOf_of]
theorem v_ext (e : m.ob j = some (.lst ds)) (hv : view m y = .lst es) (hl : ds.length + es.length ≤ sizeLine) (h : Q .non (m.put j (.lst (ds ++ es)))) : wp (extD (.ref j) y m) Q XX := by
  unfold extD
  dsimp only
  rw [e]
  dsimp only
  rw [hv]
  dsimp only
  rw [if_pos hl]; exact h
theorem q_reprR (e : m.ob j = some (.lst ds)) (hs : Sh (.lst ds)) (h : Q (.str (shD (.lst ds))) m) : wp (Res.of (opRepr [.ref j] m) m) Q XX := by
  refine wp_of (a := .str (shD (.lst ds))) ?_ h
  have z := opRepr_sh (m := m) hs
  unfold opRepr at z ⊢
  dsimp only at z ⊢
  rw [view_ref, e]
  exact z
theorem q_ixR {i : Int} (e : m.ob j = some (.lst ds)) (h : oP (atI ds i) Q m) : wp (Res.of (opIx (.ref j) (.int i) m) m) Q XX := by
  obtain ⟨z, h1, h⟩ := h
  refine wp_of (a := z) ?_ h
  unfold opIx
  rw [view_ref, e]
  exact h1
theorem view_lstR (e : m.ob j = some (.lst ds)) : view m (.ref j) = .lst ds := by rw [view_ref, e]; rfl
end
end Ev

set_option Elab.async false
set_option linter.all false
set_option maxRecDepth 100000
set_option autoImplicit false
/-! Ev17: range with a step. -/
namespace Ev
open PySem PySem.Spec PyProof.Rows L2
def stp (lo c : Int) (n : Nat) : List D := (List.range n).map fun (i : Nat) => .int (lo + (i : Nat) * c)
/-- the bounds are small, and so many are walked -/
@[irreducible] def rgOk (i j c : Int) (n : Nat) : Bool := decide (c ≠ 0) && decide (c.natAbs < 1073741824) && Builtin.Range.small i j c && decide (Builtin.Range.rangeSize i j c = (n : Int))
theorem rgOk_of {i j c : Int} {n : Nat} (h : rgOk i j c n = true) : RgC i j c n := by
  unfold rgOk at h
  simp only [Bool.and_eq_true, decide_eq_true_eq] at h
  exact ⟨h.1.1.1, h.1.1.2, h.1.2, h.2⟩
theorem it_stp {T : Ct} {io : Nat → Addr} {F : Addr → Prop} {m : Mem} {H : Hp} {lo c : Int} {n : Nat} : ItOk T io F m H (stp lo c n) (Itc lo c n) := by
  have hl : (stp lo c n).length = n := by unfold stp; rw [List.length_map, List.length_range]
  refine ⟨fun i io' F' m' H' E S' hi => by rw [hl] at hi; exact hi, fun i io' F' m' H' E S' hi => by rw [hl] at hi; exact Nat.le_of_eq hi.symm, fun i io' F' m' H' x H'' d E S' e y => ?_⟩
  obtain ⟨rfl, rfl⟩ := y
  refine ⟨io', F', Ext.refl S', S', ?_⟩
  have hi : i < n := by
    rw [← hl]
    exact (List.getElem?_eq_some_iff.mp e).1
  unfold stp at e
  rw [List.getElem?_map, List.getElem?_range hi] at e
  cases e
  simp only [RelD]
def rng3 (ds : List D) : Option (List D) := match ds with
  | [.int i, .int j, .int c] => if rgOk i j c (Builtin.Range.rangeSize i j c).toNat = true then some (stp i c (Builtin.Range.rangeSize i j c).toNat) else none
  | _ => none
section
variable {X : Cx} {k : Nat} {W : WT} {a b c e : Expr} {cA : MA} {p pos : Pos} {tg : Expr}
theorem three_rel {K : PySem.W.Frag} {io : Nat → Addr} {F : Addr → Prop} {n : Nat} {H : Hp} {d e f : D} {xs : List V} (r : RelDs K io F n H [d, e, f] xs) : ∃ v u w, xs = [v, u, w] ∧ RelD K io F n H d v ∧ RelD K io F n H e u ∧ RelD K io F n H f w := by
  cases xs with
  | nil => simp only [RelDs] at r
  | cons v vs =>
    simp only [RelDs] at r
    obtain ⟨u, w, rfl, h1, h2⟩ := two_rel (d := e) (e := f) (xs := vs) r.2
    exact ⟨v, u, w, rfl, r.1, h1, h2⟩
theorem d_range3 (hg : Gl X "range") (hm : X.mg "range" = none) (ha : PA X [a, b, c] (tA (ctOf X) W cA)) (hs : starEach [a, b, c] X.env = (false, eval a X.env) :: starEach [b, c] X.env := by rfl) (hpl : (backTo pos (starEach [b, c] X.env)).any (·.1) = false := by rfl) :
    DIt X W tg (.Call (.Name "range" p) [a, b, c] [] pos) (mRange rng3 cA) := by
  refine ⟨_, pi_range3 hg hm ha hs hpl, fun σ H R io F m sd S rs h => ?_⟩
  unfold mRange at h
  refine ⟨io, F, m, sd, S, rs, ?_⟩
  cases q : cA sd m with
  | bad => rw [q] at h; exact h.elim
  | exc C fs m1 => rw [q] at h; exact h
  | ok ds m1 =>
    rw [q] at h
    simp only [Res.bind_ok] at h
    intro io' F' H' v E S' r
    cases e : rng3 ds with
    | none => rw [e] at h; exact h.elim
    | some ys =>
      rw [e] at h
      unfold rng3 at e
      split at e
      · rename_i i j c
        split at e
        · rename_i hj
          cases e
          obtain ⟨w, u, z, rfl, rw_, ru, rz⟩ := three_rel r
          simp only [RelD] at rw_ ru rz
          subst rw_ ru rz
          exact ⟨i, j, c, _, rfl, rgOk_of hj, h io' F' H' _ E S' it_stp⟩
        · cases e
      · cases e
end
theorem stp_cons (lo c : Int) (n : Nat) : stp lo c (n + 1) = .int lo :: stp (lo + c) c n := by
  unfold stp
  rw [List.range_succ_eq_map, List.map_cons, List.map_map]
  congr 1
  · simp
  · apply List.map_congr_left
    intro i _
    simp only [Function.comp]
    congr 1
    push_cast
    rw [Int.add_mul, Int.one_mul]
    omega
/-- range(0, n, 2) of an even n -/
theorem i_rng3 {h : Nat} {m : Mem} {QA : List D → Mem → Prop} {XX : XQ} (hn : h < 2 ^ 40) (hq : QA (stp 0 2 h) m) : wp (Res.of (rng3 [.int 0, .int ((2 * h : Nat) : Int), .int 2]) m) QA XX := by
  have size : Builtin.Range.rangeSize 0 ((2 * h : Nat) : Int) 2 = (h : Int) := by
    unfold Builtin.Range.rangeSize
    rw [if_pos (by decide)]
    split
    · omega
    · omega
  have ok : rgOk 0 ((2 * h : Nat) : Int) 2 h = true := by
    unfold rgOk
    rw [Bool.and_eq_true, Bool.and_eq_true, Bool.and_eq_true]
    refine ⟨⟨⟨by decide, by decide⟩, ?_⟩, decide_eq_true size⟩
    have fits : ∀ k : Int, -(2 ^ 63) ≤ k → k < 2 ^ 63 → Builtin.Range.rangeFitsLong k = true := fun k h1 h2 => by
      unfold Builtin.Range.rangeFitsLong
      rw [Bool.and_eq_true]
      exact ⟨decide_eq_true h1, decide_eq_true h2⟩
    unfold Builtin.Range.small
    rw [size, fits 0 (by decide) (by decide), fits _ (by omega) (by omega), fits 2 (by decide) (by decide), fits _ (by omega) (by omega)]
    rw [Bool.true_and, Bool.true_and, Bool.true_and, Bool.true_and, Bool.or_eq_true, if_pos (by decide)]
    exact .inr (fits _ (by omega) (by omega))
  refine wp_of (a := stp 0 2 h) ?_ hq
  show (if rgOk 0 ((2 * h : Nat) : Int) 2 (Builtin.Range.rangeSize 0 ((2 * h : Nat) : Int) 2).toNat = true then some (stp 0 2 (Builtin.Range.rangeSize 0 ((2 * h : Nat) : Int) 2).toNat) else none) = _
  rw [size]
  rw [if_pos (show rgOk 0 ((2 * h : Nat) : Int) 2 ((h : Int)).toNat = true by rw [Int.toNat_natCast]; exact ok), Int.toNat_natCast]
end Ev

set_option Elab.async false
set_option linter.all false
set_option maxRecDepth 100000
set_option autoImplicit false
/-! Ev18: a row turned about. -/
namespace Ev
open PySem PySem.Spec PyProof.Rows L2
theorem fm_same {α β : Type} {f g : α → Option β} : ∀ {l : List α}, (∀ a ∈ l, f a = g a) → l.filterMap f = l.filterMap g
  | [], _ => rfl
  | a :: l, h => by
    rw [List.filterMap_cons, List.filterMap_cons, h a (List.mem_cons_self ..), fm_same fun b hb => h b (List.mem_cons_of_mem _ hb)]
theorem pickTurn (xs : Array Value) : ((List.range xs.size).filterMap fun (m : Nat) => xs[(((xs.size : Int) - 1) + (m : Int) * -1).toNat]?).toArray = xs.toList.reverse.toArray := by
  have turned := PySem.W.krv_pick xs
  unfold slicePick at turned
  rw [PySem.W.krv_bounds] at turned
  refine Eq.trans ?_ turned
  show _ = ((sliceRange ((xs.size : Int) - 1) (-1) (-1)).filterMap (xs[·]?)).toArray
  rw [PySem.W.krv_sliceRange, List.filterMap_map]
  congr 1
  refine fm_same fun m hm => ?_
  have below := List.mem_range.mp hm
  show _ = xs[xs.size - 1 - m]?
  rw [show (((xs.size : Int) - 1) + (m : Int) * -1).toNat = xs.size - 1 - m by omega]
section
variable {prog : Program} {w : World} {A : Around} {E : Value → Shared → Prop} {s : Shared}
theorem applied_turn {sl : Addr} {vs : Value} {n : Nat} {Q : Int × Int × Nat → Shared → Prop} (hs : s.heap.IsSliceOf sl .none .none vs) (ps : IsPart vs (some (-1)))
    (h : Q ((n : Int) - 1, -1, n) s) : wpAny (model prog w) A (Builtin.Slice.sliceApplied (.ref sl) (pure (n : Int))) Q E s := by
  obtain ⟨os, hos, hcs, hds⟩ := id hs
  unfold Builtin.Slice.sliceApplied Builtin.Slice.sliceFields
  refine wpAny_bind (wpAny_bind (wpAny_field hos hds (x := .none) rfl (wpAny_bind (wpAny_field hos hds (x := .none) rfl (wpAny_bind (wpAny_field hos hds (x := vs) rfl (wpAny_pure ?_)))))))
  refine wpAny_bind (HT.slicePart_ ps ?_)
  show wpAny _ _ (if ((-1 : Int) == 0) = true then _ else _) _ _ s
  rw [if_neg (by decide)]
  refine wpAny_bind (HT.slicePart_ .none (wpAny_bind (HT.slicePart_ .none (wpAny_bind (wpAny_pure ?_)))))
  show wpAny _ _ (pure ((n : Int) - 1, (-1 : Int), Builtin.Slice.slicePlaces ((n : Int) - 1) (-1) (-1))) _ _ s
  rw [show Builtin.Slice.slicePlaces ((n : Int) - 1) (-1) (-1) = n by
    unfold Builtin.Slice.slicePlaces
    rw [if_neg (by decide)]
    split
    · rw [show (- -1 : Int) = 1 by decide, Int.ediv_one]; omega
    · omega]
  exact wpAny_pure h
theorem item_turn {t sl : Addr} {items : Array Value} {vs : Value} {Q : Value → Shared → Prop} (ht : IsTup s.heap t items) (hs : s.heap.IsSliceOf sl .none .none vs) (ps : IsPart vs (some (-1)))
    (h : Q (.ref s.heap.objs.size) { s with heap := s.heap.push { cls := .type "tuple", data := .seq items.toList.reverse.toArray } })
    (hsz : items.size ≤ sizeLine) : wpAny (model prog w) A (getItem (.ref t) (.ref sl)) Q E s := by
  have fits : sizeOk (.seq items.toList.reverse.toArray) := by
    show items.toList.reverse.toArray.size ≤ sizeLine
    rw [List.size_toArray, List.length_reverse, Array.length_toList]; exact hsz
  obtain ⟨os, hos, hcs, hds⟩ := id hs
  have typed : s.TypeIs (.ref sl) "slice" := ⟨os, hos, hcs⟩
  unfold getItem
  try with_reducible refine wpAny_holding ?_
  first | refine wpAny_bind (wpAny_pure ?_) | skip
  refine wpAny_bind (wpAny_sequenceKey ht.typeIs (by decide) ?_)
  refine wpAny_bind (wpAny_callSpecial?_slot (name := Str.ofString "__getitem__") ht.typeIs slot_tuple_getitem (wpAny_call_entry slot_tuple_getitem ht.typeIs entry_tuple_getitem ?_ (args_tuple_getitem _ _)))
  show wpAny _ _ (Builtin.Tuple.tupleItemsOf (.ref t) >>= _) _ _ s
  refine wpAny_bind (tupleItemsOf_ ht ?_)
  refine wpAny_bind (wpAny_typeOf typed ?_)
  rw [if_pos (by decide)]
  refine wpAny_bind (applied_turn hs ps ?_)
  have other : ¬ ((((items.size : Int) - 1) == 0 && (-1 : Int) == 1 && items.size == items.size) = true) := by
    intro q
    rw [Bool.and_eq_true, Bool.and_eq_true] at q
    exact absurd q.1.2 (by decide)
  show wpAny _ _ (if (((items.size : Int) - 1) == 0 && (-1 : Int) == 1 && items.size == items.size) = true then _ else _) _ _ s
  rw [if_neg other, pickTurn]
  first
    | exact wpAny_bind (m := Builtin.Tuple.tupleExact _) (wpAny_newObj_type (wpAny_pure ⟨_, rfl, wpAny_pure h⟩) fits)
    | exact wpAny_bind (m := Builtin.Tuple.tupleExact _) (wpAny_newObj_type (wpAny_bind (wpAny_pure (wpAny_pure ⟨_, rfl, wpAny_pure h⟩))) fits)
    | exact wpAny_bind (wpAny_bind (m := Builtin.Tuple.tupleExact _) (wpAny_newObj_type (wpAny_pure (wpAny_pure ⟨_, rfl, wpAny_pure h⟩)) fits))
    | exact wpAny_bind (wpAny_bind (m := Builtin.Tuple.tupleExact _) (wpAny_newObj_type (wpAny_pure ⟨_, rfl, wpAny_pure h⟩) fits))
end
def opRevSl : O1 := fun x m => match view m x with
  | .tup ds => some (.tup ds.reverse)
  | .lst ds => some (.lst ds.reverse)
  | _ => none
theorem rev_rel {K : PySem.W.Frag} {io : Nat → Addr} {F : Addr → Prop} {n : Nat} {H : Hp} : ∀ {ds : List D} {vs : List V}, RelDs K io F n H ds vs → RelDs K io F n H ds.reverse vs.reverse
  | [], [], _ => by simp only [List.reverse_nil, RelDs]
  | [], _ :: _, r => by simp only [RelDs] at r
  | _ :: _, [], r => by simp only [RelDs] at r
  | d :: ds, v :: vs, r => by
    simp only [RelDs] at r
    rw [List.reverse_cons, List.reverse_cons]
    exact RelDs.app (rev_rel r.2) (by simp only [RelDs]; exact ⟨r.1, trivial⟩)
section
variable {X : Cx} {W : WT} {a : Expr} {ca : ME} {pos p1 p2 p3 : Pos} {k : Nat}
theorem d_revsl (ha : PE X a (tE (ctOf X) W ca)) : PE X (.Subscript a (.Slice none none (some (.UnaryOp .USub (.Constant (.int 1) k p1) p2)) p3) pos) (tE (ctOf X) W (mO1 opRevSl ca)) := by
  refine ⟨fun pins s σ H Q I h => ?_⟩
  refine Subscript_ (thn (ha.run pins s σ H _ I (tO1_of h)) fun v s1 ⟨x, H1, I1, r1, q1⟩ => ?_)
  obtain ⟨io, F, m, d, S, r, z, hz, kk⟩ := q1
  have turn : PO X (some (.UnaryOp .USub (.Constant (.int 1) k p1) p2)) (tPart (tUn (rU fun i => .int (-i)) (tC (.int 1)))) := po_some (pe_un un_neg pe_int)
  refine wpAny_Slice (thn (po_none.run pins s1 σ H1 (fun o H2 => o = none ∧ H2 = H1) I1 ⟨rfl, rfl⟩) fun vl s2 ⟨l, H2, I2, pl, el, e2⟩ => ?_)
  subst el e2
  refine thn (po_none.run pins s2 σ H2 (fun o H3 => o = none ∧ H3 = H2) I2 ⟨rfl, rfl⟩) fun vu s3 ⟨u, H3, I3, pu, eu, e3⟩ => ?_
  subst eu e3
  refine thn (turn.run pins s3 σ H3 (fun o H4 => o = some (-1) ∧ H4 = H3) I3 ⟨1, rfl, -1, rfl, rfl, rfl⟩) fun vs s4 ⟨o, H4, I4, ps, eo, e4⟩ => ?_
  subst eo e4
  cases pl
  cases pu
  have I5 : Inv X pins σ H4 { s4 with heap := s4.heap.push { cls := .type "slice", data := .fields #[.none, .none, vs] } } := I4.kept (t' := s4.toks) fun b ob q => Heap.get?_push_of_some _ q
  unfold opRevSl at hz
  split at hz
  · rename_i t e1
    cases hz
    obtain ⟨a', xs, rfl, tt, q⟩ := is_tup r e1
    cases r1
    obtain ⟨its, rr, ht, hsz⟩ := I5.tuple tt.sq
    refine tail_any (ops := [.ref a', .ref s4.heap.objs.size]) ht.typeIs (slot_tuple_getitem.lookup) ?_ (by with_unfolding_all rfl)
    refine item_turn ht (Heap.IsSliceOf.new _ .none .none vs) ps ?_ (by rw [List.size_toArray, ← rr.length]; exact hsz)
    refine ⟨.ref _, _, I5.laid (t' := s4.toks) (o := .tup xs.reverse) (fun b ob q => Heap.get?_push_of_some _ q) (Nat.le_refl _) ?_, rfl, kk.newT S (I5.hok.fresh (Nat.le_refl _)) (rev_rel q)⟩
    exact ⟨by rw [List.length_reverse]; exact hsz, _, rr.reverse, IsTup.new _ _⟩
  · rename_i t e1
    cases hz
    obtain ⟨a', xs, rfl, tt, q⟩ := at_lst S r e1
    cases r1
    obtain ⟨its, rr, ht, hsz⟩ := I5.list (.inl (.inl tt))
    refine tail_any (ops := [.ref a', .ref s4.heap.objs.size]) ht.isList.typeIs (PySem.slot_list_getitem.lookup) ?_ (by with_unfolding_all rfl)
    refine wpAny_getItem_list_slice ht.isList (Heap.IsSliceOf.new _ .none .none vs) .none .none ps (by decide) ?_ (by rw [List.size_toArray, ← rr.length]; exact hsz)
    rw [PySem.W.krv_pick]
    refine ⟨.ref _, _, I5.laid (t' := s4.toks) (o := .lst xs.reverse) (fun b ob q => Heap.get?_push_of_some _ q) (Nat.le_refl _) ?_, rfl, kk.newL S (I5.hok.fresh (Nat.le_refl _)) (rev_rel q)⟩
    exact ⟨by rw [List.length_reverse]; exact hsz, _, 0, rr.reverse, Heap.get?_push_size _ rfl⟩
  · cases hz
end
/-- what was just told stays as it is from now on -/
def frzV (d : D) (m : Mem) : Res D := match d with
  | .ref j => (match m.ob j with
    | some (.lst ds) => .ok (.lst ds) (m.kill j)
    | some (.dk ks ds) => .ok (.dk ks ds) (m.kill j)
    | some (.dt ks ds) => .ok (.dt ks ds) (m.kill j)
    | _ => .bad)
  | _ => .bad
def mFrzE (a : ME) : ME := fun s m => (a s m).bind frzV
section
variable {X : Cx} {W : WT} {a : Expr} {ca : ME}
theorem d_frzE (ha : PE X a (tE (ctOf X) W ca)) : PE X a (tE (ctOf X) W (mFrzE ca)) := by
  refine pe_imp ha fun σ H Q h => ?_
  refine (tG.bind (R := RD (ctOf X)) (c := ca) (k := fun d s m1 => frzV d m1) h).imp fun x H1 h2 => ?_
  obtain ⟨io, F, m, sd, d, S, rs, r, p⟩ := h2
  cases d with
  | ref j =>
    simp only [RelD] at r
    obtain ⟨hj, rfl⟩ := r
    unfold frzV at p
    simp only at p
    cases q2 : m.ob j with
    | none => rw [q2] at p; exact p.elim
    | some u =>
      rw [q2] at p
      cases u with
      | lst ds =>
        obtain ⟨S', E⟩ := S.frz q2
        obtain ⟨xs, h1, h2⟩ := S.ob j _ q2
        refine p io _ H1 _ E S' ?_
        simp only [RelD]
        exact ⟨io j, xs, rfl, .inr rfl, h1, h2.mono (S.mono E)⟩
      | dk ks ds =>
        obtain ⟨S', E⟩ := S.frz q2
        obtain ⟨kvs, h1, h2, h3⟩ := S.ob j _ q2
        refine p io _ H1 _ E S' ?_
        simp only [RelD]
        exact ⟨io j, kvs, rfl, .inr rfl, .inl h1, h2, h3.mono (S.mono E)⟩
      | dt ks ds =>
        obtain ⟨S', E⟩ := S.frz q2
        obtain ⟨kvs, h1, h2, h3⟩ := S.ob j _ q2
        refine p io _ H1 _ E S' ?_
        simp only [RelD]
        exact ⟨io j, kvs, rfl, .inr rfl, .inl h1, h2, h3.mono (S.mono E)⟩
      | ins _ _ => exact p.elim
  | _ => exact p.elim
end
section
variable {Q : D → Mem → Prop} {XX : XQ} {m : Mem} {ds : List D} {s : Slots} {a : ME} {j : Nat}
theorem v_frzE (h : wp (a s m) (fun d m1 => wp (frzV d m1) Q XX) XX) : wp (mFrzE a s m) Q XX := wp_bind h
theorem q_frz (e : m.ob j = some (.lst ds)) (h : Q (.lst ds) (m.kill j)) : wp (frzV (.ref j) m) Q XX := by
  unfold frzV
  dsimp only
  rw [e]
  exact h
end
section
variable {Q : D → Mem → Prop} {XX : XQ} {m : Mem} {ds : List D} {s : Slots} {a : ME} {j : Nat}
theorem q_revT (h : Q (.tup ds.reverse) m) : wp (Res.of (opRevSl (.tup ds) m) m) Q XX := wp_of rfl h
theorem q_revL (h : Q (.lst ds.reverse) m) : wp (Res.of (opRevSl (.lst ds) m) m) Q XX := wp_of rfl h
theorem q_revR (e : m.ob j = some (.lst ds)) (h : Q (.lst ds.reverse) m) : wp (Res.of (opRevSl (.ref j) m) m) Q XX := by
  refine wp_of (a := .lst ds.reverse) ?_ h
  unfold opRevSl
  rw [view_ref, e]
  rfl
end
end Ev

set_option Elab.async false
set_option linter.all false
set_option maxRecDepth 100000
set_option autoImplicit false
/-! Ev19: dict(..) of a list of pairs. -/
namespace Ev
open PySem PySem.Spec PyProof.Rows L2
/-- pairs, the later ones win -/
def mergeV {κ : Type} [DecidableEq κ] (kvs more : List (κ × V)) : List (κ × V) := more.foldl (fun acc kv => putK acc kv.1 kv.2) kvs
def mergeG {κ : Type} [DecidableEq κ] (kvs more : List (κ × D)) : List (κ × D) := more.foldl (fun acc kv => putD acc kv.1 kv.2) kvs
theorem mergeV_len {κ : Type} [DecidableEq κ] : ∀ (more kvs : List (κ × V)), (mergeV kvs more).length ≤ kvs.length + more.length
  | [], kvs => Nat.le_refl _
  | p :: more, kvs => by
    have h1 := mergeV_len more (putK kvs p.1 p.2)
    have h2 := length_putK kvs p.1 p.2
    show (mergeV (putK kvs p.1 p.2) more).length ≤ _
    rw [List.length_cons]
    omega
theorem RelE.mergeG {κ : Type} [DecidableEq κ] {K : PySem.W.Frag} {io : Nat → Addr} {F : Addr → Prop} {n : Nat} {H : Hp} : ∀ {ps : List (κ × D)} {qs : List (κ × V)} {ds : List (κ × D)} {vs : List (κ × V)}, RelE K io F n H ps qs → RelE K io F n H ds vs → RelE K io F n H (Ev.mergeG ds ps) (mergeV vs qs)
  | [], [], _, _, _, h => h
  | [], _ :: _, _, _, h, _ => by simp only [RelE] at h
  | _ :: _, [], _, _, h, _ => by simp only [RelE] at h
  | p :: ps, q :: qs, ds, vs, h, k => by
    simp only [RelE] at h
    have e := h.1.1
    obtain ⟨p1, p2⟩ := p
    obtain ⟨q1, q2⟩ := q
    simp only at e
    subst e
    exact RelE.mergeG (ds := putD ds p1 p2) (vs := putK vs p1 q2) h.2 (k.put h.1.2)
theorem KT.merge {H : Hp} : ∀ {more : List (List Key × V)} {rs : List (List Key × Addr × Value)} {kvs : List (List Key × V)} {xs : List (List Key × Addr × Value)}, KT H more rs → KT H kvs xs → KT H (mergeV kvs more) (storedAllH xs rs)
  | _, _, _, _, .nil, h => h
  | _, _, kvs, xs, .cons (a := p) (b := q) h t, k => by
    obtain ⟨p1, p2⟩ := p
    obtain ⟨q1, q2, q3⟩ := q
    obtain ⟨e, h1, h2⟩ := h
    simp only at e h1 h2
    subst e
    exact KT.merge (kvs := putK kvs p1 p2) (xs := storedH xs p1 q2 q3) t (k.put p1 h1 h2)
section
variable {X : Cx}
/-- how a list of pairs with tuples as keys stands -/
theorem pairsT_of {pins : List (Addr × Obj)} {σ : L2.St} {H : Hp} {s : Shared} (I : Inv X pins σ H s) : ∀ {ps : List Addr} {kvs : List (List Key × V)}, Paired (fun p kv => ∃ b, SqT X.K H p [.ref b, kv.2] ∧ H b = some (.tup (kv.1.map kV))) ps kvs →
    ∃ rs : List (List Key × Addr × Value), KT H kvs rs ∧ rs.length = ps.length ∧ ∀ (j : Nat) (q : List Key × Addr × Value), rs[j]? = some q → ∃ p : Addr, ps[j]? = some p ∧ IsTup s.heap p #[.ref q.2.1, q.2.2] ∧ (tupleKind (mixKind X.prog X.w)).is s.heap q.1 q.2.1
  | _, _, .nil => ⟨[], .nil, rfl, fun j q e => by simp at e⟩
  | _, _, .cons (a := p) (b := kv) h t => by
    obtain ⟨rs, r, hl, hp⟩ := pairsT_of I t
    obtain ⟨b, h1, h2⟩ := h
    obtain ⟨its, rv, ht, _⟩ := I.tuple h1
    obtain ⟨u, y, ei, ru, ry⟩ := vals2 rv
    subst ei
    cases ru
    refine ⟨(kv.1, b, y) :: rs, .cons ⟨rfl, h2, ry⟩ r, by rw [List.length_cons, List.length_cons, hl], fun j q e => ?_⟩
    cases j with
    | zero =>
      have e' : (kv.1, b, y) = q := Option.some.inj e
      subst e'
      exact ⟨p, rfl, ht, key_of I.hok h2⟩
    | succ j =>
      obtain ⟨p', e1, e2, e3⟩ := hp j q (by simpa using e)
      exact ⟨p', by simpa using e1, e2, e3⟩
theorem call_dictT (hcalm : X.calm = true) (hu : X.A.units + 65 < cLine) : CallR X (.type "dict") (fun xs H Q => ∃ (a : Addr) (ps : List Addr) (kvs : List (List Key × V)), xs = [.ref a] ∧ SqL X.K H a (ps.map V.ref) ∧ Paired (fun p kv => ∃ b, SqT X.K H p [.ref b, kv.2] ∧ H b = some (.tup (kv.1.map kV))) ps kvs ∧
    ∀ p, H p = none → Q (.ref p) (upd H p (.dT (mergeV [] kvs)))) := by
  intro pins s σ H xs us Q I r q
  obtain ⟨a, ps, kvs, ex, hq, hp, q⟩ := q
  subst ex
  obtain ⟨u, eu, rx⟩ := vals1 r
  subst eu
  cases rx
  obtain ⟨its, rv, pl, hz⟩ := I.list hq
  have ei := refs_at rv
  subst ei
  rw [List.length_map] at hz
  obtain ⟨rs, rel, hl, hpr⟩ := pairsT_of I hp
  obtain ⟨o, n, ho, hc, hd, hdat⟩ := pl
  have P := PySem.PairArg.list (prog := X.prog) (w := X.w) a (ps.map Value.ref).toArray (fun j => ps.getD j 0) (rs.map fun q => (Value.ref q.2.1, q.2.2))
  refine PySem.call_dict_pairsH (knd := tupleKind (mixKind X.prog X.w)) (ps := rs) P (I.ok.hd hcalm) (show X.A.in1.in1.units < cLine by show X.A.units + 1 + 1 < cLine; omega) ?_ ?_ ?_ ?_ ?_
  · refine ⟨⟨o, n, ho, hc, hd, hdat⟩, by simp [hl], fun j k v e => ?_⟩
    rw [List.getElem?_map] at e
    cases e0 : rs[j]? with
    | none => rw [e0] at e; cases e
    | some q0 =>
      rw [e0] at e
      cases e
      obtain ⟨p, e1, ⟨ob, w1, w2, w3, w4⟩, e3⟩ := hpr j q0 e0
      have eg : ps.getD j 0 = p := by rw [List.getD_eq_getElem?_getD, e1]; rfl
      refine ⟨by simp [e1, eg], .inl ?_⟩
      show Heap.IsTuple s.heap (ps.getD j 0) _
      rw [eg]
      exact ⟨ob, w1, w2, w3, w4⟩
  · refine ⟨by rw [List.length_map], fun i key v e => ?_⟩
    have e : (rs.map fun q => (Value.ref q.2.1, q.2.2))[i]? = some (key, v) := e
    rw [List.getElem?_map] at e
    cases e0 : rs[i]? with
    | none => rw [e0] at e; cases e
    | some q0 => rw [e0] at e; cases e; exact ⟨q0.1, q0.2.1, rfl, rfl⟩
  · intro h' hk x hx
    obtain ⟨j, hj⟩ := List.mem_iff_getElem?.mp hx
    obtain ⟨p, e1, e2, e3⟩ := hpr j x hj
    obtain ⟨ob, its2, n2, w1, w2, w3, w4⟩ := e3
    exact ⟨ob, its2, n2, hk _ _ (Nat.ne_of_lt (Heap.lt_size w1)) (by simp) w1, w2, w3, w4⟩
  · rw [List.length_map, hl]; exact hz
  · intro h' tk hd' k
    have hm : (s.heap.objs.size == sysModules) = false := beq_eq_false_iff_ne.mpr (Nat.ne_of_gt I.big)
    have hlen : (mergeV [] kvs).length ≤ sizeLine := by
      refine Nat.le_trans (mergeV_len kvs []) ?_
      rw [List.length_nil, Nat.zero_add, Paired.length rel, hl]
      exact hz
    obtain ⟨ob, es, ep, w1, w2, w3, w4, _, w5⟩ := hd'
    refine ⟨.ref s.heap.objs.size, upd H s.heap.objs.size (.dT (mergeV [] kvs)), I.laid (t' := tk) (fun b o e => k b o (by simp) e) (Nat.le_refl _) ⟨hlen, hm, _, (KT.merge rel .nil).keeps fun c ys ec => ?_, ob, es, ep, w1, w2, w3, w4, w5⟩, rfl, q _ (I.hok.fresh (Nat.le_refl _))⟩
    rw [upd_ne (ne_of_none ec (I.hok.fresh (Nat.le_refl _)))]
    exact ec
end
end Ev
namespace Ev
open PySem PySem.Spec PyProof.Rows L2
/-- pairs with tuples of whole numbers ahead; with numbers or texts ahead -/
def pairsT : List D → Option (List (List Key × D))
  | [] => some []
  | .tup [.tup es, v] :: ds => (match ikeysOf es, pairsT ds with
    | some k, some r => some ((k, v) :: r)
    | _, _ => none)
  | _ => none
def pairsK : List D → Option (List (Key × D))
  | [] => some []
  | .tup [k, v] :: ds => (match keyOf k, pairsK ds with
    | some k, some r => some ((k, v) :: r)
    | _, _ => none)
  | _ => none
def opDict : OL := fun l m => match l with
  | [x] => (match view m x with
    | .lst ds => (match pairsT ds with
      | some ps => some (.dt ((mergeG [] ps).map (·.1)) ((mergeG [] ps).map (·.2)))
      | none => (match pairsK ds with
        | some ps => some (.dk ((mergeG [] ps).map (·.1)) ((mergeG [] ps).map (·.2)))
        | none => none))
    | _ => none)
  | _ => none
section
variable {K : PySem.W.Frag} {io : Nat → Addr} {F : Addr → Prop} {n : Nat} {H : Hp}
theorem ikey_at {es : List D} {k : List Key} {b : Addr} {xs : List V} (e : ikeysOf es = some k) (t : TupF K F H b xs) (q : RelDs K io F n H es xs) : H b = some (.tup (k.map kV)) := by
  have ey := keysOf_rel q (ikeys_keys e)
  subst ey
  rcases t with ⟨_, t⟩ | ⟨t, z, r, e1⟩
  · exact t
  · cases es with
    | nil => simp only [ikeysOf, Option.some.injEq] at e; subst e; cases e1
    | cons d es =>
      cases d with
      | int i =>
        simp only [ikeysOf, Option.map_eq_some_iff] at e
        obtain ⟨r', _, rfl⟩ := e
        cases e1
      | _ => simp only [ikeysOf] at e; cases e
theorem pairsT_rel : ∀ {ds : List D} {xs : List V} {ps : List (List Key × D)}, RelDs K io F n H ds xs → pairsT ds = some ps →
    ∃ (as : List Addr) (kvs : List (List Key × V)), xs = as.map V.ref ∧ Paired (fun p kv => ∃ b, SqT K H p [.ref b, kv.2] ∧ H b = some (.tup (kv.1.map kV))) as kvs ∧ RelE K io F n H ps kvs
  | [], [], ps, _, e => by
    simp only [pairsT, Option.some.injEq] at e
    subst e
    exact ⟨[], [], rfl, .nil, by simp only [RelE]⟩
  | [], _ :: _, _, r, _ => by simp only [RelDs] at r
  | _ :: _, [], _, r, _ => by simp only [RelDs] at r
  | d :: ds, x :: xs, ps, r, e => by
    simp only [RelDs] at r
    unfold pairsT at e
    split at e
    · rename_i heq; cases heq
    · rename_i es v ds' heq
      cases heq
      split at e
      · rename_i k r0 e1 e2
        cases e
        obtain ⟨as, kvs, rfl, hp, hr⟩ := pairsT_rel r.2 e2
        obtain ⟨r1, _⟩ := r
        simp only [RelD] at r1
        obtain ⟨p, ys, rfl, tp, rp⟩ := r1
        obtain ⟨y1, y2, rfl, h1, h2⟩ := two_rel rp
        simp only [RelD] at h1
        obtain ⟨b, zs, rfl, tb, rb⟩ := h1
        refine ⟨p :: as, (k, y2) :: kvs, rfl, .cons ⟨b, tp.sq, ikey_at e1 tb rb⟩ hp, ?_⟩
        simp only [RelE]
        exact ⟨⟨trivial, h2⟩, hr⟩
      · cases e
    · cases e
theorem pairsK_rel : ∀ {ds : List D} {xs : List V} {ps : List (Key × D)}, RelDs K io F n H ds xs → pairsK ds = some ps →
    ∃ (as : List Addr) (kvs : List (Key × V)), xs = as.map V.ref ∧ Paired (fun p kv => SqT K H p [kV kv.1, kv.2]) as kvs ∧ RelE K io F n H ps kvs
  | [], [], ps, _, e => by
    simp only [pairsK, Option.some.injEq] at e
    subst e
    exact ⟨[], [], rfl, .nil, by simp only [RelE]⟩
  | [], _ :: _, _, r, _ => by simp only [RelDs] at r
  | _ :: _, [], _, r, _ => by simp only [RelDs] at r
  | d :: ds, x :: xs, ps, r, e => by
    simp only [RelDs] at r
    unfold pairsK at e
    split at e
    · rename_i heq; cases heq
    · rename_i es v ds' heq
      cases heq
      split at e
      · rename_i k r0 e1 e2
        cases e
        obtain ⟨as, kvs, rfl, hp, hr⟩ := pairsK_rel r.2 e2
        obtain ⟨r1, _⟩ := r
        simp only [RelD] at r1
        obtain ⟨p, ys, rfl, tp, rp⟩ := r1
        obtain ⟨y1, y2, rfl, h1, h2⟩ := two_rel rp
        have hk := keyOf_rel h1 e1
        subst hk
        refine ⟨p :: as, (k, y2) :: kvs, rfl, .cons tp.sq hp, ?_⟩
        simp only [RelE]
        exact ⟨⟨trivial, h2⟩, hr⟩
      · cases e
    · cases e
end
theorem Then.newDT {T : Ct} {io : Nat → Addr} {F : Addr → Prop} {m : Mem} {H : Hp} {ks : List (List Key)} {ds : List D} {kvs : List (List Key × V)} {Q : VK} (k : Then T io F m H (.dt ks ds) Q) (S : Sim T io F m H) {p : Addr} (hp : H p = none) (hk : kvs.map (·.1) = ks) (r : RelDs T.K io F m.nx H ds (kvs.map (·.2))) : Q (.ref p) (upd H p (.dT kvs)) :=
  k.new S hp (by
    simp only [RelD]
    exact ⟨p, kvs, rfl, .inr rfl, .inl upd_same, hk, r.mono (S.mono (Ext.addF S hp))⟩)
section
variable {X : Cx} {k : Nat} {W : WT}
theorem c_dict (hh : Here k W X) : CallR X (.type "dict") (rC (ctOf X) opDict) := by
  intro pins s σ H xs us Q I rx h
  obtain ⟨io, F, m, ds, S, r, z, hz, kk⟩ := h
  unfold opDict at hz
  split at hz
  · obtain ⟨v, rfl, rv⟩ := one_rel r
    split at hz
    · rename_i t e1
      obtain ⟨a, xs, rfl, tt, q⟩ := at_lst S rv e1
      split at hz
      · rename_i ps e2
        cases hz
        obtain ⟨as, kvs, rfl, hp, hr⟩ := pairsT_rel q e2
        have hs := (RelE.mergeG hr (ds := []) (vs := []) (by simp only [RelE])).split
        exact call_dictT hh.calm hh.hu pins s σ H _ us Q I rx ⟨a, as, kvs, rfl, .inl (.inl tt), hp, fun p hp => kk.newDT S hp hs.1 hs.2⟩
      · split at hz
        · rename_i ps e2
          cases hz
          obtain ⟨as, kvs, rfl, hp, hr⟩ := pairsK_rel q e2
          have hs := (RelE.mergeG hr (ds := []) (vs := []) (by simp only [RelE])).split
          exact call_dictP hh.calm pins s σ H _ us Q I rx ⟨a, as, kvs, rfl, .inl (.inl tt), hp, fun p hp => kk.newK S hp hs.1 hs.2⟩
        · cases hz
    · cases hz
  · cases hz
end
end Ev

set_option Elab.async false
set_option linter.all false
set_option maxRecDepth 100000
set_option autoImplicit false
/-! Ev20: numbers as texts. -/
namespace Ev
open PySem PySem.Spec PyProof.Rows L2 PySem.NumText
def digs (n : Nat) : List Nat := (Nat.toDigits 10 n).map Char.toNat
def numS (i : Int) : Str := Str.ofString (toString i)
theorem numS_nat (n : Nat) : (numS (n : Int)).cps.toList = digs n := PySem.W.KIN.signs_num n
theorem numS_neg (n : Nat) : (numS (Int.negSucc n)).cps.toList = 45 :: digs (n + 1) := by
  unfold numS digs
  rw [signs_ofString]
  show (("-" : String) ++ Nat.repr (n + 1)).toList.map Char.toNat = _
  rw [String.toList_append, List.map_append, Nat.toList_repr]
  rfl
theorem digs_all (n : Nat) : AllDigits (digs n) := by
  intro c hc
  obtain ⟨ch, hch, e⟩ := List.mem_map.mp hc
  have r := digit_range (Nat.isDigit_of_mem_toDigits (by decide) (by decide) hch)
  rw [← e]
  exact r
theorem digs_small {n : Nat} (h : n < 10) : digs n = [48 + n] := by
  unfold digs
  rw [Nat.toDigits_of_lt_base h]
  have : ∀ d : Nat, d < 10 → (Nat.digitChar d).toNat = 48 + d := by decide
  rw [List.map_cons, this n h]; rfl
theorem digs_rec {n : Nat} (h : 10 ≤ n) : digs n = digs (n / 10) ++ [48 + n % 10] := by
  have hm : n % 10 < 10 := Nat.mod_lt n (by decide)
  have t : Nat.toDigits 10 (n / 10) ++ Nat.toDigits 10 (n % 10) = Nat.toDigits 10 (10 * (n / 10) + n % 10) := Nat.toDigits_append_toDigits (by decide) (by omega) hm
  rw [Nat.div_add_mod] at t
  rw [← digs_small hm]
  unfold digs
  rw [← t, List.map_append]
theorem digs_len : ∀ (k n : Nat), n < 10 ^ (k + 1) → (digs n).length ≤ k + 1
  | 0, n, h => by rw [digs_small (by simpa using h)]; exact Nat.le_refl _
  | k + 1, n, h => by
    by_cases h10 : n < 10
    · rw [digs_small h10]; simp
    · rw [digs_rec (by omega), List.length_append]
      have := digs_len k (n / 10) (by rw [Nat.pow_succ] at h; omega)
      simp only [List.length_cons, List.length_nil]
      omega
theorem digs_head : ∀ (n : Nat), n ≠ 0 → ∃ c cs, digs n = c :: cs ∧ 49 ≤ c ∧ c ≤ 57 := by
  intro n
  induction n using Nat.strongRecOn with
  | _ n ih =>
    intro h
    by_cases h10 : n < 10
    · exact ⟨48 + n, [], digs_small h10, by omega, by omega⟩
    · obtain ⟨c, cs, e, h1, h2⟩ := ih (n / 10) (by omega) (by omega)
      exact ⟨c, cs ++ [48 + n % 10], by rw [digs_rec (by omega), e]; rfl, h1, h2⟩
theorem digs_ne (n : Nat) : digs n ≠ [] := by
  by_cases h : n = 0
  · subst h; rw [digs_small (by decide)]; simp
  · obtain ⟨c, cs, e, _⟩ := digs_head n h
    rw [e]; simp
theorem digs_val (n : Nat) : digitsVal (digs n) = n := PySem.W.KIN.val_back n
theorem str_len (s : Str) : s.length = s.cps.toList.length := Array.length_toList.symm
theorem numS_len {i : Int} (h : i.natAbs < 10 ^ 30) : (numS i).length ≤ 31 := by
  rw [str_len]
  cases i with
  | ofNat n =>
    have e := numS_nat n
    simp only [Int.ofNat_eq_natCast] at *
    rw [e]
    have := digs_len 29 n (by omega)
    omega
  | negSucc n =>
    rw [numS_neg, List.length_cons]
    have := digs_len 29 (n + 1) (by omega)
    omega
theorem numS_back {i : Int} (h : i.natAbs < 10 ^ 30) : intText? (numS i) = some i := by
  have hl := numS_len h
  cases i with
  | ofNat n =>
    have e := numS_nat n
    simp only [Int.ofNat_eq_natCast] at *
    have := intText_digits (x := numS (n : Int)) (by rw [e]; exact digs_all n) (by rw [e]; exact digs_ne n) (by omega)
    rw [this, e, digs_val]
  | negSucc n =>
    have := intText_neg (numS_neg n) (digs_all _) (digs_ne _) (by omega)
    rw [this, digs_val]
    rfl
theorem str_ext {s t : Str} (h : s.cps.toList = t.cps.toList) : s = t := by
  obtain ⟨a⟩ := s
  obtain ⟨b⟩ := t
  have : a = b := Array.toList_inj.mp h
  rw [this]
theorem numS_inj {i j : Int} (hi : i.natAbs < 10 ^ 30) (hj : j.natAbs < 10 ^ 30) (h : numS i = numS j) : i = j := by
  have a := numS_back hi
  have b := numS_back hj
  rw [h, b] at a
  exact (Option.some.inj a).symm
section
variable {Q : D → Mem → Prop} {XX : XQ} {m : Mem}
theorem q_strI {i : Int} (h : i.natAbs < 10 ^ 30) (k : Q (.str (numS i)) m) : wp (Res.of (opStr [.int i] m) m) Q XX := by
  have l := log2_lt (n := i.natAbs) (k := 149) (Nat.lt_trans h (by decide))
  exact wp_of (if_pos (by omega)) k
theorem q_intS {z : Str} {i : Int} (h : intText? z = some i) (hl : z.length ≤ 640) (k : Q (.int i) m) : wp (Res.of (opInt1 [.str z] m) m) Q XX := by
  refine wp_of (a := .int i) ?_ k
  show (if z.length ≤ 640 then (intText? z).map D.int else none) = _
  rw [if_pos hl, h]; rfl
end
theorem cutS_drop (z : Str) (k : Nat) : (cutS z (some (k : Int)) none).cps.toList = z.cps.toList.drop k := by
  unfold cutS
  rw [HT.sIx_nat, HT.sIx_none, str_len]
  by_cases h : k ≤ z.cps.toList.length
  · rw [Nat.min_eq_left h, List.take_of_length_le (by rw [List.length_drop]; exact Nat.le_refl _)]
  · rw [Nat.min_eq_right (by omega), List.drop_eq_nil_of_le (Nat.le_refl _), List.drop_eq_nil_of_le (by omega), List.take_nil]
theorem cutS_take (z : Str) (k : Nat) : (cutS z none (some (k : Int))).cps.toList = z.cps.toList.take k := by
  unfold cutS
  rw [HT.sIx_nat, HT.sIx_none, str_len, List.drop_zero, Nat.sub_zero]
  by_cases h : k ≤ z.cps.toList.length
  · rw [Nat.min_eq_left h]
  · rw [Nat.min_eq_right (by omega), List.take_of_length_le (Nat.le_refl _), List.take_of_length_le (by omega)]
theorem q_slS {z : Str} {lo hi : Option Int} {m : Mem} {Q : D → Mem → Prop} {XX : XQ} (hl : z.length ≤ sizeLine) (k : Q (.str (cutS z lo hi)) m) : wp (Res.of (opSl (.str z) lo hi m) m) Q XX := wp_of (if_pos hl) k
theorem q_ixS {z : Str} {j c : Nat} {m : Mem} {Q : D → Mem → Prop} {XX : XQ} (hl : z.length ≤ sizeLine) (h : z.cps.toList[j]? = some c) (k : Q (.str ⟨#[c]⟩) m) : wp (Res.of (opIx (.str z) (.int (j : Nat)) m) m) Q XX := by
  refine wp_of (a := .str ⟨#[c]⟩) ?_ k
  show (if z.length ≤ sizeLine then (atI z.cps.toList (j : Nat)).map fun c => D.str ⟨#[c]⟩ else none) = _
  rw [if_pos hl, atI_nat h]; rfl
theorem q_lenS {z : Str} {m : Mem} {Q : D → Mem → Prop} {XX : XQ} (hl : z.length ≤ sizeLine) (k : Q (.int (z.length : Nat)) m) : wp (Res.of (opLen [.str z] m) m) Q XX := wp_of (if_pos hl) k
/-- a sign of a text in a text -/
def inS (t : Str) (c : Nat) : Bool := !(Builtin.Str.occurrences t ⟨#[c]⟩ 0 t.length 1).isEmpty
theorem q_inS {t : Str} {c : Nat} {m : Mem} {Q : D → Mem → Prop} {XX : XQ} (k : Q (.bl (inS t c)) m) : wp (Res.of (opIn (.str ⟨#[c]⟩) (.str t) m) m) Q XX := k
theorem v_mapE {α : Type} {as : As} {t : MT} {e : ME} {s : Slots} {xs : List α} {g f : α → D} {m : Mem} {QA : List D → Mem → Prop} {XX : XQ}
    (h : ∀ x ∈ xs, ∃ s1, as (g x) s = some s1 ∧ wp (t s1 m) (fun c m1 => c = true ∧ m1 = m) noX ∧ wp (e s1 m) (fun v m1 => m1 = m ∧ v = f x) noX) (hl : xs.length ≤ sizeLine) (k : QA (xs.map f) m) : wp (loopC as t e s (xs.map g) [] m) QA XX := by
  refine v_loopC (I := fun ds acc m1 => m1 = m ∧ ∃ ys zs : List α, xs = ys ++ zs ∧ ds = zs.map g ∧ acc = ys.map f) ?_ ?_ ?_
  · exact ⟨rfl, [], xs, rfl, rfl, rfl⟩
  · rintro acc m1 ⟨rfl, ys, zs, e1, e2, rfl⟩
    have : zs = [] := List.map_eq_nil_iff.mp e2.symm
    subst this
    rw [List.append_nil] at e1
    subst e1
    exact k
  · rintro d ds acc m1 ⟨rfl, ys, zs, e1, e2, rfl⟩
    cases zs with
    | nil => cases e2
    | cons z zs =>
      obtain ⟨h1, h2⟩ := List.cons.inj e2
      subst h1 h2
      obtain ⟨s1, q1, q2, q3⟩ := h z (by rw [e1]; simp)
      refine ⟨s1, q1, wp_imp q2 ?_⟩
      rintro c m2 ⟨rfl, rfl⟩
      refine pick_t rfl (wp_imp q3 ?_)
      rintro v m3 ⟨rfl, rfl⟩
      have : xs.length = ys.length + (zs.length + 1) := by rw [e1, List.length_append, List.length_cons]
      refine ⟨by rw [List.length_map]; omega, rfl, ys ++ [z], zs, by rw [e1]; simp, rfl, by simp⟩
theorem yesE {s : Slots} {m : Mem} : wp (mYes s m) (fun c m1 => c = true ∧ m1 = m) noX := ⟨rfl, rfl⟩
end Ev

set_option Elab.async false
set_option linter.all false
set_option maxRecDepth 100000
set_option autoImplicit false
/-! Ev21: f-strings. -/
namespace Ev
open PySem PySem.Spec PyProof.Rows L2
section
variable {X : Cx} {W : WT} {e : Expr} {es : List Expr} {pos : Pos} {ca c : ME} {cs : List ME}
def opFmt : O1 := fun x m => match view m x with
  | .str y => if y.length ≤ sizeLine then some (.str y) else none
  | .int i => if i.natAbs.log2 < 1920 then some (.str (Str.ofString (toString i))) else none
  | _ => none
abbrev mFmt (a : ME) : ME := mO1 opFmt a
abbrev mJn : List ME := []
abbrev mJc (c : ME) (cs : List ME) : List ME := c :: cs
def mJs : List ME → Str → Slots → Mem → Res Str
  | [], acc, _, m => .ok acc m
  | c :: cs, acc, s, m => (c s m).bind fun d m1 => (fun (d : D) (s : Slots) (m1 : Mem) => match d with
    | .str y => if (acc ++ y).length ≤ sizeLine then mJs cs (acc ++ y) s m1 else .bad
    | _ => .bad) d s m1
def mJoined (cs : List ME) : ME := fun s m => (mJs cs Str.empty s m).bind fun out m1 => .ok (.str out) m1
def RStr : RelT Str Str := fun _ _ _ _ a b => a = b
theorem d_fs (h : PE X e (tE (ctOf X) W ca)) : PE X e (tE (ctOf X) W ca) := h
theorem d_ff (h : PE X e (tE (ctOf X) W ca)) : PE X (.FormattedValue e (-1) none pos) (tE (ctOf X) W (mFmt ca)) :=
  pe_imp (pe_fmt h) fun σ H Q h => (tO1_of h).imp fun x H1 h2 => by
    obtain ⟨io, F, m, d, S, r, z, hz, k⟩ := h2
    unfold opFmt at hz
    split at hz
    · rename_i y e1
      split at hz
      · rename_i hl
        cases hz
        exact .inl ⟨y, is_str r e1, hl, k.now S (by simp only [RelD])⟩
      · cases hz
    · rename_i i e1
      split at hz
      · rename_i hl
        cases hz
        exact .inr ⟨i, is_int r e1, hl, k.now S (by simp only [RelD])⟩
      · cases hz
    · cases hz
theorem d_jn : PJ X [] (List.map (tE (ctOf X) W) []) := PJ.nil
theorem d_jc (h : PE X e (tE (ctOf X) W c)) (r : PJ X es (cs.map (tE (ctOf X) W))) : PJ X (e :: es) ((mJc c cs).map (tE (ctOf X) W)) := PJ.cons h r
theorem tJs_of {T : Ct} : ∀ (cs : List ME) (acc : Str) {σ : L2.St} {H : Hp} {Q : Str → Hp → Prop}, tG RStr T W (mJs cs acc) σ H Q → tJs (cs.map (tE T W)) acc σ H Q
  | [], acc, σ, H, Q, h => by
    obtain ⟨io, F, m, sd, S, rs, p⟩ := h
    exact p.now S rfl
  | c :: cs, acc, σ, H, Q, h => by
    refine (tG.bind (R := RD T) (c := c) (R' := RStr) h).imp fun v H1 h2 => ?_
    obtain ⟨io, F, m, sd, d, S, rs, r, p⟩ := h2
    cases d <;> dsimp only at p
    case str y =>
      split at p
      · rename_i hl
        have r : RelD T.K io F m.nx H1 (.str y) v := r
        simp only [RelD] at r
        exact ⟨y, r, hl, tJs_of cs (acc ++ y) ⟨io, F, m, sd, S, rs, p⟩⟩
      · exact p.elim
    all_goals exact p.elim
theorem d_joined {v1 v2 : Expr} {rest : List Expr} (h : PJ X (v1 :: v2 :: rest) (cs.map (tE (ctOf X) W))) : PE X (.JoinedStr (v1 :: v2 :: rest) pos) (tE (ctOf X) W (mJoined cs)) :=
  pe_imp (pe_joined h) fun σ H Q h => by
    refine tJs_of cs Str.empty ?_
    refine (tG.bind (R := RStr) (c := mJs cs Str.empty) (R' := RD (ctOf X)) (k := fun out s m1 => .ok (D.str out) m1) h).imp fun out H1 h2 => ?_
    obtain ⟨io, F, m, sd, o, S, rs, r, p⟩ := h2
    have r : o = out := r
    subst r
    exact p.now S (by simp only [RD, RelD])
end
/-! what they tell -/
section
variable {s : Slots} {m : Mem} {Q : D → Mem → Prop} {QS : Str → Mem → Prop} {XX : XQ} {cs : List ME} {c : ME} {acc : Str}
theorem v_joined (h : wp (mJs cs Str.empty s m) (fun out m1 => Q (.str out) m1) XX) : wp (mJoined cs s m) Q XX := by
  unfold mJoined
  cases q : mJs cs Str.empty s m with
  | ok a m1 => rw [q] at h; exact h
  | exc K fs m1 => rw [q] at h; exact h
  | bad => rw [q] at h; exact h
theorem j_nil (h : QS acc m) : wp (mJs [] acc s m) QS XX := h
theorem j_cons (h : wp (c s m) (fun d m1 => ∃ y, d = .str y ∧ (acc ++ y).length ≤ sizeLine ∧ wp (mJs cs (acc ++ y) s m1) QS XX) XX) : wp (mJs (c :: cs) acc s m) QS XX := by
  unfold mJs
  cases q : c s m with
  | ok a m1 =>
    rw [q] at h
    obtain ⟨y, rfl, hl, h⟩ := h
    show wp (if (acc ++ y).length ≤ sizeLine then mJs cs (acc ++ y) s m1 else .bad) QS XX
    rw [if_pos hl]
    exact h
  | exc K fs m1 => rw [q] at h; exact h
  | bad => rw [q] at h; exact h
theorem q_fmtS {y : Str} (hl : y.length ≤ sizeLine) (h : Q (.str y) m) : wp (Res.of (opFmt (.str y) m) m) Q XX := wp_of (if_pos hl) h
theorem q_fmtI {i : Int} (hi : i.natAbs < 10 ^ 30) (h : Q (.str (numS i)) m) : wp (Res.of (opFmt (.int i) m) m) Q XX := by
  have l := log2_lt (n := i.natAbs) (k := 149) (Nat.lt_trans hi (by decide))
  exact wp_of (if_pos (by omega)) h
end
end Ev

set_option Elab.async false
set_option linter.all false
set_option maxRecDepth 100000
set_option autoImplicit false
/-! Ev22: the pen with script, at, great, anywhere. -/
namespace Ev
open PySem PySem.Spec PyProof.Rows L2
def penB (x : D) (a l : Int) : Ob := .dk [.inr "script", .inr "at", .inr "great"] [x, .int a, .int l]
def mB_draw : MS :=
    (mSeq (mIf (mT (mOp opGt (mOp opIx (mV 0) (mC (.str "great"))) (mC (.int 0)))) (mSeq (mSet 2 (mOp opMod (mOp opIx (mV 0) (mC (.str "great"))) (mV 1)))
    (mSeq (mDPut (mV 0) (mC (.str "great")) (mOp opDiv (mOp opIx (mV 0) (mC (.str "great"))) (mV 1)))
    (mRet (mV 2)))) mSkip)
    (mSeq (mSet 3 (mOp opIx (mV 0) (mC (.str "script"))))
    (mSeq (mSet 4 (mOp opIx (mV 0) (mC (.str "at"))))
    (mSeq (mDPut (mV 0) (mC (.str "at")) (mOp opAdd (mV 4) (mC (.int 1))))
    (mSeq (mSet 5 (mOp opAdd (mOp opMul (mC (.int 60169)) (mV 4)) (mC (.int 77))))
    (mSeq (mIf (mT (mOp opNe (mV 3) (mLst mNil))) (mSet 5 (mOp opIx (mV 3) (mOp opMod (mV 4) (mCB opLen (mCons (mV 3) mNil))))) mSkip)
    (mSeq (mIf (mAnd (mT (mOp opLt (mV 4) (mCB opLen (mCons (mV 3) mNil)))) (mT (mOp opGe (mCB opAbs (mCons (mV 5) mNil)) (mOp opPow (mC (.int 10)) (mC (.int 18)))))) (mSeq (mDPut (mV 0) (mC (.str "great")) (mOp opDiv (mCB opAbs (mCons (mV 5) mNil)) (mV 1)))
    (mRet (mOp opMod (mCB opAbs (mCons (mV 5) mNil)) (mV 1)))) mSkip)
    (mSeq (mSet 6 (mOp opMod (mOp opMul (mOp opAdd (mOp opAdd (mOp opMod (mV 5) (mC (.int 2147483563))) (mOp opMul (mC (.int 6151)) (mV 4))) (mC (.int 1))) (mC (.int 40014))) (mC (.int 2147483563))))
    (mSeq (mSet 6 (mOp opMod (mOp opAdd (mOp opAdd (mOp opMul (mV 6) (mV 6)) (mOp opMul (mC (.int 60013)) (mV 6))) (mV 4)) (mC (.int 2147483399))))
    (mSeq (mSet 6 (mOp opMod (mOp opAdd (mOp opAdd (mOp opMul (mV 6) (mV 6)) (mOp opMul (mC (.int 30011)) (mV 6))) (mC (.int 7))) (mC (.int 2147483353))))
    (mRet (mOp opMod (mOp opDiv (mV 6) (mC (.int 32))) (mV 1)))))))))))))
def sCB : MS :=
    (mSeq (mSet 6 (mOp opMod (mOp opMul (mOp opAdd (mOp opAdd (mOp opMod (mV 5) (mC (.int 2147483563))) (mOp opMul (mC (.int 6151)) (mV 4))) (mC (.int 1))) (mC (.int 40014))) (mC (.int 2147483563))))
    (mSeq (mSet 6 (mOp opMod (mOp opAdd (mOp opAdd (mOp opMul (mV 6) (mV 6)) (mOp opMul (mC (.int 60013)) (mV 6))) (mV 4)) (mC (.int 2147483399))))
    (mSeq (mSet 6 (mOp opMod (mOp opAdd (mOp opAdd (mOp opMul (mV 6) (mV 6)) (mOp opMul (mC (.int 30011)) (mV 6))) (mC (.int 7))) (mC (.int 2147483353))))
    (mRet (mOp opMod (mOp opDiv (mV 6) (mC (.int 32))) (mV 1))))))
def sBB : MS :=
    (mSeq (mIf (mAnd (mT (mOp opLt (mV 4) (mCB opLen (mCons (mV 3) mNil)))) (mT (mOp opGe (mCB opAbs (mCons (mV 5) mNil)) (mOp opPow (mC (.int 10)) (mC (.int 18)))))) (mSeq (mDPut (mV 0) (mC (.str "great")) (mOp opDiv (mCB opAbs (mCons (mV 5) mNil)) (mV 1)))
    (mRet (mOp opMod (mCB opAbs (mCons (mV 5) mNil)) (mV 1)))) mSkip)
    sCB)
theorem lookB_great (c a l : D) : look [(.inr "script" : Key), .inr "at", .inr "great"] [c, a, l] (.inr "great") = some l := by
  rw [look_cons, if_neg (by decide), look_cons, if_neg (by decide), look_cons, if_pos rfl]
theorem lookB_at (c a l : D) : look [(.inr "script" : Key), .inr "at", .inr "great"] [c, a, l] (.inr "at") = some a := by
  rw [look_cons, if_neg (by decide), look_cons, if_pos rfl]
theorem lookB_script (c a l : D) : look [(.inr "script" : Key), .inr "at", .inr "great"] [c, a, l] (.inr "script") = some c := by
  rw [look_cons, if_pos rfl]
theorem putB_great (c a l l' : D) : putD ([(.inr "script" : Key), .inr "at", .inr "great"].zip [c, a, l]) (.inr "great") l' = [(.inr "script", c), (.inr "at", a), (.inr "great", l')] := by
  unfold putD
  rw [if_pos (by rw [List.any_eq_true]; exact ⟨(.inr "great", l), by simp [List.zip, List.zipWith], decide_eq_true rfl⟩)]
  show [_, _, _] = _
  dsimp only
  rw [if_neg (by decide), if_neg (by decide), if_pos rfl]
theorem putB_at (c a l a' : D) : putD ([(.inr "script" : Key), .inr "at", .inr "great"].zip [c, a, l]) (.inr "at") a' = [(.inr "script", c), (.inr "at", a'), (.inr "great", l)] := by
  unfold putD
  rw [if_pos (by rw [List.any_eq_true]; exact ⟨(.inr "at", a), by simp [List.zip, List.zipWith], decide_eq_true rfl⟩)]
  show [_, _, _] = _
  dsimp only
  rw [if_neg (by decide), if_pos rfl, if_neg (by decide)]
/-- a script as it came, or a list of its numbers -/
def ScrD (x : D) (c : List Int) : Prop := x = .scr c ∨ x = .lst (c.map D.int)
section
variable {Q : D → Mem → Prop} {XX : XQ} {m : Mem} {x : D} {c : List Int} {a l l' : Int} {J : Nat}
theorem ixB_great (hp : m.ob J = some (penB x a l)) (h : Q (.int l) m) : wp (Res.of (opIx (.ref J) (.str "great") m) m) Q XX := wp_of (ix_dk hp rfl (lookB_great _ _ _)) h
theorem ixB_at (hp : m.ob J = some (penB x a l)) (h : Q (.int a) m) : wp (Res.of (opIx (.ref J) (.str "at") m) m) Q XX := wp_of (ix_dk hp rfl (lookB_at _ _ _)) h
theorem ixB_script (hp : m.ob J = some (penB x a l)) (h : Q x m) : wp (Res.of (opIx (.ref J) (.str "script") m) m) Q XX := wp_of (ix_dk hp rfl (lookB_script _ _ _)) h
theorem putB_l {P : Mem → Prop} (hp : m.ob J = some (penB x a l)) (h : P (m.put J (penB x a l'))) : dputP (.ref J) (.str "great") (.int l') m P :=
  ⟨J, _, _, .inr "great", rfl, hp, rfl, by decide, rfl, by rw [putB_great]; exact h⟩
theorem putB_a {P : Mem → Prop} (hp : m.ob J = some (penB x a l)) (h : P (m.put J (penB x l' l))) : dputP (.ref J) (.str "at") (.int l') m P :=
  ⟨J, _, _, .inr "at", rfl, hp, rfl, by decide, rfl, by rw [putB_at]; exact h⟩
theorem toPys_ints : ∀ c : List Int, toPys (c.map D.int) = some (c.map PyData.int)
  | [] => rfl
  | i :: c => by simp only [List.map_cons, toPys, toPy, toPys_ints c]
theorem q_neScr (hx : ScrD x c) (h : Q (.bl (!deq (.lst (c.map D.int)) (.lst []))) m) : wp (Res.of (opNe x (.lst []) m) m) Q XX := by
  have e : opNe x (.lst []) m = opNe (.lst (c.map D.int)) (.lst []) m := by
    rcases hx with rfl | rfl
    · unfold opNe pyEq
      have e1 : toPy (view m (.scr c)) = toPy (view m (.lst (c.map D.int))) := by
        show toPy (.scr c) = toPy (.lst (c.map D.int))
        simp only [toPy, toPys_ints, Option.map_some]
      rw [e1]
      rfl
    · rfl
  rw [e]
  exact q_ne (pl_ints _) pl_nil h
theorem q_lenScr (hx : ScrD x c) (h : Q (.int c.length) m) : wp (Res.of (opLen [x] m) m) Q XX := by
  rcases hx with rfl | rfl
  · exact h
  · refine q_lenL ?_
    rw [List.length_map]; exact h
theorem q_ixScr {j : Nat} (hx : ScrD x c) (hj : j < c.length) (h : Q (.int c[j]) m) : wp (Res.of (opIx x (.int (j : Nat)) m) m) Q XX := by
  rcases hx with rfl | rfl
  · refine wp_of (a := .int c[j]) ?_ h
    show (atI c (j : Nat)).map D.int = _
    rw [atI_nat (List.getElem?_eq_getElem hj)]; rfl
  · exact q_ixL (ex_o (atI_nat (by rw [List.getElem?_map, List.getElem?_eq_getElem hj]; rfl)) h)
end
/-- memory with the pen at J, at most t numbers drawn anew -/
structure PG (J t : Nat) (m : Mem) : Prop where
  pen : ∃ x c a l, m.ob J = some (penB x a l) ∧ ScrD x c ∧ c.length ≤ 200 ∧ 0 ≤ a ∧ a ≤ t ∧ 0 ≤ l
  wf : ∀ j, m.nx ≤ j → m.ob j = none
/-- just the pen is another one -/
structure CG (J : Nat) (m m' : Mem) : Prop where
  nx : m.nx ≤ m'.nx
  ob : ∀ j, j ≠ J → j < m.nx → m'.ob j = m.ob j
section
variable {J t u : Nat} {m m0 : Mem}
theorem CG.refl (J : Nat) (m : Mem) : CG J m m := ⟨Nat.le_refl _, fun _ _ _ => rfl⟩
theorem CG.trans {a b c : Mem} (h : CG J a b) (k : CG J b c) : CG J a c := ⟨Nat.le_trans h.nx k.nx, fun j z l => (k.ob j z (Nat.lt_of_lt_of_le l h.nx)).trans (h.ob j z l)⟩
theorem PG.mono (h : PG J t m) (l : t ≤ u) : PG J u m := by
  obtain ⟨⟨x, c, a, l0, e, hx, h1, h2, h3, h4⟩, w⟩ := h
  exact ⟨⟨x, c, a, l0, e, hx, h1, h2, by omega, h4⟩, w⟩
theorem PG.nx (h : PG J t m) : J < m.nx := by
  obtain ⟨⟨x, c, a, l0, e, _⟩, w⟩ := h
  rcases Nat.lt_or_ge J m.nx with z | z
  · exact z
  · rw [w J z] at e; cases e
theorem PG.put (h : PG J t m) {x : D} {c : List Int} {a l : Int} (u : Nat) (hx : ScrD x c) (h1 : c.length ≤ 200) (h2 : 0 ≤ a) (h3 : a ≤ u) (h4 : 0 ≤ l) : PG J u (m.put J (penB x a l)) ∧ CG J m (m.put J (penB x a l)) :=
  ⟨⟨⟨x, c, a, l, put_ob _ _ _, hx, h1, h2, h3, h4⟩, fun j hj => by
    have := h.nx
    have hj' : m.nx ≤ j := hj
    show (if j = J then _ else m.ob j) = none
    rw [if_neg (by omega)]; exact h.wf j hj⟩, ⟨Nat.le_refl _, fun j hj _ => if_neg hj⟩⟩
theorem PG.addO (h : PG J t m) (o : Ob) : PG J t (m.add o) := by
  have hn := h.nx
  obtain ⟨⟨x, c, a, l, e, h1⟩, w⟩ := h
  refine ⟨⟨x, c, a, l, ?_, h1⟩, fun j hj => ?_⟩
  · show (if J = m.nx then _ else m.ob J) = _
    rw [if_neg (by omega)]; exact e
  · have hj : m.nx + 1 ≤ j := hj
    show (if j = m.nx then _ else m.ob j) = _
    rw [if_neg (by omega)]; exact w j (by omega)
theorem PG.putO (h : PG J t m) {i : Nat} (hi : i ≠ J) (hl : i < m.nx) (o : Ob) : PG J t (m.put i o) := by
  obtain ⟨⟨x, c, a, l, e, h1⟩, w⟩ := h
  refine ⟨⟨x, c, a, l, ?_, h1⟩, fun j hj => ?_⟩
  · show (if J = i then _ else m.ob J) = _
    rw [if_neg (by omega)]; exact e
  · have hj : m.nx ≤ j := hj
    show (if j = i then _ else m.ob j) = _
    rw [if_neg (by omega)]; exact w j hj
theorem PG.killO (h : PG J t m) {i : Nat} (hi : i ≠ J) : PG J t (m.kill i) := by
  obtain ⟨⟨x, c, a, l, e, h1⟩, w⟩ := h
  refine ⟨⟨x, c, a, l, ?_, h1⟩, fun j hj => ?_⟩
  · show (if J = i then _ else m.ob J) = _
    rw [if_neg (by omega)]; exact e
  · have hj : m.nx ≤ j := hj
    show (if j = i then _ else m.ob j) = _
    split
    · rfl
    · exact w j hj
theorem CG.addO (h : CG J m0 m) (o : Ob) : CG J m0 (m.add o) :=
  ⟨Nat.le_succ_of_le h.nx, fun j hj hl => by
    have := h.nx
    show (if j = m.nx then _ else m.ob j) = _
    rw [if_neg (by omega)]; exact h.ob j hj hl⟩
theorem CG.putO (h : CG J m0 m) {i : Nat} (hi : m0.nx ≤ i) (o : Ob) : CG J m0 (m.put i o) :=
  ⟨h.nx, fun j hj hl => by
    show (if j = i then _ else m.ob j) = _
    rw [if_neg (by omega)]; exact h.ob j hj hl⟩
theorem CG.killO (h : CG J m0 m) {i : Nat} (hi : m0.nx ≤ i) : CG J m0 (m.kill i) :=
  ⟨h.nx, fun j hj hl => by
    show (if j = i then _ else m.ob j) = _
    rw [if_neg (by omega)]; exact h.ob j hj hl⟩
theorem obg_lt (h : PG J t m) {j : Nat} {o : Ob} (e : m.ob j = some o) : j < m.nx := by
  rcases Nat.lt_or_ge j m.nx with z | z
  · exact z
  · rw [h.wf j z] at e; cases e
/-- a new pen -/
theorem PG.new {m : Mem} (wf : ∀ j, m.nx ≤ j → m.ob j = none) {x : D} {c : List Int} (hx : ScrD x c) (h : c.length ≤ 200) : PG m.nx 0 (m.add (penB x 0 0)) :=
  ⟨⟨x, c, 0, 0, add_ob _ _, hx, h, by decide, by decide, by decide⟩, fun j hj => by
    have hj : m.nx + 1 ≤ j := hj
    show (if j = m.nx then _ else m.ob j) = _
    rw [if_neg (by omega)]; exact wf j (by omega)⟩
end
theorem w_drawB {J t : Nat} {n : Int} {m : Mem} {Q : D → Mem → Prop} {XX : XQ} (p : PG J t m) (ht : t < 2 ^ 31) (hn : 0 < n) (hl : n.natAbs.log2 < 9000)
    (k : ∀ d m', PG J (t + 1) m' → CG J m m' → 0 ≤ d → d < n → Q (.int d) m') : wp (body 2 7 mB_draw [.ref J, .int n] m) Q XX := by
  obtain ⟨⟨x, c, a, l, hp, hx, h1, h2, h3, h4⟩, w⟩ := p
  have p : PG J t m := ⟨⟨x, c, a, l, hp, hx, h1, h2, h3, h4⟩, w⟩
  refine w_body rfl ?_
  unfold mB_draw
  (repeat' (first | (with_reducible first | refine w_seq ?_ | refine w_if ?_ | refine v_c ?_ | refine v_op ?_ | refine t_t ?_) | (with_reducible refine v_vx ?_; refine ex_v rfl ?_) | fail))
  refine ixB_great hp ?_
  (repeat' (first | (with_reducible first | refine v_c ?_ | refine ex_bl ?_ | refine q_gt ?_) | fail))
  refine pick_d (fun h => ?_) (fun h => ?_)
  · (repeat' (first | (with_reducible first | refine w_seq ?_ | refine w_set ?_ | refine v_c ?_ | refine v_op ?_) | (with_reducible refine v_vx ?_; refine ex_v rfl ?_) | fail))
    refine ixB_great hp ?_
    (repeat' (first | (with_reducible refine v_vx ?_; refine ex_v rfl ?_) | fail))
    refine i_mod hn ?_
    (repeat' (first | (with_reducible first | refine w_seq ?_ | refine w_dput ?_ | refine v_c ?_ | refine v_op ?_) | (with_reducible refine v_vx ?_; refine ex_v rfl ?_) | fail))
    refine ixB_great hp ?_
    (repeat' (first | (with_reducible refine v_vx ?_; refine ex_v rfl ?_) | fail))
    refine i_div hn hl ?_
    (repeat' (first | (with_reducible first | refine v_c ?_) | (with_reducible refine v_vx ?_; refine ex_v rfl ?_) | fail))
    refine putB_l hp ?_
    (repeat' (first | (with_reducible first | refine w_ret ?_) | (with_reducible refine v_vx ?_; refine ex_v rfl ?_) | fail))
    have q := p.put (c := c) (a := a) (l := l / n) (t + 1) hx h1 h2 (by omega) (Int.ediv_nonneg h4 (Int.le_of_lt hn))
    exact k _ _ q.1 q.2 (Int.emod_nonneg _ (by omega)) (Int.emod_lt_of_pos _ hn)
  · (repeat' (first | (with_reducible first | refine w_seq ?_ | refine w_set ?_ | refine w_skip ?_ | refine v_c ?_ | refine v_op ?_) | (with_reducible refine v_vx ?_; refine ex_v rfl ?_) | fail))
    refine ixB_script hp ?_
    (repeat' (first | (with_reducible first | refine w_seq ?_ | refine w_set ?_ | refine v_c ?_ | refine v_op ?_) | (with_reducible refine v_vx ?_; refine ex_v rfl ?_) | fail))
    refine ixB_at hp ?_
    (repeat' (first | (with_reducible first | refine w_seq ?_ | refine w_dput ?_ | refine v_c ?_ | refine v_op ?_ | refine q_add ?_) | (with_reducible refine v_vx ?_; refine ex_v rfl ?_) | fail))
    refine putB_a hp ?_
    (repeat' (first | (with_reducible first | refine w_seq ?_ | refine w_set ?_ | refine v_c ?_ | refine v_op ?_) | (with_reducible refine v_vx ?_; refine ex_v rfl ?_) | fail))
    refine i_mul (by decide) (by omega) ?_
    (repeat' (first | (with_reducible first | refine w_seq ?_ | refine w_if ?_ | refine v_c ?_ | refine v_op ?_ | refine a_nil ?_ | refine v_lst ?_ | refine t_t ?_ | refine q_add ?_) | (with_reducible refine v_vx ?_; refine ex_v rfl ?_) | (with_reducible refine len_ok (by simp [sizeLine_eq]) ?_) | fail))
    refine q_neScr hx ?_
    refine ex_bl ?_
    -- the cell
    have fin : ∀ e : Int, ws (sBB (((List.set (entry 7 [D.ref J, D.int n]) 3 (some x)).set 4 (some (D.int a))).set 5 (some (D.int e))) (m.put J (penB x (a + 1) l)))
        (fun _ m1 => Q .non m1) Q noS noS (fun K fs _ m1 => XX K fs m1) := by
      intro e
      have hp1 : (m.put J (penB x (a + 1) l)).ob J = some (penB x (a + 1) l) := put_ob _ _ _
      unfold sBB
      (repeat' (first | (with_reducible first | refine w_seq ?_ | refine w_if ?_ | refine v_op ?_ | refine v_cb ?_ | refine a_nil ?_ | refine a_cons ?_ | refine t_t ?_ | refine t_and ?_) | (with_reducible refine v_vx ?_; refine ex_v rfl ?_) | fail))
      have rest : ws (sCB ((((List.set (entry 7 [D.ref J, D.int n]) 3 (some x)).set 4 (some (D.int a))).set 5 (some (D.int e)))) (m.put J (penB x (a + 1) l)))
          (fun _ m1 => Q .non m1) Q noS noS (fun K fs _ m1 => XX K fs m1) := by
        have at31 : a < 2 ^ 31 := by omega
        unfold sCB
        (repeat' (first | (with_reducible first | refine w_seq ?_ | refine w_set ?_ | refine v_c ?_ | refine v_op ?_) | (with_reducible refine v_vx ?_; refine ex_v rfl ?_) | (with_reducible refine i_mod (by decide) ?_) | fail))
        have b1 := Int.emod_nonneg e (b := 2147483563) (by decide)
        have b2 := Int.emod_lt_of_pos e (b := 2147483563) (by decide)
        generalize e % 2147483563 = f at b1 b2 ⊢
        refine i_mul (by decide) (by omega) ?_
        (repeat' (first | (with_reducible first | refine v_c ?_ | refine q_add ?_) | fail))
        refine i_mul (by omega) (by decide) ?_
        (repeat' (first | (with_reducible first | refine w_seq ?_ | refine w_set ?_ | refine v_c ?_ | refine v_op ?_) | (with_reducible refine v_vx ?_; refine ex_v rfl ?_) | (with_reducible refine i_mod (by decide) ?_) | fail))
        generalize ((f + 6151 * a + 1) * 40014) = g
        have c1 := Int.emod_nonneg g (b := 2147483563) (by decide)
        have c2 := Int.emod_lt_of_pos g (b := 2147483563) (by decide)
        generalize g % 2147483563 = y at c1 c2 ⊢
        refine i_mul (by omega) (by omega) ?_
        (repeat' (first | (with_reducible first | refine v_c ?_ | refine v_op ?_) | (with_reducible refine v_vx ?_; refine ex_v rfl ?_) | fail))
        refine i_mul (by decide) (by omega) ?_
        (repeat' (first | (with_reducible first | refine w_seq ?_ | refine w_set ?_ | refine v_c ?_ | refine v_op ?_ | refine q_add ?_) | (with_reducible refine v_vx ?_; refine ex_v rfl ?_) | (with_reducible refine i_mod (by decide) ?_) | fail))
        generalize (y * y + 60013 * y + a) = z
        have c3 := Int.emod_nonneg z (b := 2147483399) (by decide)
        have c4 := Int.emod_lt_of_pos z (b := 2147483399) (by decide)
        generalize z % 2147483399 = v at c3 c4 ⊢
        refine i_mul (by omega) (by omega) ?_
        (repeat' (first | (with_reducible first | refine v_c ?_ | refine v_op ?_) | (with_reducible refine v_vx ?_; refine ex_v rfl ?_) | fail))
        refine i_mul (by decide) (by omega) ?_
        (repeat' (first | (with_reducible first | refine w_ret ?_ | refine v_c ?_ | refine v_op ?_ | refine q_add ?_) | (with_reducible refine v_vx ?_; refine ex_v rfl ?_) | (with_reducible refine i_mod (by decide) ?_) | (with_reducible refine i_div (by decide) (by decide) ?_) | fail))
        refine i_mod hn ?_
        have q := p.put (c := c) (a := a + 1) (l := l) (t + 1) hx h1 (by omega) (by omega) h4
        exact k _ _ q.1 q.2 (Int.emod_nonneg _ (by omega)) (Int.emod_lt_of_pos _ hn)
      refine q_lenScr hx ?_
      (repeat' (first | (with_reducible first | refine ex_bl ?_ | refine q_lt ?_) | fail))
      refine pick_d (fun h5 => ?_) (fun h5 => ?_)
      · (repeat' (first | (with_reducible first | refine v_c ?_ | refine v_op ?_ | refine v_cb ?_ | refine a_nil ?_ | refine a_cons ?_ | refine t_t ?_ | refine ex_bl ?_ | refine q_ge ?_ | refine q_abs ?_) | (with_reducible refine v_vx ?_; refine ex_v rfl ?_) | (with_reducible refine i_pow (by decide) (by decide) (by decide) ?_) | fail))
        refine pick_d (fun h6 => ?_) (fun h6 => ?_)
        · (repeat' (first | (with_reducible first | refine w_seq ?_ | refine w_dput ?_ | refine v_op ?_ | refine v_cb ?_ | refine a_nil ?_ | refine a_cons ?_ | refine q_abs ?_) | (with_reducible refine v_vx ?_; refine ex_v rfl ?_) | fail))
          refine i_div hn hl ?_
          (repeat' (first | (with_reducible first | refine v_c ?_) | (with_reducible refine v_vx ?_; refine ex_v rfl ?_) | fail))
          refine putB_l hp1 ?_
          (repeat' (first | (with_reducible first | refine w_ret ?_ | refine v_op ?_ | refine v_cb ?_ | refine a_nil ?_ | refine a_cons ?_ | refine q_abs ?_) | (with_reducible refine v_vx ?_; refine ex_v rfl ?_) | fail))
          refine i_mod hn ?_
          rw [put_put]
          have q := p.put (c := c) (a := a + 1) (l := (e.natAbs : Int) / n) (t + 1) hx h1 (by omega) (by omega) (Int.ediv_nonneg (by omega) (Int.le_of_lt hn))
          exact k _ _ q.1 q.2 (Int.emod_nonneg _ (by omega)) (Int.emod_lt_of_pos _ hn)
        · refine w_skip ?_
          exact rest
      · refine pick_f rfl ?_
        refine w_skip ?_
        exact rest
    refine pick_b (fun hc => ?_) (fun hc => ?_)
    · (repeat' (first | (with_reducible first | refine w_set ?_ | refine v_op ?_ | refine v_cb ?_ | refine a_nil ?_ | refine a_cons ?_) | (with_reducible refine v_vx ?_; refine ex_v rfl ?_) | fail))
      have hl : c ≠ [] := by
        rintro rfl
        simp only [List.map_nil, deq, deqs, Bool.not_true, Bool.false_eq_true] at hc
      have hl : 0 < c.length := List.length_pos_iff.mpr hl
      refine q_lenScr hx ?_
      skip
      refine i_mod (by omega) ?_
      have d1 := Int.emod_nonneg a (b := (c.length : Int)) (by omega)
      have d2 := Int.emod_lt_of_pos a (b := (c.length : Int)) (by omega)
      obtain ⟨j, hj⟩ := Int.eq_ofNat_of_zero_le d1
      rw [hj] at d2 ⊢
      have hj2 : j < c.length := by omega
      refine q_ixScr hx hj2 ?_
      exact fin _
    · refine w_skip ?_
      exact fin _
/-- drawn, told from where one began -/
theorem w_drawG {J t : Nat} {n : Int} {m0 m : Mem} {Q : D → Mem → Prop} {XX : XQ} (p : PG J t m) (c : CG J m0 m) (ht : t < 2 ^ 31) (hn : 0 < n) (hl : n.natAbs.log2 < 9000)
    (k : ∀ d m', PG J (t + 1) m' → CG J m0 m' → 0 ≤ d → d < n → Q (.int d) m') : wp (body 2 7 mB_draw [.ref J, .int n] m) Q XX :=
  w_drawB p ht hn hl fun d m' p' c' h0 h1 => k d m' p' (c.trans c') h0 h1
/-- from a promise, told from where one began -/
theorem wp_fromG {α : Type} {r : Res α} {J t : Nat} {m0 m : Mem} {P : α → Prop} {Q : α → Mem → Prop} {XX : XQ} (h : wp r (fun v m' => PG J t m' ∧ CG J m m' ∧ P v) noX) (c : CG J m0 m) (k : ∀ v m', PG J t m' → CG J m0 m' → P v → Q v m') : wp r Q XX :=
  wp_imp h fun v m' ⟨p, c', hv⟩ => k v m' p (c.trans c') hv
end Ev

set_option Elab.async false
set_option linter.all false
set_option maxRecDepth 100000
set_option autoImplicit false
/-! Ev23: a sign so many times. -/
namespace Ev
open PySem PySem.Spec PyProof.Rows L2
section
variable {X : Cx}
def repS (z : Str) (n : Int) : Str := ⟨(List.replicate n.toNat z.cps).foldl (· ++ ·) #[]⟩
theorem repS_0 (z : Str) {n : Int} (h : n < 1) : repS z n = Str.empty := by
  unfold repS
  rw [show n.toNat = 0 by omega]
  rfl
theorem repS_1 (z : Str) : repS z 1 = z := by
  unfold repS
  show (⟨#[] ++ z.cps⟩ : Str) = z
  rw [Array.empty_append]
theorem fold_size : ∀ (k : Nat) (a acc : Array Nat), ((List.replicate k a).foldl (· ++ ·) acc).size = acc.size + k * a.size
  | 0, a, acc => by simp
  | k + 1, a, acc => by
    rw [List.replicate_succ, List.foldl_cons, fold_size k a, Array.size_append, Nat.add_mul, Nat.one_mul]
    omega
theorem repS_len {z : Str} (h : z.length = 1) (n : Int) : (repS z n).length = n.toNat := by
  show ((List.replicate n.toNat z.cps).foldl (· ++ ·) #[]).size = _
  rw [fold_size]
  have h : z.cps.size = 1 := h
  rw [h]
  simp
theorem op_mul_str : OpR X (binaryOp .Mult) (fun x y H Q => ∃ z n, x = .str z ∧ y = .int n ∧ z.length = 1 ∧ 0 ≤ n ∧ n < 100000 ∧ Q (.str (repS z n)) H) := by
  intro pins s σ H x y v u Q I rx ry h
  obtain ⟨z, n, rfl, rfl, hz, h0, h1, q⟩ := h
  obtain ⟨t, rfl⟩ := rx
  obtain ⟨t', rfl⟩ := ry
  refine PySem.P.mul_str ?_ ?_ ?_ ?_
  · rw [decide_eq_false (by omega), decide_eq_false (by omega)]; rfl
  · intro g1 g2
    rw [hz]
    intro hx
    have : 1 ≤ (2 ^ 63 - 1) / n := (Int.le_ediv_iff_mul_le (by omega)).mpr (by omega)
    omega
  · intro g1 g2
    rw [hz]
    unfold PySem.Builtin.Str.tooLong
    exact decide_eq_false (by rw [show sizeLine = 16777216 from rfl]; omega)
  · split
    · rename_i g
      rw [repS_0 z g] at q
      exact ⟨by decide, .str Str.empty, H, I.tok _, ⟨_, rfl⟩, q⟩
    · rename_i g
      split
      · rename_i g2
        have : n = 1 := by
          rw [hz] at g2
          simpa using g2
        subst this
        rw [repS_1] at q
        exact ⟨.str z, H, I, ⟨_, rfl⟩, q⟩
      · exact ⟨by
          have := repS_len hz n
          show (repS z n).length ≤ sizeLine
          rw [this, show sizeLine = 16777216 from rfl]
          omega, .str (repS z n), H, I.tok _, ⟨_, rfl⟩, q⟩
@[irreducible] def mulOk (z : Str) (n : Int) : Bool := decide (z.length = 1) && decide (0 ≤ n) && decide (n < 100000)
theorem mulOk_inv {z : Str} {n : Int} (h : mulOk z n = true) : z.length = 1 ∧ 0 ≤ n ∧ n < 100000 := by
  unfold mulOk at h
  simp only [Bool.and_eq_true, decide_eq_true_eq] at h
  exact ⟨h.1.1, h.1.2, h.2⟩
def opMulS : O2 := fun x y m => match view m x, view m y with
  | .str z, .int n => if mulOk z n = true then some (.str (repS z n)) else none
  | _, _ => none
theorem o_mulS : OpR X (binaryOp .Mult) (rD (ctOf X) opMulS) := by
  intro pins s σ H x y v u Q I rx ry h
  obtain ⟨io, F, m, d, e, S, rd, re, z, hz, k⟩ := h
  unfold opMulS at hz
  split at hz
  · rename_i i j e1 e2
    split at hz
    · rename_i hl
      have hl := mulOk_inv hl
      cases hz
      exact op_mul_str pins s σ H _ _ v u Q I rx ry ⟨i, j, is_str rd e1, is_int re e2, hl.1, hl.2.1, hl.2.2, k.now S (by simp only [RelD])⟩
    · cases hz
  · cases hz
theorem q_mulS {z : Str} {n : Int} {m : Mem} {Q : D → Mem → Prop} {XX : XQ} (h1 : z.length = 1) (h0 : 0 ≤ n) (h2 : n < 100000) (k : Q (.str (repS z n)) m) : wp (Res.of (opMulS (.str z) (.int n) m) m) Q XX := wp_of (if_pos (by
  unfold mulOk
  rw [decide_eq_true h1, decide_eq_true h0, decide_eq_true h2]; rfl)) k
end
end Ev

set_option Elab.async false
set_option linter.all false
set_option maxRecDepth 100000
set_option autoImplicit false
/-! Ev24: a list in a dict is frozen. -/
namespace Ev
open PySem PySem.Spec PyProof.Rows L2
section
variable {T : Ct} {io : Nat → Addr} {F : Addr → Prop} {m : Mem} {H : Hp}
/-- the heap stays, what is said of a thing is another -/
theorem Sim.say {i : Nat} {u u' : Ob} (S : Sim T io F m H) (hi : m.ob i = some u) (hu : RelO T io F m.nx H u' (io i)) : Sim T io F (m.put i u') H ∧ Ext io F m H io F (m.put i u') H := by
  have at_ : ∀ {j z}, (m.put i u').ob j = some z → (j = i ∧ z = u') ∨ (j ≠ i ∧ m.ob j = some z) := fun {j z} h => by
    have h : (if j = i then some u' else m.ob j) = some z := h
    split at h
    · rename_i e; cases h; exact .inl ⟨e, rfl⟩
    · rename_i e; exact .inr ⟨e, h⟩
  have has : ∀ {j z}, (m.put i u').ob j = some z → ∃ w, m.ob j = some w := fun {j z} h => by
    rcases at_ h with ⟨rfl, _⟩ | ⟨_, h⟩
    · exact ⟨_, hi⟩
    · exact ⟨_, h⟩
  refine ⟨⟨fun j k z w hj hk e => ?_, fun j z h => ?_, fun j z h => ?_, fun j z h => ?_, S.fh⟩, ?_⟩
  · obtain ⟨z', hj⟩ := has hj
    obtain ⟨w', hk⟩ := has hk
    exact S.inj j k _ _ hj hk e
  · obtain ⟨z', h⟩ := has h
    exact S.lt j _ h
  · obtain ⟨z', h⟩ := has h
    exact S.nf j _ h
  · rcases at_ h with ⟨rfl, rfl⟩ | ⟨_, h⟩
    · exact hu
    · exact S.ob j z h
  · refine ⟨Nat.le_refl _, fun _ _ => rfl, fun _ h => h, fun _ _ h _ => h, fun j h1 h2 => absurd (Nat.lt_of_lt_of_le h2 h1) (Nat.lt_irrefl _), fun j hj h => ?_, fun j o h => ?_, fun _ o h => ⟨o, h⟩, fun _ h => .inl h⟩
    · show (if j = i then some u' else m.ob j) = none
      rw [if_neg]
      · exact h
      · rintro rfl; rw [hi] at h; cases h
    · obtain ⟨z', h⟩ := has h
      exact S.lt j _ h
theorem RelDs.setD {K : PySem.W.Frag} {n : Nat} {F : Addr → Prop} : ∀ {ds : List D} {vs : List V} {p : Nat} {d : D} {v : V}, RelDs K io F n H ds vs → vs[p]? = some v → RelD K io F n H d v → RelDs K io F n H (ds.set p d) vs
  | [], [], _, _, _, _, h, _ => by cases h
  | [], _ :: _, _, _, _, r, _, _ => by simp only [RelDs] at r
  | _ :: _, [], _, _, _, r, _, _ => by simp only [RelDs] at r
  | d0 :: ds, v0 :: vs, 0, d, v, r, h, rd => by
    simp only [RelDs] at r
    cases h
    simp only [List.set_cons_zero, RelDs]
    exact ⟨rd, r.2⟩
  | d0 :: ds, v0 :: vs, p + 1, d, v, r, h, rd => by
    simp only [RelDs] at r
    simp only [List.set_cons_succ, RelDs]
    exact ⟨r.1, RelDs.setD r.2 h rd⟩
end
section
variable {X : Cx} {W : WT} {st : Stmt} {sts : List Stmt} {sa : MS}
/-- at a place of a dict the list is frozen -/
def mFrzK (i p : Nat) : MS := fun s m => match s[i]? with
  | some (some (.ref f)) => (match m.ob f with
    | some (.dk ks ds) => (match ds[p]? with
      | some (.ref j) => (match m.ob j with
        | some (.lst es) => if j ≠ f then .nx s ((m.kill j).put f (.dk ks (ds.set p (.lst es)))) else .bad
        | _ => .bad)
      | _ => .bad)
    | _ => .bad)
  | _ => .bad
theorem frzk_of {i p : Nat} {D : Ends} {σ : L2.St} {H : Hp} (h : tS (ctOf X) W (mSeq (mFrzK i p) sa) D σ H) : tS (ctOf X) W sa D σ H := by
  obtain ⟨io, F, m, sd, S, rs, q⟩ := h
  unfold mSeq mFrzK at q
  cases q1 : sd[i]? with
  | none => rw [q1] at q; exact q.elim
  | some o =>
    rw [q1] at q
    cases o with
    | none => exact q.elim
    | some d =>
      cases d with
      | ref f =>
        simp only at q
        cases q2 : m.ob f with
        | none => rw [q2] at q; exact q.elim
        | some u =>
          rw [q2] at q
          cases u with
          | dk ks ds =>
            simp only at q
            cases q3 : ds[p]? with
            | none => rw [q3] at q; exact q.elim
            | some d3 =>
              rw [q3] at q
              cases d3 with
              | ref j =>
                simp only at q
                cases q4 : m.ob j with
                | none => rw [q4] at q; exact q.elim
                | some u4 =>
                  rw [q4] at q
                  cases u4 with
                  | lst es =>
                    simp only at q
                    by_cases hjf : j ≠ f
                    · rw [if_pos hjf] at q
                      obtain ⟨S', E⟩ := S.frz q4
                      have M := S.mono E
                      obtain ⟨kvs, h1, h2, h3⟩ := S.ob f _ q2
                      obtain ⟨xs, g1, g2⟩ := S.ob j _ q4
                      have hf' : (m.kill j).ob f = some (.dk ks ds) := by
                        show (if f = j then none else m.ob f) = _
                        rw [if_neg (Ne.symm hjf)]; exact q2
                      obtain ⟨v, e1, e2⟩ := h3.get q3
                      simp only [RelD] at e2
                      obtain ⟨S2, E2⟩ := S'.say (u' := .dk ks (ds.set p (.lst es))) hf' (by
                        refine ⟨kvs, h1, h2, RelDs.setD (h3.mono M) e1 ?_⟩
                        rw [e2.2]
                        simp only [RelD]
                        exact ⟨io j, xs, rfl, .inr rfl, g1, g2.mono M⟩)
                      have E3 := E.trans E2
                      exact ⟨io, _, _, sd, S2, rs.mono (S.mono E3), q.ext E3⟩
                    · rw [if_neg hjf] at q; exact q.elim
                  | _ => exact q.elim
              | _ => exact q.elim
          | _ => exact q.elim
      | _ => exact q.elim
theorem d_frzk {i p : Nat} (h : PS X st (tS (ctOf X) W sa)) : PS X st (tS (ctOf X) W (mSeq (mFrzK i p) sa)) := ps_imp h fun D σ H q => frzk_of q
theorem w_frzk {i p f j : Nat} {ks : List Key} {ds es : List D} {s : Slots} {m : Mem} {N : Slots → Mem → Prop} {R : D → Mem → Prop} {B C : Slots → Mem → Prop} {X : XS} (h1 : s[i]? = some (some (.ref f))) (h2 : m.ob f = some (.dk ks ds)) (h3 : ds[p]? = some (.ref j)) (h4 : m.ob j = some (.lst es)) (h5 : j ≠ f) (h : N s ((m.kill j).put f (.dk ks (ds.set p (.lst es))))) : ws (mFrzK i p s m) N R B C X := by
  unfold mFrzK
  rw [h1]; dsimp only
  rw [h2]; dsimp only
  rw [h3]; dsimp only
  rw [h4]; dsimp only
  rw [if_pos h5]; exact h
end
end Ev

set_option Elab.async false
set_option linter.all false
set_option maxRecDepth 100000
set_option autoImplicit false
/-! Ev25: t > u of tuples of ints, by KE.DataCmp. -/
namespace Ev
open PySem PySem.Spec PyProof.Rows L2
theorem firstLt_map (e r : Nat → Bool) (z : Bool) (f : Nat → Nat) : ∀ l : List Nat, SeqAt.firstLt e r z (l.map f) = SeqAt.firstLt (fun j => e (f j)) (fun j => r (f j)) z l
  | [] => rfl
  | j :: l => by
    show (if e (f j) = true then SeqAt.firstLt e r z (l.map f) else r (f j)) = (if e (f j) = true then SeqAt.firstLt (fun j => e (f j)) (fun j => r (f j)) z l else r (f j))
    rw [firstLt_map e r z f l]
def eqJ (ns ms : List Int) (j : Nat) : Bool := decide (ns.getD j 0 = ms.getD j 0)
def gtJ (ns ms : List Int) (j : Nat) : Bool := decide (ms.getD j 0 < ns.getD j 0)
theorem first_lex : ∀ ns ms : List Int, SeqAt.firstLt (eqJ ns ms) (gtJ ns ms) (decide (ns.length > ms.length)) (List.range (min ns.length ms.length)) = HT.lexLt ms ns
  | [], [] => rfl
  | [], m :: ms => rfl
  | n :: ns, [] => by
    rw [show min (n :: ns).length ([] : List Int).length = 0 from Nat.min_zero _]
    show decide (_ > _) = true
    exact decide_eq_true (Nat.succ_pos _)
  | n :: ns, m :: ms => by
    have ih := first_lex ns ms
    rw [show min (n :: ns).length (m :: ms).length = min ns.length ms.length + 1 by simp only [List.length_cons]; omega, List.range_succ_eq_map]
    show (if eqJ (n :: ns) (m :: ms) 0 = true then SeqAt.firstLt (eqJ (n :: ns) (m :: ms)) (gtJ (n :: ns) (m :: ms)) _ ((List.range (min ns.length ms.length)).map Nat.succ) else gtJ (n :: ns) (m :: ms) 0) = (if m = n then HT.lexLt ms ns else decide (m < n))
    rw [firstLt_map]
    have e1 : eqJ (n :: ns) (m :: ms) 0 = decide (n = m) := rfl
    have e2 : gtJ (n :: ns) (m :: ms) 0 = decide (m < n) := rfl
    have e3 : decide ((n :: ns).length > (m :: ms).length) = decide (ns.length > ms.length) := by simp only [List.length_cons]; exact decide_eq_decide.mpr (by omega)
    rw [e1, e2, e3]
    by_cases h : n = m
    · rw [decide_eq_true h, if_pos rfl, if_pos h.symm]
      exact ih
    · rw [decide_eq_false h, if_neg (by decide), if_neg (Ne.symm h)]
theorem ints_at : ∀ {us : List Value} {ns : List Int}, IntsAre us ns → ∀ (j : Nat) (h : j < us.length), ∃ t, us[j] = .int (ns.getD j 0) t
  | _, _, .nil, j, h => absurd h (Nat.not_lt_zero _)
  | _, _, .cons a t r, 0, h => ⟨t, rfl⟩
  | _, _, .cons a t r, j + 1, h => ints_at r j (Nat.lt_of_succ_lt_succ h)
section
variable {X : Cx}
theorem op_gtT (hu : X.A.units < cLine) : OpR X (compareOp .Gt) (fun x y H Q => ∃ a b ns ms, x = .ref a ∧ y = .ref b ∧ SqT X.K H a (ns.map V.int) ∧ SqT X.K H b (ms.map V.int) ∧ Q (.bl (HT.lexLt ms ns)) H) := by
  intro pins s σ H x y v u Q I rx ry h
  obtain ⟨a, b, ns, ms, rfl, rfl, ha, hb, q⟩ := h
  cases rx
  cases ry
  obtain ⟨its, r1, p1, _⟩ := I.tuple ha
  obtain ⟨its2, r2, p2, _⟩ := I.tuple hb
  have i1 : IntsAre its.toArray.toList ns := intsAre_of r1
  have i2 : IntsAre its2.toArray.toList ms := intsAre_of r2
  have l1 := i1.length
  have l2 := i2.length
  have e := first_lex ns ms
  rw [← l1, ← l2, Array.length_toList, Array.length_toList] at e
  have w : SeqAt.RcOp .Gt X.A s (.ref a) (.ref b) (HT.lexLt ms ns) := by
    rw [← e]
    refine SeqAt.RcOp.tuples_gt p1 p2 hu ?_ ?_
    · intro j h1 h2
      obtain ⟨t1, e1⟩ := ints_at i1 j (by rw [Array.length_toList]; exact h1)
      obtain ⟨t2, e2⟩ := ints_at i2 j (by rw [Array.length_toList]; exact h2)
      rw [Array.getElem_toList] at e1 e2
      rw [e1, e2]
      exact SeqAt.EqAt.int_int _ t1 _ t2
    · intro j h1 h2 _
      obtain ⟨t1, e1⟩ := ints_at i1 j (by rw [Array.length_toList]; exact h1)
      obtain ⟨t2, e2⟩ := ints_at i2 j (by rw [Array.length_toList]; exact h2)
      rw [Array.getElem_toList] at e1 e2
      rw [e1, e2]
      exact fun _ _ _ _ h => PyProof.Rows.gt_int h
  exact w X.prog X.w _ _ ⟨.bl (HT.lexLt ms ns), H, I, rfl, q⟩
def opGtT : O2 := fun x y m => match view m x, view m y with
  | .tup a, .tup b => (match intsOf a, intsOf b with
    | some ns, some ms => some (.bl (HT.lexLt ms ns))
    | _, _ => none)
  | _, _ => none
theorem o_gtT (hu : X.A.units + 65 < cLine) : OpR X (compareOp .Gt) (rD (ctOf X) opGtT) := by
  intro pins s σ H x y v u Q I rx ry h
  obtain ⟨io, F, m, d, e, S, rd, re, z, hz, k⟩ := h
  unfold opGtT at hz
  split at hz
  · rename_i a b e1 e2
    split at hz
    · rename_i ns ms h1 h2
      cases hz
      obtain ⟨p, xs, rfl, t1, q1⟩ := is_tup rd e1
      obtain ⟨q, ys, rfl, t2, q2⟩ := is_tup re e2
      rw [intsOf_map h1] at q1
      rw [intsOf_map h2] at q2
      have z1 := intsV_rel q1
      have z2 := intsV_rel q2
      subst z1 z2
      exact op_gtT (by omega) pins s σ H _ _ v u Q I rx ry ⟨p, q, ns, ms, rfl, rfl, t1.sq, t2.sq, k.now S (by simp only [RelD])⟩
    · cases hz
  · cases hz
theorem q_gtT {ns ms : List Int} {m : Mem} {Q : D → Mem → Prop} {XX : XQ} (h : Q (.bl (HT.lexLt ms ns)) m) : wp (Res.of (opGtT (.tup (ns.map D.int)) (.tup (ms.map D.int)) m) m) Q XX := by
  refine wp_of (a := .bl (HT.lexLt ms ns)) ?_ h
  show (match intsOf (ns.map D.int), intsOf (ms.map D.int) with | some ns, some ms => some (D.bl (HT.lexLt ms ns)) | _, _ => none) = _
  rw [intsOf_of, intsOf_of]
end
end Ev

set_option Elab.async false
set_option linter.all false
set_option maxRecDepth 100000
set_option autoImplicit false
/-! Ev26: len of a dict. -/
namespace Ev
open PySem PySem.Spec PyProof.Rows L2
section
variable {X : Cx}
def opLenD : OL := fun ds m => match ds with
  | [x] => (match view m x with
    | .dk ks ds => some (.int ks.length)
    | .dt ks ds => some (.int ks.length)
    | _ => none)
  | _ => none
theorem c_lenD : CallR X (.builtin "len") (rC (ctOf X) opLenD) := by
  intro pins s σ H xs us Q I rx h
  obtain ⟨io, F, m, ds, S, r, z, hz, kk⟩ := h
  unfold opLenD at hz
  split at hz
  · rename_i d
    obtain ⟨v, rfl, rv⟩ := one_rel r
    split at hz
    · rename_i ks ds e1
      cases hz
      obtain ⟨a, kvs, rfl, h1, h2, h3⟩ := at_dk S rv e1
      obtain ⟨u, rfl, ru⟩ := vals1 rx
      cases ru
      have : kvs.length = ks.length := by rw [← h2, List.length_map]
      exact d_len I h1 fun t s' I' => ⟨.int kvs.length, H, I', ⟨t, rfl⟩, by rw [this]; exact kk.now S (by simp only [RelD])⟩
    · rename_i ks ds e1
      cases hz
      obtain ⟨a, kvs, rfl, h1, h2, h3⟩ := at_dt S rv e1
      obtain ⟨u, rfl, ru⟩ := vals1 rx
      cases ru
      have hk : kvs.length = ks.length := by rw [← h2, List.length_map]
      obtain ⟨z, hd, ys, rel, dd⟩ := dt_rd I.hok h1
      have hl : kvs.length = ys.length := Paired.length rel
      refine call_len_dictH hd dd (by rw [← hl]; rw [sizeLine_eq] at z; omega) ?_
      rw [← hl]
      exact ⟨.int ((kvs.length : Nat) : Int), H, I.tok _, ⟨_, rfl⟩, by rw [hk]; exact kk.now S (by simp only [RelD])⟩
    · cases hz
  · cases hz
theorem q_lenDt {ks : List (List Key)} {ds : List D} {m : Mem} {Q : D → Mem → Prop} {XX : XQ} (h : Q (.int (ks.length : Nat)) m) : wp (Res.of (opLenD [.dt ks ds] m) m) Q XX := h
end
end Ev

set_option Elab.async false
set_option linter.all false
set_option maxRecDepth 100000
set_option autoImplicit false
/-! Ev27: repr of what holds dicts; str of a text. -/
namespace Ev
open PySem PySem.Spec PyProof.Rows L2
def kPy : Key → PyData
  | .inl i => .int i
  | .inr s => .str s
mutual
def pyK : D → PyData
  | .non => .none
  | .bl b => .bool b
  | .int i => .int i
  | .str s => .str s
  | .tup ds => .tuple (pyKs ds)
  | .lst ds => .list (pyKs ds)
  | .dk ks ds => .dict ((ks.map kPy).zip (pyKs ds))
  | .scr _ => .none
  | .dt _ _ => .none
  | .ref _ => .none
def pyKs : List D → List PyData
  | [] => []
  | d :: ds => pyK d :: pyKs ds
end
mutual
/-- what can be read so -/
def okK : D → Bool
  | .non => true
  | .bl _ => true
  | .int _ => true
  | .str _ => true
  | .tup ds => okKs ds
  | .lst ds => okKs ds
  | .dk ks ds => okKs ds && decide (ks.length = ds.length)
  | .scr _ => false
  | .dt _ _ => false
  | .ref _ => false
def okKs : List D → Bool
  | [] => true
  | d :: ds => okK d && okKs ds
end
mutual
/-- without lists -/
def noL : D → Bool
  | .tup ds => noLs ds
  | .dk _ ds => noLs ds
  | .lst _ => false
  | .non => true
  | .bl _ => true
  | .int _ => true
  | .str _ => true
  | .scr _ => false
  | .dt _ _ => false
  | .ref _ => false
def noLs : List D → Bool
  | [] => true
  | d :: ds => noL d && noLs ds
end
theorem pyKs_len : ∀ ds : List D, (pyKs ds).length = ds.length
  | [] => rfl
  | d :: ds => by simp only [pyKs, List.length_cons, pyKs_len ds]
section
variable {X : Cx} {pins : List (Addr × Obj)} {σ : L2.St} {H : Hp} {s : Shared} {io : Nat → Addr} {F : Addr → Prop} {n : Nat}
theorem pairs_keys {knd : KeyKind X.prog X.w Key} (hk : ∀ k v, knd.is k v = true → RelV (kV k) v) (h : Heap) : ∀ {es : List DictEntry} {kvs : List (Key × Value)}, Pairs knd es kvs →
    ReadsAll h (es.map (·.key)) ((kvs.map (·.1)).map kPy) [] ∧ es.map (·.val) = kvs.map (·.2)
  | _, _, .nil => ⟨.nil, rfl⟩
  | _, _, .cons (e := e) (kv := kv) (es := es) (kvs := kvs) h1 h2 r => by
    obtain ⟨a, b⟩ := pairs_keys hk h r
    refine ⟨?_, by simp only [List.map_cons, h2, b]⟩
    have rk := hk _ _ h1
    have hr : Reads h e.key (kPy kv.1) [] := by
      cases q : kv.1 with
      | inl i =>
        rw [q] at rk
        obtain ⟨t, e1⟩ := rk
        rw [e1]
        exact .int i t
      | inr x =>
        rw [q] at rk
        obtain ⟨t, e1⟩ := rk
        rw [e1]
        exact .str x t
    exact ReadsAll.cons (as := []) hr a
theorem mix_rel (P : Program) (w : World) (k : Key) (v : Value) (h : (mixKind P w).is k v = true) : RelV (kV k) v := by
  rcases keyIs_shape h with ⟨i, t, rfl, rfl⟩ | ⟨x, t, rfl, rfl⟩
  · exact ⟨t, rfl⟩
  · exact ⟨t, rfl⟩
theorem kv_keys : ∀ {kvs : List (Key × V)} {vs : List (Key × Value)}, KV kvs vs → kvs.map (·.1) = vs.map (·.1) ∧ Vals (kvs.map (·.2)) (vs.map (·.2))
  | _, _, .nil => ⟨rfl, .nil⟩
  | _, _, .cons h r => by
    obtain ⟨a, b⟩ := kv_keys r
    exact ⟨by simp only [List.map_cons, h.1, a], .cons h.2 b⟩
mutual
theorem readsK (I : Inv X pins σ H s) : ∀ (d : D) (v : V) (u : Value), RelD X.K io F n H d v → RelV v u → okK d = true → ∃ as, Reads s.heap u (pyK d) as ∧ (noL d = true → sysModules ∉ as)
  | .non, _, _, r, q, _ => by
    simp only [RelD] at r; subst r; cases q
    simp only [pyK]
    exact ⟨_, .none, fun _ => List.not_mem_nil⟩
  | .bl b, _, _, r, q, _ => by
    simp only [RelD] at r; subst r; cases q
    simp only [pyK]
    exact ⟨_, .bool b, fun _ => List.not_mem_nil⟩
  | .int i, _, _, r, q, _ => by
    simp only [RelD] at r; subst r; obtain ⟨t, rfl⟩ := q
    simp only [pyK]
    exact ⟨_, .int i t, fun _ => List.not_mem_nil⟩
  | .str x, _, _, r, q, _ => by
    simp only [RelD] at r; subst r; obtain ⟨t, rfl⟩ := q
    simp only [pyK]
    exact ⟨_, .str x t, fun _ => List.not_mem_nil⟩
  | .tup ds, _, _, r, q, h => by
    simp only [RelD] at r
    simp only [okK] at h
    obtain ⟨a, xs, rfl, t, rs⟩ := r
    cases q
    obtain ⟨its, rv, ⟨o, ho, hc, n, hd⟩, _⟩ := I.tuple t.sq
    obtain ⟨as, h1, h2⟩ := readsKs I ds xs its rs rv h
    simp only [pyK, noL]
    exact ⟨_, .tuple ho hc hd h1, h2⟩
  | .lst ds, _, _, r, q, h => by
    simp only [RelD] at r
    simp only [okK] at h
    obtain ⟨a, xs, rfl, _, t, rs⟩ := r
    cases q
    obtain ⟨its, rv, ⟨o, n, ho, hc, _, hd⟩, _⟩ := I.list (.inl (.inl t))
    obtain ⟨as, h1, h2⟩ := readsKs I ds xs its rs rv h
    simp only [pyK, noL]
    exact ⟨_, .list ho hc hd h1, fun z => by cases z⟩
  | .dk ks ds, _, _, r, q, h => by
    simp only [RelD] at r
    simp only [okK, Bool.and_eq_true, decide_eq_true_eq] at h
    obtain ⟨a, kvs, rfl, _, t, hk, rs⟩ := r
    cases q
    obtain ⟨_, hsys, vs, kv, o, es, ep, ho, hex, hd, _, hp, _⟩ := dk_rd I.hok t
    obtain ⟨e1, e2⟩ := kv_keys kv
    obtain ⟨p1, p2⟩ := pairs_keys (mix_rel _ _) s.heap hp
    obtain ⟨as, h1, h2⟩ := readsKs I ds _ _ rs e2 h.1
    rw [← e1, hk] at p1
    rw [← p2] at h1
    simp only [pyK, noL]
    refine ⟨_, Reads.dict (as := []) (bs := as) (kvs := (ks.map kPy).zip (pyKs ds)) ho hex.1 hd ?_ ?_, ?_⟩
    · rw [List.map_fst_zip (by rw [List.length_map, pyKs_len]; omega)]
      exact p1
    · rw [List.map_snd_zip (by rw [List.length_map, pyKs_len]; omega)]
      exact h1
    · intro z hm
      rw [List.cons_append, List.nil_append] at hm
      rcases List.mem_cons.mp hm with e | hm
      · rw [← e] at hsys
        simp at hsys
      · exact h2 z hm
  | .scr _, _, _, _, _, h => by simp only [okK] at h; cases h
  | .dt _ _, _, _, _, _, h => by simp only [okK] at h; cases h
  | .ref _, _, _, _, _, h => by simp only [okK] at h; cases h
theorem readsKs (I : Inv X pins σ H s) : ∀ (ds : List D) (vs : List V) (us : List Value), RelDs X.K io F n H ds vs → Vals vs us → okKs ds = true → ∃ as, ReadsAll s.heap us (pyKs ds) as ∧ (noLs ds = true → sysModules ∉ as)
  | [], vs, _, r, q, _ => by
    cases vs with
    | nil => cases q; simp only [pyKs]; exact ⟨_, .nil, fun _ => List.not_mem_nil⟩
    | cons v vs => simp only [RelDs] at r
  | d :: ds, vs, _, r, q, h => by
    cases vs with
    | nil => simp only [RelDs] at r
    | cons v vs =>
      simp only [RelDs] at r
      simp only [okKs, Bool.and_eq_true] at h
      cases q with
      | cons q1 q2 =>
        obtain ⟨as, a1, a2⟩ := readsK I d v _ r.1 q1 h.1
        obtain ⟨bs, b1, b2⟩ := readsKs I ds vs _ r.2 q2 h.2
        simp only [pyKs, noLs]
        refine ⟨_, .cons a1 b1, fun z hm => ?_⟩
        rw [Bool.and_eq_true] at z
        rcases List.mem_append.mp hm with hm | hm
        · exact a2 z.1 hm
        · exact b2 z.2 hm
end
end
section
variable {k : Nat} {W : WT} {X : Cx}
/-- repr of a thing that may hold dicts -/
def opReprK : OL := fun ds m => match ds with
  | [x] => if okK x = true ∧ (noL x = true ∨ PyData.hasDict (pyK x) = false) ∧ PyData.showable (pyK x) = true ∧ PyData.depth (pyK x) ≤ 64 ∧ (PyData.shown (pyK x)).length ≤ sizeLine then some (.str (PyData.shown (pyK x))) else none
  | _ => none
theorem c_reprK (hh : Here k W X) : CallR X (.builtin "repr") (rC (ctOf X) opReprK) := by
  intro pins s σ H xs us Q I rx h
  obtain ⟨io, F, m, ds, S, r, z, hz, kk⟩ := h
  unfold opReprK at hz
  split at hz
  · rename_i d
    obtain ⟨v, rfl, rv⟩ := one_rel r
    split at hz
    · rename_i hs
      obtain ⟨s0, s1, s2, s3, s4⟩ := hs
      cases hz
      have fin := kk.now S (v := .str (PyData.shown (pyK d))) (by simp only [RelD])
      cases rx with
      | cons r1 r2 =>
        rename_i u us'
        cases r2
        obtain ⟨as, rd, hs⟩ := readsK I d v u rv r1 s0
        have hsm : PyData.hasDict (pyK d) = true → sysModules ∉ as := fun e => by
          rcases s1 with s1 | s1
          · exact hs s1
          · rw [s1] at e; cases e
        have hu := hh.rm.un
        have big : ∀ a, u = .ref a → wpAny (model X.prog X.w) X.A (call (.builtin "repr") [u]) (fun u' s' => ∃ x H', L2.Inv X pins σ H' s' ∧ RelV x u' ∧ Q x H') X.xe s := fun a e => by
          subst e
          exact PySem.repr_of_reads' rd s2 hsm hh.gd (by omega) (fun _ _ e => e) (fun h' u tk hk => ⟨.str _, H, I.kept (t' := tk) hk, ⟨_, rfl⟩, fin⟩) s4
        cases d with
        | non =>
          simp only [RelD] at rv; subst rv; cases r1
          exact PySem.P.repr_of_none ⟨.str _, H, I.tok _, ⟨_, rfl⟩, fin⟩
        | bl bb =>
          simp only [RelD] at rv; subst rv; cases r1
          refine PySem.P.repr_of_bool ⟨.str _, H, I.tok _, ⟨_, rfl⟩, ?_⟩
          cases bb <;> exact fin
        | int i =>
          simp only [RelD] at rv; subst rv; obtain ⟨t, rfl⟩ := r1
          simp only [pyK, PyData.showable, decide_eq_true_eq] at s2
          exact PySem.P.repr_of_int s2 ⟨.str _, H, I.tok _, ⟨_, rfl⟩, fin⟩
        | str t =>
          simp only [RelD] at rv; subst rv; obtain ⟨tk, rfl⟩ := r1
          exact PySem.P.repr_of_str ⟨.str _, H, I.tok _, ⟨_, rfl⟩, fin⟩ s4
        | tup ds => simp only [RelD] at rv; obtain ⟨a, xs, rfl, _⟩ := rv; cases r1; exact big a rfl
        | lst ds => simp only [RelD] at rv; obtain ⟨a, xs, rfl, _⟩ := rv; cases r1; exact big a rfl
        | dk ks ds => simp only [RelD] at rv; obtain ⟨a, xs, rfl, _⟩ := rv; cases r1; exact big a rfl
        | scr _ => simp only [okK] at s0; cases s0
        | dt _ _ => simp only [okK] at s0; cases s0
        | ref _ => simp only [okK] at s0; cases s0
    · cases hz
  · cases hz
def opStrG : OL := fun ds m => match ds with
  | [.int i] => if i.natAbs.log2 < 1920 then some (.str (Str.ofString (toString i))) else none
  | [.str s] => some (.str s)
  | _ => none
theorem c_strG : CallR X (.type "str") (rC (ctOf X) opStrG) := by
  intro pins s σ H xs us Q I rx h
  obtain ⟨io, F, m, ds, S, r, z, hz, kk⟩ := h
  unfold opStrG at hz
  split at hz
  · rename_i i
    obtain ⟨v, rfl, rv⟩ := one_rel r
    simp only [RelD] at rv
    subst rv
    split at hz
    · rename_i hl
      cases hz
      exact call_str_int pins s σ H _ us Q I rx ⟨i, rfl, hl, kk.now S (by simp only [RelD])⟩
    · cases hz
  · rename_i x
    obtain ⟨v, rfl, rv⟩ := one_rel r
    simp only [RelD] at rv
    subst rv
    cases hz
    cases rx with
    | cons r1 r2 =>
      cases r2
      obtain ⟨t, rfl⟩ := r1
      exact PySem.P.str_of_str ⟨.str x, H, I, ⟨_, rfl⟩, kk.now S (by simp only [RelD])⟩
  · cases hz
/-- {} that stays -/
theorem d_newK0 {pos : Pos} : PE X (.Dict [] [] pos) (tE (ctOf X) W (mC (.dk [] []))) := pe_imp pe_dnewK fun σ H Q h q hq => by
  obtain ⟨io, F, m, sd, S, rs, p⟩ := h
  exact Then.newK (kvs := []) (T := ctOf X) (fun io' F' H' b => p io' F' H' b) S hq rfl (by simp only [List.map_nil, RelDs])
end
end Ev

set_option Elab.async false
set_option linter.all false
set_option maxRecDepth 100000
set_option autoImplicit false
/-! Ev28: what repr (opReprK) can tell. -/
namespace Ev
open PySem PySem.Spec PyProof.Rows L2
mutual
def shK : D → Bool
  | .non => true
  | .bl _ => true
  | .int i => decide (i.natAbs.log2 < 1920)
  | .str s => PyData.strOk s
  | .tup ds => shKs ds
  | .lst ds => shKs ds
  | .dk ks ds => okK (.dk ks ds) && PyData.showable (pyK (.dk ks ds))
  | .scr _ => false
  | .dt _ _ => false
  | .ref _ => false
def shKs : List D → Bool
  | [] => true
  | d :: ds => shK d && shKs ds
end
mutual
def dpK : D → Nat
  | .tup ds => dpKs ds + 1
  | .lst ds => dpKs ds + 1
  | .dk ks ds => PyData.depth (pyK (.dk ks ds))
  | .non => 0
  | .bl _ => 0
  | .int _ => 0
  | .str _ => 0
  | .scr _ => 0
  | .dt _ _ => 0
  | .ref _ => 0
def dpKs : List D → Nat
  | [] => 0
  | d :: ds => max (dpK d) (dpKs ds)
end
mutual
def szK : D → Nat
  | .non => 4
  | .bl _ => 5
  | .int i => i.natAbs.log2 + 2
  | .str s => 10 * s.length + 2
  | .tup ds => szKs ds + 3
  | .lst ds => szKs ds + 3
  | .dk ks ds => (PyData.shown (pyK (.dk ks ds))).length
  | .scr _ => 0
  | .dt _ _ => 0
  | .ref _ => 0
def szKs : List D → Nat
  | [] => 0
  | d :: ds => szK d + 2 + szKs ds
end
mutual
/-- without dicts -/
def noD : D → Bool
  | .tup ds => noDs ds
  | .lst ds => noDs ds
  | .dk _ _ => false
  | .non => true
  | .bl _ => true
  | .int _ => true
  | .str _ => true
  | .scr _ => false
  | .dt _ _ => false
  | .ref _ => false
def noDs : List D → Bool
  | [] => true
  | d :: ds => noD d && noDs ds
end
mutual
theorem shK_ok : ∀ d : D, shK d = true → okK d = true ∧ PyData.showable (pyK d) = true
  | .non, _ => ⟨rfl, rfl⟩
  | .bl _, _ => ⟨rfl, rfl⟩
  | .int _, h => by simp only [shK] at h; simp only [okK, pyK, PyData.showable]; exact ⟨trivial, h⟩
  | .str _, _ => ⟨rfl, rfl⟩
  | .tup ds, h => by simp only [shK] at h; simp only [okK, pyK, PyData.showable]; exact shKs_ok ds h
  | .lst ds, h => by simp only [shK] at h; simp only [okK, pyK, PyData.showable]; exact shKs_ok ds h
  | .dk ks ds, h => by simp only [shK, Bool.and_eq_true] at h; exact h
  | .scr _, h => by simp only [shK] at h; cases h
  | .dt _ _, h => by simp only [shK] at h; cases h
  | .ref _, h => by simp only [shK] at h; cases h
theorem shKs_ok : ∀ ds : List D, shKs ds = true → okKs ds = true ∧ PyData.showableAll (pyKs ds) = true
  | [], _ => ⟨rfl, rfl⟩
  | d :: ds, h => by
    simp only [shKs, Bool.and_eq_true] at h
    obtain ⟨a, b⟩ := shK_ok d h.1
    obtain ⟨a2, b2⟩ := shKs_ok ds h.2
    simp only [okKs, pyKs, PyData.showableAll, a, b, a2, b2, Bool.and_self, and_self]
end
mutual
theorem dpK_ok : ∀ d : D, PyData.depth (pyK d) ≤ dpK d
  | .non => Nat.le_refl _
  | .bl _ => Nat.le_refl _
  | .int _ => Nat.le_refl _
  | .str _ => Nat.le_refl _
  | .tup ds => by have := dpKs_ok ds; simp only [pyK, PyData.depth, dpK]; omega
  | .lst ds => by have := dpKs_ok ds; simp only [pyK, PyData.depth, dpK]; omega
  | .dk ks ds => by simp only [dpK]; exact Nat.le_refl _
  | .scr _ => Nat.le_refl _
  | .dt _ _ => Nat.le_refl _
  | .ref _ => Nat.le_refl _
theorem dpKs_ok : ∀ ds : List D, PyData.depthAll (pyKs ds) ≤ dpKs ds
  | [] => Nat.le_refl _
  | d :: ds => by
    have := dpK_ok d
    have := dpKs_ok ds
    simp only [pyKs, PyData.depthAll, dpKs]; omega
end
mutual
theorem noD_ok : ∀ d : D, noD d = true → PyData.hasDict (pyK d) = false
  | .non, _ => rfl
  | .bl _, _ => rfl
  | .int _, _ => rfl
  | .str _, _ => rfl
  | .tup ds, h => by simp only [noD] at h; simp only [pyK, PyData.hasDict]; exact noDs_ok ds h
  | .lst ds, h => by simp only [noD] at h; simp only [pyK, PyData.hasDict]; exact noDs_ok ds h
  | .dk _ _, h => by simp only [noD] at h; cases h
  | .scr _, h => by simp only [noD] at h; cases h
  | .dt _ _, h => by simp only [noD] at h; cases h
  | .ref _, h => by simp only [noD] at h; cases h
theorem noDs_ok : ∀ ds : List D, noDs ds = true → PyData.hasDictAll (pyKs ds) = false
  | [], _ => rfl
  | d :: ds, h => by
    simp only [noDs, Bool.and_eq_true] at h
    simp only [pyKs, PyData.hasDictAll, noD_ok d h.1, noDs_ok ds h.2, Bool.or_self]
end
theorem shownKs_len : ∀ ds : List D, (PyData.shownAll (pyKs ds)).length = ds.length
  | [] => by simp only [pyKs, PyData.shownAll, List.length_nil]
  | d :: ds => by simp only [pyKs, PyData.shownAll, List.length_cons, shownKs_len ds]
mutual
theorem szK_ok : ∀ d : D, shK d = true → (PyData.shown (pyK d)).length ≤ szK d
  | .non, _ => by decide
  | .bl b, _ => by cases b <;> decide
  | .int i, _ => by simp only [szK, pyK]; exact strInt_len
  | .str s, h => by
    simp only [shK] at h
    have := shown_sz (d := .str s) (by simp only [plD]; exact h)
    simp only [szD] at this
    simp only [szK]
    exact this
  | .tup ds, h => by
    simp only [shK] at h
    have h1 := tupleText_len_le (PyData.shownAll (pyKs ds))
    have h2 := szKs_ok ds h
    have h3 := shownKs_len ds
    show (PyData.shown (.tuple (pyKs ds))).length ≤ _
    simp only [PyData.shown, szK]
    omega
  | .lst ds, h => by
    simp only [shK] at h
    have h1 := listText_len_le (PyData.shownAll (pyKs ds))
    have h2 := szKs_ok ds h
    have h3 := shownKs_len ds
    show (PyData.shown (.list (pyKs ds))).length ≤ _
    simp only [PyData.shown, szK]
    omega
  | .dk ks ds, h => by simp only [szK]; exact Nat.le_refl _
  | .scr _, h => by simp only [shK] at h; cases h
  | .dt _ _, h => by simp only [shK] at h; cases h
  | .ref _, h => by simp only [shK] at h; cases h
theorem szKs_ok : ∀ ds : List D, shKs ds = true → ((PyData.shownAll (pyKs ds)).map (·.length)).sum + 2 * ds.length ≤ szKs ds
  | [], _ => by simp only [pyKs, PyData.shownAll, szKs, List.map_nil, List.sum_nil, List.length_nil]; omega
  | d :: ds, h => by
    simp only [shKs, Bool.and_eq_true] at h
    have h1 := szK_ok d h.1
    have h2 := szKs_ok ds h.2
    simp only [pyKs, PyData.shownAll, szKs, List.map_cons, List.sum_cons, List.length_cons]
    omega
end
/-- a thing that repr tells; no ref stands in it -/
structure G (k n : Nat) (d : D) : Prop where
  sh : shK d = true
  mx : noL d = true ∨ noD d = true
  dp : dpK d ≤ k
  sz : szK d ≤ n
theorem q_reprK {d : D} {k n : Nat} {m : Mem} {Q : D → Mem → Prop} {XX : XQ} (g : G k n d) (hk : k ≤ 64) (hn : n ≤ 16000000) (h : Q (.str (PyData.shown (pyK d))) m) : wp (Res.of (opReprK [d] m) m) Q XX := by
  obtain ⟨h1, h2⟩ := shK_ok d g.sh
  have h3 := dpK_ok d
  have h4 := szK_ok d g.sh
  have h5 := g.dp
  have h6 := g.sz
  refine wp_of (a := .str (PyData.shown (pyK d))) ?_ h
  unfold opReprK
  dsimp only
  rw [if_pos ⟨h1, g.mx.imp id (noD_ok d), h2, by omega, by rw [sizeLine_eq]; omega⟩]
theorem G.mono {k n k' n' : Nat} {d : D} (g : G k n d) (h1 : k ≤ k') (h2 : n ≤ n') : G k' n' d := ⟨g.sh, g.mx, Nat.le_trans g.dp h1, Nat.le_trans g.sz h2⟩
theorem shKs_all : ∀ {ds : List D}, (∀ d ∈ ds, shK d = true) → shKs ds = true
  | [], _ => rfl
  | d :: ds, h => by simp only [shKs, Bool.and_eq_true]; exact ⟨h d (List.mem_cons_self ..), shKs_all fun x hx => h x (List.mem_cons_of_mem _ hx)⟩
theorem noLs_all : ∀ {ds : List D}, (∀ d ∈ ds, noL d = true) → noLs ds = true
  | [], _ => rfl
  | d :: ds, h => by simp only [noLs, Bool.and_eq_true]; exact ⟨h d (List.mem_cons_self ..), noLs_all fun x hx => h x (List.mem_cons_of_mem _ hx)⟩
theorem noDs_all : ∀ {ds : List D}, (∀ d ∈ ds, noD d = true) → noDs ds = true
  | [], _ => rfl
  | d :: ds, h => by simp only [noDs, Bool.and_eq_true]; exact ⟨h d (List.mem_cons_self ..), noDs_all fun x hx => h x (List.mem_cons_of_mem _ hx)⟩
theorem dpKs_all {k : Nat} : ∀ {ds : List D}, (∀ d ∈ ds, dpK d ≤ k) → dpKs ds ≤ k
  | [], _ => Nat.zero_le _
  | d :: ds, h => by
    have := h d (List.mem_cons_self ..)
    have := dpKs_all (k := k) (ds := ds) fun x hx => h x (List.mem_cons_of_mem _ hx)
    simp only [dpKs]; omega
theorem szKs_all {n : Nat} : ∀ {ds : List D}, (∀ d ∈ ds, szK d ≤ n) → szKs ds ≤ (n + 2) * ds.length
  | [], _ => Nat.zero_le _
  | d :: ds, h => by
    have := h d (List.mem_cons_self ..)
    have := szKs_all (n := n) (ds := ds) fun x hx => h x (List.mem_cons_of_mem _ hx)
    simp only [szKs, List.length_cons, Nat.mul_add]; omega
/-- a thing without parts -/
def Sc (d : D) : Prop := (∃ s : Str, d = .str s ∧ PyData.strOk s = true ∧ s.length ≤ 60) ∨ (∃ i : Int, d = .int i ∧ i.natAbs < 10 ^ 50) ∨ (∃ b, d = .bl b)
theorem Sc.g {d : D} (h : Sc d) : shK d = true ∧ noL d = true ∧ noD d = true ∧ dpK d = 0 ∧ szK d ≤ 602 := by
  rcases h with ⟨s, rfl, h1, h2⟩ | ⟨i, rfl, h⟩ | ⟨b, rfl⟩
  · refine ⟨h1, rfl, rfl, rfl, ?_⟩
    simp only [szK]; omega
  · have hl : i.natAbs.log2 ≤ 170 := log2_lt (n := i.natAbs) (k := 170) (by omega)
    refine ⟨?_, rfl, rfl, rfl, ?_⟩
    · simp only [shK, decide_eq_true_eq]; omega
    · simp only [szK]; omega
  · exact ⟨rfl, rfl, rfl, rfl, by simp only [szK]; omega⟩
theorem G.row {k n : Nat} {a b : List D} {o : D} (ha : ∀ x ∈ a, Sc x) (hb : ∀ x ∈ b, Sc x) (g : G k n o) (hl : a.length + b.length ≤ 6) : G (k + 1) (n + 7000) (.tup (a ++ o :: b)) := by
  have split : ∀ x ∈ a ++ o :: b, Sc x ∨ x = o := fun x hx => by
    rcases List.mem_append.mp hx with h | h
    · exact .inl (ha x h)
    · rcases List.mem_cons.mp h with rfl | h
      · exact .inr rfl
      · exact .inl (hb x h)
  refine ⟨?_, ?_, ?_, ?_⟩
  · simp only [shK]
    refine shKs_all fun x hx => ?_
    rcases split x hx with h | rfl
    · exact h.g.1
    · exact g.sh
  · rcases g.mx with h | h
    · refine .inl ?_
      simp only [noL]
      refine noLs_all fun x hx => ?_
      rcases split x hx with h | rfl
      · exact h.g.2.1
      · exact h
    · refine .inr ?_
      simp only [noD]
      refine noDs_all fun x hx => ?_
      rcases split x hx with h | rfl
      · exact h.g.2.2.1
      · exact h
  · have := dpKs_all (k := k) (ds := a ++ o :: b) fun x hx => by
      rcases split x hx with h | rfl
      · rw [h.g.2.2.2.1]; exact Nat.zero_le _
      · exact g.dp
    simp only [dpK]; omega
  · have h1 := szKs_all (n := 602) (ds := a) fun x hx => (ha x hx).g.2.2.2.2
    have h2 := szKs_all (n := 602) (ds := b) fun x hx => (hb x hx).g.2.2.2.2
    have app : ∀ xs ys : List D, szKs (xs ++ ys) = szKs xs + szKs ys := by
      intro xs ys
      induction xs with
      | nil => simp [szKs]
      | cons x xs ih => simp only [List.cons_append, szKs, ih]; omega
    have := g.sz
    simp only [szK, app, szKs]
    omega
theorem G.flat {ds : List D} (h : ∀ x ∈ ds, Sc x) (hl : ds.length ≤ 6) : G 1 7000 (.tup ds) ∧ G 1 7000 (.lst ds) := by
  have h1 := shKs_all (ds := ds) fun x hx => (h x hx).g.1
  have h2 := noDs_all (ds := ds) fun x hx => (h x hx).g.2.2.1
  have h3 := dpKs_all (k := 0) (ds := ds) fun x hx => by rw [(h x hx).g.2.2.2.1]; exact Nat.zero_le _
  have h4 := szKs_all (n := 602) (ds := ds) fun x hx => (h x hx).g.2.2.2.2
  constructor
  · exact ⟨by simp only [shK]; exact h1, .inr (by simp only [noD]; exact h2), by simp only [dpK]; omega, by simp only [szK]; omega⟩
  · exact ⟨by simp only [shK]; exact h1, .inr (by simp only [noD]; exact h2), by simp only [dpK]; omega, by simp only [szK]; omega⟩
theorem q_strG_s {s : Str} {m : Mem} {Q : D → Mem → Prop} {XX : XQ} (h : Q (.str s) m) : wp (Res.of (opStrG [.str s] m) m) Q XX := h
theorem q_strG_i {i : Int} {m : Mem} {Q : D → Mem → Prop} {XX : XQ} (hi : i.natAbs < 10 ^ 50) (h : Q (.str (numS i)) m) : wp (Res.of (opStrG [.int i] m) m) Q XX := by
  refine wp_of (a := .str (numS i)) ?_ h
  have hl : i.natAbs.log2 ≤ 170 := log2_lt (n := i.natAbs) (k := 170) (by omega)
  unfold opStrG
  dsimp only
  rw [if_pos (by omega)]
  rfl
theorem numS_sc {i : Int} (hi : i.natAbs < 10 ^ 50) : Sc (.str (numS i)) := by
  have dl : ∀ n : Nat, n < 10 ^ 50 → (digs n).length ≤ 50 := fun n hn => digs_len 49 n (by simpa using hn)
  have da : ∀ n : Nat, ∀ c ∈ digs n, c < 128 := fun n c hc => by
    have := digs_all n c hc
    omega
  cases i with
  | ofNat n =>
    have hn : n < 10 ^ 50 := by simpa using hi
    have e := numS_nat n
    refine .inl ⟨_, rfl, ?_, ?_⟩
    · unfold PyData.strOk
      rw [← Array.all_toList]
      show (numS (n : Int)).cps.toList.all _ = true
      rw [e, List.all_eq_true]
      intro c hc
      have := da n c hc
      exact decide_eq_true (by omega)
    · show (numS (n : Int)).length ≤ _
      rw [str_len, e]; have := dl n hn; omega
  | negSucc n =>
    have hn : n + 1 < 10 ^ 50 := by simpa using hi
    have e := numS_neg n
    refine .inl ⟨_, rfl, ?_, ?_⟩
    · unfold PyData.strOk
      rw [← Array.all_toList, e, List.all_eq_true]
      intro c hc
      rcases List.mem_cons.mp hc with rfl | hc
      · rfl
      · have := da _ c hc
        exact decide_eq_true (by omega)
    · rw [str_len, e, List.length_cons]; have := dl _ hn; omega
end Ev

set_option Elab.async false
set_option linter.all false
set_option maxRecDepth 100000
set_option autoImplicit false
/-! Ev29: sorted(set(texts)), len(set(texts)), sorted(dict). -/
namespace Ev
open PySem PySem.Spec PyProof.Rows L2
/-! ### texts in order -/
def ltS (a b : Str) : Bool := decide (a.cps.toList < b.cps.toList)
theorem ltS_irr (a : Str) : ltS a a = false := PyProof.Rows.strKind.irrefl a.cps.toList
theorem ltS_tr {a b c : Str} (h1 : ltS a b = true) (h2 : ltS b c = true) : ltS a c = true := PyProof.Rows.strKind.trans _ _ _ h1 h2
theorem ltS_neg {a b c : Str} (h : ltS a c = true) : ltS a b = true ∨ ltS b c = true := PyProof.Rows.strKind.negTrans _ _ _ h
theorem ltS_tot {a b : Str} (h1 : ltS a b = false) (h2 : ltS b a = false) : a = b := by
  have q := PyProof.Rows.strKind.total _ _ h1 h2
  cases a; cases b
  simp only [Str.mk.injEq]
  exact Array.toList_inj.mp q
def insU (x : Str) : List Str → List Str
  | [] => [x]
  | y :: ys => bif ltS x y then x :: y :: ys else bif ltS y x then y :: insU x ys else y :: ys
/-- in order, each once -/
def srtU : List Str → List Str
  | [] => []
  | x :: xs => insU x (srtU xs)
def Stc (l : List Str) : Prop := l.Pairwise fun a b => ltS a b = true
theorem mem_insU {x z : Str} : ∀ l : List Str, z ∈ insU x l ↔ z = x ∨ z ∈ l
  | [] => by simp [insU]
  | y :: ys => by
    unfold insU
    cases h1 : ltS x y with
    | true => simp
    | false =>
      cases h2 : ltS y x with
      | true =>
        simp only [cond_true, cond_false, List.mem_cons, mem_insU ys]
        constructor
        · rintro (h | h | h)
          · exact .inr (.inl h)
          · exact .inl h
          · exact .inr (.inr h)
        · rintro (h | h | h)
          · exact .inr (.inl h)
          · exact .inl h
          · exact .inr (.inr h)
      | false =>
        have e := ltS_tot h1 h2
        subst e
        simp only [cond_false, List.mem_cons]
        exact ⟨.inr, fun h => h.elim .inl id⟩
theorem mem_srtU {z : Str} : ∀ l : List Str, z ∈ srtU l ↔ z ∈ l
  | [] => Iff.rfl
  | x :: xs => by rw [srtU, mem_insU, mem_srtU xs, List.mem_cons]
theorem stc_insU {x : Str} : ∀ l : List Str, Stc l → Stc (insU x l)
  | [], _ => by simp [insU, Stc]
  | y :: ys, h => by
    obtain ⟨h1, h2⟩ := List.pairwise_cons.mp h
    unfold insU
    cases q1 : ltS x y with
    | true =>
      simp only [cond_true]
      refine List.pairwise_cons.mpr ⟨fun z hz => ?_, h⟩
      rcases List.mem_cons.mp hz with e | hz
      · rw [e]; exact q1
      · exact ltS_tr q1 (h1 z hz)
    | false =>
      cases q2 : ltS y x with
      | true =>
        simp only [cond_true, cond_false]
        refine List.pairwise_cons.mpr ⟨fun z hz => ?_, stc_insU ys h2⟩
        rcases (mem_insU ys).mp hz with e | hz
        · rw [e]; exact q2
        · exact h1 z hz
      | false => exact h
theorem stc_srtU : ∀ l : List Str, Stc (srtU l)
  | [] => List.Pairwise.nil
  | x :: xs => stc_insU _ (stc_srtU xs)
theorem Stc.nodup {l : List Str} (h : Stc l) : l.Nodup := List.Pairwise.imp (fun {a b} q e => by rw [e, ltS_irr] at q; cases q) h
theorem stc_eq : ∀ {l m : List Str}, Stc l → Stc m → (∀ z, z ∈ l ↔ z ∈ m) → l = m
  | [], [], _, _, _ => rfl
  | [], y :: m, _, _, h => by have := (h y).2 List.mem_cons_self; cases this
  | x :: l, [], _, _, h => by have := (h x).1 List.mem_cons_self; cases this
  | x :: l, y :: m, h1, h2, h => by
    obtain ⟨a1, a2⟩ := List.pairwise_cons.mp h1
    obtain ⟨b1, b2⟩ := List.pairwise_cons.mp h2
    have e : x = y := by
      rcases List.mem_cons.mp ((h x).1 List.mem_cons_self) with e | hx
      · exact e
      · rcases List.mem_cons.mp ((h y).2 List.mem_cons_self) with e | hy
        · exact e.symm
        · have q := ltS_tr (a1 y hy) (b1 x hx)
          rw [ltS_irr] at q; cases q
    subst e
    rw [stc_eq a2 b2 fun z => ?_]
    constructor
    · intro hz
      rcases List.mem_cons.mp ((h z).1 (List.mem_cons_of_mem _ hz)) with e | q
      · subst e; have w := a1 z hz; rw [ltS_irr] at w; cases w
      · exact q
    · intro hz
      rcases List.mem_cons.mp ((h z).2 (List.mem_cons_of_mem _ hz)) with e | q
      · subst e; have w := b1 z hz; rw [ltS_irr] at w; cases w
      · exact q
theorem srtU_congr {l m : List Str} (h : ∀ z, z ∈ l ↔ z ∈ m) : srtU l = srtU m :=
  stc_eq (stc_srtU l) (stc_srtU m) fun z => by rw [mem_srtU, mem_srtU]; exact h z
theorem le_of_rising : ∀ (p : Str) (l : List Str), risingS p l = true → (p :: l).Pairwise fun a b => ltS b a = false
  | p, [], _ => by simp
  | p, x :: r, h => by
    have h' : (!Spec.ltCps x.cps.toList p.cps.toList && risingS x r) = true := h
    rw [Bool.and_eq_true, Bool.not_eq_true', ltCps_eq] at h'
    have ih := le_of_rising x r h'.2
    refine List.pairwise_cons.mpr ⟨fun z hz => ?_, ih⟩
    rcases List.mem_cons.mp hz with e | hz
    · rw [e]; exact h'.1
    · cases q : ltS z p with
      | false => rfl
      | true =>
        have a := (List.pairwise_cons.mp ih).1 z hz
        rcases ltS_neg (b := x) q with w | w
        · rw [a] at w; cases w
        · have b : ltS x p = false := h'.1
          rw [b] at w; cases w
theorem stc_of_sorted {l : List Str} (h : sortedS l = true) (nd : l.Nodup) : Stc l := by
  have le : l.Pairwise fun a b => ltS b a = false := by
    cases l with
    | nil => exact List.Pairwise.nil
    | cons x r => exact le_of_rising x r h
  have both := List.Pairwise.and le nd
  refine List.Pairwise.imp (fun {a b} q => ?_) both
  cases w : ltS a b with
  | true => rfl
  | false => exact absurd (ltS_tot w q.1) q.2
theorem srt_of {l m : List Str} (h : sortedS l = true) (nd : l.Nodup) (e : ∀ z, z ∈ l ↔ z ∈ m) : l = srtU m :=
  stc_eq (stc_of_sorted h nd) (stc_srtU m) fun z => by rw [mem_srtU]; exact e z
theorem nodup_srtU (l : List Str) : (srtU l).Nodup := (stc_srtU l).nodup
theorem perm_srtU {l m : List Str} (nd : l.Nodup) (e : ∀ z, z ∈ l ↔ z ∈ m) : l.Perm (srtU m) :=
  (List.perm_ext_iff_of_nodup nd (nodup_srtU m)).2 fun z => by rw [mem_srtU]; exact e z
theorem insU_len (x : Str) : ∀ l : List Str, (insU x l).length ≤ l.length + 1
  | [] => by simp [insU]
  | y :: ys => by
    unfold insU
    have ih := insU_len x ys
    cases ltS x y <;> cases ltS y x <;> simp <;> omega
theorem srtU_len : ∀ l : List Str, (srtU l).length ≤ l.length
  | [] => Nat.le_refl _
  | x :: xs => by
    have a := insU_len x (srtU xs)
    have b := srtU_len xs
    simp only [srtU, List.length_cons]; omega
/-! ### a set of texts (follows the library's set of ints) -/
def skey (e : Int × Value) : Str := match e.2 with | .str k _ => k | _ => Str.empty
def GoodS (w : World) (e : Int × Value) : Prop := ∃ k tk, e.2 = Value.str k tk ∧ e.1 = hashStr w k
def SetRS (w : World) (h : Heap) (a : Addr) (S : Str → Bool) (n : Nat) : Prop :=
  ∃ o es ep t, h.get? a = some o ∧ o.ExactSet ∧ o.data = .set es ep t ∧ (∀ e ∈ es.toList, GoodS w e) ∧ (es.toList.map skey).Nodup ∧ (∀ k, S k = true ↔ k ∈ es.toList.map skey) ∧
    es.size < scanBound ∧ t.fits es.size = true ∧ es.size = n ∧ Ris t.place.toList ∧ (w.params.followText "set-order" = true ∨ t.led = true)
section
variable {P : Program} {w : World} {h h' : Heap} {a : Addr} {S : Str → Bool} {n : Nat}
theorem SetRS.at (R : SetRS w h a S n) (k : ∀ o, h.get? a = some o → h'.get? a = some o) : SetRS w h' a S n := by
  obtain ⟨o, es, ep, t, ho, r⟩ := R
  exact ⟨o, es, ep, t, k o ho, r⟩
theorem SetRS.congr {S' : Str → Bool} (R : SetRS w h a S n) (e : ∀ k, S' k = S k) : SetRS w h a S' n := by
  have q : S' = S := funext e
  rw [q]; exact R
theorem goodS_elems {l : List (Int × Value)} (g : ∀ e ∈ l, GoodS w e) : ElemsOf (PySem.strKind P w) l := fun e he => by
  obtain ⟨k, tk, h1, h2⟩ := g e he
  exact ⟨⟨k, by rw [h1]; exact strKind_is P w k tk, h2⟩, by rw [h1] <;> rfl⟩
theorem goodS_is {e : Int × Value} (g : GoodS w e) (k : Str) : (PySem.strKind P w).is k e.2 = true ↔ skey e = k := by
  obtain ⟨k0, tk, h1, _⟩ := g
  unfold skey
  rw [h1]
  show (Value.isStrOf k (.str k0 tk) = true) ↔ k0 = k
  unfold Value.isStrOf
  exact ⟨fun z => (of_decide_eq_true (by simpa using z)), fun z => by simp [z]⟩
theorem goodS_mem {l : List (Int × Value)} (g : ∀ e ∈ l, GoodS w e) (k : Str) : k ∈ l.map skey ↔ ∃ e ∈ l, (PySem.strKind P w).is k e.2 = true := by
  rw [List.mem_map]
  constructor
  · rintro ⟨e, he, q⟩
    exact ⟨e, he, (goodS_is (g e he) k).2 q⟩
  · rintro ⟨e, he, q⟩
    exact ⟨e, he, (goodS_is (g e he) k).1 q⟩
end
section
variable {P : Program} {w : World} {A : Around} {E : Value → Shared → Prop} {s : Shared} {a : Addr} {S : Str → Bool} {n : Nat}
theorem setRS_tail {g : Bool → Sem Unit} (hg : ∀ (b : Bool) (s₁ : Shared) (Q' : Unit → Shared → Prop), Q' () s₁ → wpAny (model P w) A (g b) Q' E s₁)
    {o : Obj} {es : Array (Int × Value)} {ep : Nat} {t : SetTable} (ho : s.heap.get? a = some o) (hex : o.ExactSet) (hd : o.data = .set es ep t)
    {es1 : Array (Int × Value)} {t2 : SetTable} {S' : Str → Bool} (g1 : ∀ e ∈ es1.toList, GoodS w e) (nd1 : (es1.toList.map skey).Nodup) (m1 : ∀ k, S' k = true ↔ k ∈ es1.toList.map skey)
    (hb1 : es1.size < scanBound) (hf2 : t2.fits es1.size = true) (hr : Ris t2.place.toList) (hl : w.params.followText "set-order" = true ∨ t2.led = true) {wasDummy : Bool} {R : Option Bool → Shared → Prop}
    (hR : ∀ h', Heap.SameBut a s.heap h' → SetRS w h' a S' es1.size → R (some true) { s with heap := h' }) :
    wpAny (model P w) A (do
        storeSet a es1 t2
        if (!wasDummy && t2.tooFull) = true then do
            g (relayAll t2 es1 (SetTable.grown es1.size)).2.2
            storeSet a (relayAll t2 es1 (SetTable.grown es1.size)).1 (relayAll t2 es1 (SetTable.grown es1.size)).2.1
            pure (some true)
          else pure (some true)) R E s := by
  refine wpAny_bind (wpAny_storeSet_of ho hd ?_ (fits_of_scanBound hb1))
  have ho1 := store_at (es' := es1) (t' := t2) ho hd
  have sb1 := Heap.SameBut.update s.heap a (Obj.putSet es1 t2)
  split
  · have pm := relayAll_perm t2 es1 (SetTable.grown es1.size)
    have hf3 := relayAll_fits t2 es1 (SetTable.grown es1.size)
    have hr3 := relayAll_ris t2 es1 (SetTable.grown es1.size)
    have hl3 := relayAll_led t2 es1 (SetTable.grown es1.size)
    generalize relayAll t2 es1 (SetTable.grown es1.size) = Z at pm hf3 hr3 hl3 ⊢
    obtain ⟨es2, t3, gave⟩ := Z
    dsimp only at pm hf3 hr3 hl3 ⊢
    have hsz : es2.size = es1.size := by rw [← Array.length_toList, pm.length_eq, Array.length_toList]
    have hb2 : es2.size < scanBound := by rw [hsz]; exact hb1
    refine wpAny_bind (hg _ _ _ ?_)
    refine wpAny_bind (wpAny_storeSet_of ho1 rfl ?_ (fits_of_scanBound hb2))
    have ho2 := store_at (es' := es2) (t' := t3) ho1 rfl
    refine wpAny_pure (hR _ (sb1.trans (Heap.SameBut.update _ a _)) ?_)
    exact ⟨_, es2, _, t3, ho2, hex, rfl, fun e he => g1 e (pm.mem_iff.mp he), (pm.map skey).nodup_iff.mpr nd1, fun k => (m1 k).trans (pm.map skey).mem_iff.symm, hb2, hf3, hsz, hr3,
      hl.imp id fun z => by rw [hl3]; exact z⟩
  · exact wpAny_pure (hR _ sb1 ⟨_, es1, _, t2, ho1, hex, rfl, g1, nd1, m1, hb1, hf2, rfl, hr, hl⟩)
theorem setRS_add {k : Str} {tk : Tok} {Q : Bool → Shared → Prop} (R : SetRS w s.heap a S n) (room : n + 1 < scanBound)
    (hQ : ∀ h', Heap.SameBut a s.heap h' → SetRS w h' a (fun j => S j || decide (j = k)) (if S k = true then n else n + 1) → Q (!S k) { s with heap := h' }) :
    wpAny (model P w) A (setAddHashed a (.str k tk) ((PySem.strKind P w).hash k)) Q E s := by
  obtain ⟨o, es, ep, t, ho, hex, hd, g, nd, hm, hb, hf, hn, hr, hl⟩ := R
  have hkey : (PySem.strKind P w).is k (.str k tk) = true := strKind_is P w k tk
  have hsc : (Value.str k tk).scannable = true := rfl
  have hel : ElemsOf (PySem.strKind P w) es.toList := goodS_elems g
  unfold setAddHashed setAddHashedIn
  refine wpAny_holding (wpAny_bind (wpAny_setState_of ho hd hf ?_))
  dsimp only
  rw [byScan_of hsc hb hel]
  simp only [↓reduceIte]
  unfold setAddByScan
  refine wpAny_bind ?_
  refine wpAny_bind (wpAny_rule ?_)
  refine wpAny_bind (wpAny_setScan_of hkey ho hd hf hel ?_)
  cases hfi : List.findIdx? (fun e => (PySem.strKind P w).is k e.2) es.toList with
  | some j =>
    dsimp only
    obtain ⟨hj, pj, _⟩ := List.findIdx?_eq_some_iff_getElem.mp hfi
    have hSk : S k = true := (hm k).2 ((goodS_mem (P := P) (w := w) g k).2 ⟨es.toList[j], List.getElem_mem hj, pj⟩)
    refine wpAny_pure (wpAny_pure ?_)
    have q := hQ s.heap (Heap.SameBut.refl a s.heap) ⟨o, es, ep, t, ho, hex, hd, g, nd, fun i => by
      rw [Bool.or_eq_true, decide_eq_true_eq, ← hm i]
      exact ⟨fun z => z.elim id (fun e => e ▸ hSk), .inl⟩, hb, hf, by rw [if_pos hSk]; exact hn, hr, hl⟩
    rw [hSk] at q
    exact q
  | none =>
    dsimp only
    have hnk : k ∉ es.toList.map skey := fun z => by
      obtain ⟨e, he, q⟩ := (goodS_mem (P := P) (w := w) g k).1 z
      have c := List.findIdx?_eq_none_iff.mp hfi e he
      rw [q] at c
      cases c
    have hSk : S k = false := by
      cases q : S k with
      | false => rfl
      | true => exact absurd ((hm k).1 q) hnk
    have hgw : ∀ (b : Bool) {s₁ : Shared} {Q' : Unit → Shared → Prop}, Q' () s₁ → wpAny (model P w) A (match b with | true => rule "set.scan.the-table-gave-way" | false => pure ()) Q' E s₁ :=
      fun b s₁ Q' q => by cases b <;> first | exact wpAny_pure q | exact wpAny_rule q
    have pm := layNew_perm t es ((PySem.strKind P w).hash k) (.str k tk)
    have hf1 := layNew_fits t es ((PySem.strKind P w).hash k) (.str k tk)
    have hr1 := layNew_ris t es ((PySem.strKind P w).hash k) (.str k tk) hr
    have hl1 := layNew_led t es ((PySem.strKind P w).hash k) (.str k tk)
    generalize layNew t es ((PySem.strKind P w).hash k) (.str k tk) = Z at pm hf1 hr1 hl1 ⊢
    obtain ⟨es1, t1, wasDummy, gave⟩ := Z
    dsimp only at pm hf1 hr1 hl1 ⊢
    rw [Array.toList_push] at pm
    have pc : es1.toList.Perm (((PySem.strKind P w).hash k, Value.str k tk) :: es.toList) := pm.trans (List.perm_append_singleton _ _)
    have pk : (es1.toList.map skey).Perm (k :: es.toList.map skey) := pc.map skey
    have g1 : ∀ e ∈ es1.toList, GoodS w e := fun e he => by
      rcases List.mem_cons.mp (pc.mem_iff.mp he) with z | z
      · rw [z]; exact ⟨k, tk, rfl, rfl⟩
      · exact g e z
    have nd1 : (es1.toList.map skey).Nodup := pk.nodup_iff.mpr (List.nodup_cons.mpr ⟨hnk, nd⟩)
    have m1 : ∀ i, (S i || decide (i = k)) = true ↔ i ∈ es1.toList.map skey := fun i => by
      rw [Bool.or_eq_true, decide_eq_true_eq, hm i, pk.mem_iff, List.mem_cons]
      exact Or.comm
    have hsz : es1.size = n + 1 := by rw [← Array.length_toList, pc.length_eq, List.length_cons, Array.length_toList, hn]
    have hb1 : es1.size < scanBound := by rw [hsz]; exact room
    have hled : w.params.followText "set-order" = true ∨ t1.led = true := hl.imp id fun z => by rw [hl1]; exact z
    have fin : ∀ h', Heap.SameBut a s.heap h' → SetRS w h' a (fun j => S j || decide (j = k)) es1.size → Q true { s with heap := h' } := fun h' sb r => by
      have q := hQ h' sb
      rw [hSk] at q
      rw [hsz] at r
      exact q r
    refine wpAny_bind (hgw _ ?_)
    split
    · refine wpAny_bind ?_
      rw [hashByValue_scannable 8 hsc]
      refine wpAny_pure ?_
      refine setRS_tail ?_ ho hex hd g1 nd1 m1 hb1 ?_ ?_ ?_ ?_
      · intro b s₁ Q' q; cases b <;> first | exact wpAny_pure q | exact wpAny_rule q
      · first | (split <;> first | exact hf1 | exact SetTable.fits_plain_off hf1) | exact hf1
      · first | (split <;> exact hr1) | exact hr1
      · first | (split <;> exact hled) | exact hled
      · intro h' sb r; dsimp only; exact wpAny_pure (fin h' sb r)
    · refine wpAny_bind (wpAny_pure ?_)
      simp only [↓reduceIte]
      refine setRS_tail ?_ ho hex hd g1 nd1 m1 hb1 hf1 hr1 hled ?_
      · intro b s₁ Q' q; cases b <;> first | exact wpAny_pure q | exact wpAny_rule q
      · intro h' sb r; dsimp only; exact wpAny_pure (fin h' sb r)
theorem setRS_fresh {h : Heap} (w : World) : SetRS w (h.push { cls := .type "set", dict := none, data := .set #[] 0 (.fresh 0 0 (!w.params.followText "set-order")) }) h.objs.size (fun k => decide (k ∈ ([] : List Str))) 0 :=
  ⟨_, #[], 0, _, Heap.get?_push_size _ rfl, ⟨rfl, rfl, rfl⟩, rfl, (fun e he => by simp at he), (by simp), (fun k => by simp), (by decide), (by rfl), rfl, List.Pairwise.nil, by
    show _ ∨ (!w.params.followText "set-order") = true
    cases w.params.followText "set-order"
    · exact .inr rfl
    · exact .inl rfl⟩
theorem set_new1 (x : Value) {Q₁ : Value → Shared → Prop}
    (h : Q₁ (.ref s.heap.objs.size) { s with heap := s.heap.push { cls := .type "set", dict := none, data := .set #[] 0 (.fresh 0 0 (!w.params.followText "set-order")) } }) :
    codeAny (model P w) A (.call (.builtin "set.__new__") ⟨[.type "set", x], []⟩) (wants Q₁ E) s := by
  refine codeAny_of_tree ?_
  show wpAny _ A.in1 (do checkBuiltinCall "set.__new__" ⟨[.type "set", x], []⟩; again (.builtin "set.__new__" ⟨[.type "set", x], []⟩)) _ _ s
  refine wpAny_bind (wpAny_of_eq (PySem.F.newCall_set_1 x) (wpAny_pure ⟨plainId_quiet PySem.F.plain_set_new _, codeAny_builtin PySem.F.entry_set_new ?_⟩))
  rw [Around.under_plainId PySem.F.plain_set_new _]
  unfold Builtin.«set.__new__» Builtin.Frozenset.newClass
  have hsub := sub_set_self
  obtain ⟨hp, g, d, tk, os⟩ := s
  dsimp only
  wp_walk
  refine wpAny_askSetting (wpAny_pure ?_)
  dsimp only
  simp only [newObj]
  refine wpAny_bind (wpAny_alloc (wpAny_pure ?_))
  exact wpAny_pure h
end
section
variable {prog : Program} {w : World} {A : Around} {R : Result → Shared → Prop} {I : Addr} {fp wr : List Addr} {G : Array GenState → Array GenState → Prop} {n : Nat} {P : Nat → Value → Prop} {St : Nat → Shared → Prop}
theorem take_more {xs : List Str} {i : Nat} (h : i < xs.length) (k : Str) : (decide (k ∈ xs.take i) || decide (k = xs.getD i Str.empty)) = decide (k ∈ xs.take (i + 1)) := by
  have e : xs.take (i + 1) = xs.take i ++ [xs.getD i Str.empty] := by
    rw [List.take_add_one]; simp [List.getD_eq_getElem?_getD, List.getElem?_eq_getElem h]
  rw [e, ← Bool.decide_or]
  exact decide_eq_decide.mpr (by rw [List.mem_append, List.mem_singleton])
theorem loopRS (W : WalksS prog w A.in1 I fp wr G n P St) (S : Addr) (hSf : S ∉ fp) (xs : List Str) (hsz : xs.length = n) (hb : n + 1 < scanBound)
    (hval : ∀ i v, P i v → ∃ t, v = .str (xs.getD i Str.empty) t) :
    ∀ (k i : Nat) (s : Shared), n - i = k → i ≤ n → St i s →
      (∃ c, c ≤ i ∧ SetRS w s.heap S (fun k' => decide (k' ∈ xs.take i)) c) →
      (∀ s', Moved (S :: wr) G s s' → (∃ c, SetRS w s'.heap S (fun k' => decide (k' ∈ xs)) c) → R (.ok (.ret .none)) s') →
      codeAny (model prog w) A (.builtin "set.update.loop" ⟨[.ref S, .ref I], []⟩) R s := by
  have hSw : S ∉ wr := fun h => hSf (W.sub _ h)
  have hsub : ∀ b ∈ wr, b ∈ S :: wr := fun b hb => List.mem_cons_of_mem _ hb
  intro k
  induction k with
  | zero =>
    intro i s hk hi hst hS hR
    have hin : i = n := by omega
    subst hin
    refine codeAny_builtin PyProof.Rows.F.entry_set_update_loop ?_
    rw [Around.under_plainId PyProof.Rows.F.plain_set_update_loop _]
    show wpAny _ A.in1 (pyNext (.ref I) >>= _) _ _ s
    refine wpAny_bind (W.done s _ _ hst fun s' hm => ?_)
    show wpAny _ A.in1 (ret Value.none) _ _ s'
    refine wpAny_pure (hR s' (hm.mono hsub) ?_)
    obtain ⟨c, hc, r⟩ := hS
    rw [← hsz, List.take_length] at r
    exact ⟨c, r.at fun o e => hm.heap S _ hSw e⟩
  | succ k ih =>
    intro i s hk hi hst hS hR
    have hlt : i < n := by omega
    refine codeAny_builtin PyProof.Rows.F.entry_set_update_loop ?_
    rw [Around.under_plainId PyProof.Rows.F.plain_set_update_loop _]
    show wpAny _ A.in1 (pyNext (.ref I) >>= _) _ _ s
    refine wpAny_bind (W.item i s _ _ hlt hst fun v s' hP hst' hm => ?_)
    obtain ⟨t, rfl⟩ := hval i v hP
    obtain ⟨c, hc, r⟩ := hS
    have hS' : SetRS w s'.heap S (fun k' => decide (k' ∈ xs.take i)) c := r.at fun o e => hm.heap S _ hSw e
    show wpAny _ A.in1 (holding [Value.str (xs.getD i Str.empty) t] (setAdd S (.str (xs.getD i Str.empty) t)) >>= _) _ _ s'
    refine wpAny_bind (wpAny_holding ?_)
    unfold setAdd
    refine wpAny_holding ?_
    refine wpAny_bind ((PySem.strKind prog w).pyHash (k := xs.getD i Str.empty) (strKind_is _ _ _ _) ?_)
    refine setRS_add (s := { s' with toks := s'.toks + 1 }) hS' (by omega) fun h' hsb hS2 => ?_
    have hSi : SetRS w h' S (fun k' => decide (k' ∈ xs.take (i + 1))) _ := hS2.congr fun k' => (take_more (by rw [hsz]; exact hlt) k').symm
    refine wpAny_pure ⟨plainId_quiet PyProof.Rows.F.plain_set_update_loop _, ih (i + 1) _ (by omega) hlt (W.frame _ s' _ _ hst' (Nat.le_succ _) fun b hb o e => ?_) ⟨_, by split <;> omega, hSi⟩ fun s'' hm'' hS'' => ?_⟩
    · rw [hsb.2 b (fun h : b = S => hSf (by rw [← h]; exact hb))]; exact e
    · refine hR s'' (Moved.trans W.gtrans ((hm.mono hsub).then_heap (Nat.le_succ _) fun b o hb e => ?_) hm'') hS''
      rw [hsb.2 b (fun h : b = S => hb (by rw [h]; exact List.mem_cons_self))]; exact e
end
section
variable {prog : Program} {w : World} {A : Around} {E : Value → Shared → Prop} {s : Shared}

set_option maxHeartbeats 3200000 in
theorem set_of_list {l : Addr} {items : Array Value} {xs : List Str} {Q : Value → Shared → Prop}
    (hh : A.handled = none) (hl : s.heap.IsList l items) (hi : PyProof.Rows.StrsAre items.toList xs) (hb : items.size + 1 < scanBound)
    (h : ∀ (h' : Heap) (tk : Nat), (∃ c, SetRS w h' s.heap.objs.size (fun k' => decide (k' ∈ xs)) c) →
      (∀ b o, b < s.heap.objs.size → s.heap.get? b = some o → h'.get? b = some o) → Q (.ref s.heap.objs.size) { s with heap := h', toks := tk }) :
    wpAny (model prog w) A (call (.type "set") [.ref l]) Q E s := by
  obtain ⟨c, tl, hmro⟩ := PySem.F.called_set.mro
  have hmade := PySem.F.called_set.made
  have hsub := PySem.F.called_set.sub
  refine wpAny_call (codeAny_of_tree ?_)
  show wpAny _ _ (callAny (.type "set") _) _ _ _
  refine wpAny_pure ⟨Code.quiet_builtin _ (by decide +kernel), codeAny_builtin PySem.F.entry_type_call ?_⟩
  rw [Around.under_plain (weight_type_call_type "set" [.ref l] []) rfl]
  have h1 := PySem.F.called_set.notType
  have h2 := PySem.F.called_set.canCreate
  have hct := PySem.F.typeCall_set_1 (.ref l)
  repeat (any_goals (first | assumption | wp_step))
  refine codeAny_mono (set_new1 (.ref l) (E := E) (Q₁ := fun obj s₁ => obj = .ref s.heap.objs.size ∧ s₁ = { s with heap := s.heap.push { cls := .type "set", dict := none, data := .set #[] 0 (.fresh 0 0 (!w.params.followText "set-order")) } }) ⟨rfl, rfl⟩) fun r s₁ hr => ?_
  cases r with
  | error e => exact hr
  | ok fl =>
    cases fl with
    | ret obj =>
      obtain ⟨rfl, rfl⟩ := hr
      have hRS0 := setRS_fresh (h := s.heap) w
      generalize (!w.params.followText "set-order") = led at hRS0 ⊢
      have hS : (s.heap.push { cls := .type "set", dict := none, data := .set #[] 0 (.fresh 0 0 led) }).get? s.heap.objs.size = some { cls := .type "set", dict := none, data := .set #[] 0 (.fresh 0 0 led) } := Heap.get?_push_size _ rfl
      have hT : Shared.TypeIs { s with heap := s.heap.push { cls := .type "set", dict := none, data := .set #[] 0 (.fresh 0 0 led) } } (.ref s.heap.objs.size) "set" := ⟨_, hS, rfl⟩
      have hli := PySem.F.called_set.init.lookup
      have hbi := PySem.F.called_set.init.bind (.ref s.heap.objs.size)
      repeat (any_goals (first | assumption | wp_step))
      refine codeAny_mono (codeAny_call_builtin (R := wants (fun r s₂ => r = .none ∧ ∃ h' tk, s₂ = { s with heap := h', toks := tk } ∧
          (∃ c, SetRS w h' s.heap.objs.size (fun k' => decide (k' ∈ xs)) c) ∧
          (∀ b o, b < s.heap.objs.size → s.heap.get? b = some o → h'.get? b = some o)) E) PySem.F.called_set.init.plain PySem.F.entry_set_init (check_set_init_1 hT ?_)) fun r₂ s₂ hr₂ => ?_
      · obtain ⟨ol, hol, hcl, nl, hdl⟩ := hl
        obtain ⟨ocls, odict, odata, oslots⟩ := ol
        simp only at hcl hdl
        subst hcl; subst hdl
        have hol' : (s.heap.push { cls := .type "set", dict := none, data := .set #[] 0 (.fresh 0 0 led) }).get? l = some { cls := .type "list", dict := odict, data := .seq items nl, slots := oslots } := Heap.get?_push_of_some _ hol
        have hsls := PySem.F.sub_list_set
        have hslf := PySem.F.sub_list_frozenset
        have hne : (Value.type "list" == Value.type "dict") = false := by decide
        have hl1 : (s.heap.push { cls := .type "set", dict := none, data := .set #[] 0 (.fresh 0 0 led) }).IsList l items := ⟨_, hol', rfl, nl, rfl⟩
        unfold Builtin.«set.__init__» noKeywords Builtin.Frozenset.updateFrom
        generalize hPI : pyIter = PI
        wp_walk
        subst hPI
        refine wpAny_pyIter_list hl1 ?_
        refine wpAny_bind (wpAny_runValue ?_)
        have hlS : l < s.heap.objs.size := Heap.lt_size hol
        have hh3 : A.in1.in1.in1.handled = none := by simp [hh]
        have hneI : l ≠ (s.heap.push { cls := .type "set", dict := none, data := .set #[] 0 (.fresh 0 0 led) }).objs.size := by
          rw [Heap.size_push]; exact Nat.ne_of_lt (Nat.lt_succ_of_lt hlS)
        have hSf : s.heap.objs.size ∉ [(s.heap.push { cls := .type "set", dict := none, data := .set #[] 0 (.fresh 0 0 led) }).objs.size, l] := by
          rw [Heap.size_push]; simp only [List.mem_cons, List.mem_singleton, List.not_mem_nil, or_false, not_or]
          exact ⟨Nat.ne_of_lt (Nat.lt_succ_self _), Nat.ne_of_gt hlS⟩
        have hsz : xs.length = items.size := by rw [← StrsAre.len_eq hi, Array.length_toList]
        have hval : ∀ (i : Nat) (v : Value), items[i]? = some v → ∃ t, v = .str (xs.getD i Str.empty) t := fun i v hv => SS.strs_at hi i v (by rw [Array.getElem?_toList]; exact hv)
        refine loopRS ((Walks.list hh3 _ l hneI items).toS) s.heap.objs.size
          hSf xs hsz hb hval (items.size - 0) 0 _ (by omega) (Nat.zero_le _)
          ⟨⟨_, Heap.get?_push_size _ rfl, rfl, rfl⟩, (hl1.push _)⟩ ?hS0 ?hR
        case hS0 =>
          exact ⟨0, Nat.le_refl _, hRS0.at fun o e => Heap.get?_push_of_some _ e⟩
        case hR =>
          intro s' hm hS'
          obtain ⟨h', g', d', tk', os'⟩ := s'
          have eg : g' = s.gens := hm.gens
          have ed : d' = s.drawn := hm.drawn
          have eo : os' = s.os := hm.os
          subst eg; subst ed; subst eo
          show wpAny _ _ _ _ _ _
          refine wpAny_pure ?_
          show wpAny _ _ (ret Value.none) _ _ _
          refine wpAny_pure ⟨rfl, h', tk', rfl, hS', fun b o hb e => ?_⟩
          have hb1 : b ≠ s.heap.objs.size := Nat.ne_of_lt hb
          have hb2 : b ≠ (s.heap.push { cls := .type "set", dict := none, data := .set #[] 0 (.fresh 0 0 led) }).objs.size := by
            rw [Heap.size_push]; exact Nat.ne_of_lt (Nat.lt_succ_of_lt hb)
          exact hm.heap b o (by simp only [List.mem_cons, List.mem_singleton, List.not_mem_nil, or_false, not_or]; exact ⟨hb1, hb2⟩) (Heap.get?_push_of_some _ (Heap.get?_push_of_some _ e))
      · cases r₂ with
        | error e => exact hr₂
        | ok fl₂ =>
          cases fl₂ with
          | ret r =>
            obtain ⟨rfl, h', tk, rfl, hS', hk'⟩ := hr₂
            repeat (any_goals (first | assumption | wp_step))
            exact h _ _ hS' hk'
          | _ => exact hr₂.elim
    | _ => exact hr.elim

set_option maxHeartbeats 3200000 in
theorem set_of_tuple {l : Addr} {items : Array Value} {xs : List Str} {Q : Value → Shared → Prop}
    (hh : A.handled = none) (hl : s.heap.IsTuple l items) (hi : PyProof.Rows.StrsAre items.toList xs) (hb : items.size + 1 < scanBound)
    (h : ∀ (h' : Heap) (tk : Nat), (∃ c, SetRS w h' s.heap.objs.size (fun k' => decide (k' ∈ xs)) c) →
      (∀ b o, b < s.heap.objs.size → s.heap.get? b = some o → h'.get? b = some o) → Q (.ref s.heap.objs.size) { s with heap := h', toks := tk }) :
    wpAny (model prog w) A (call (.type "set") [.ref l]) Q E s := by
  obtain ⟨c, tl, hmro⟩ := PySem.F.called_set.mro
  have hmade := PySem.F.called_set.made
  have hsub := PySem.F.called_set.sub
  refine wpAny_call (codeAny_of_tree ?_)
  show wpAny _ _ (callAny (.type "set") _) _ _ _
  refine wpAny_pure ⟨Code.quiet_builtin _ (by decide +kernel), codeAny_builtin PySem.F.entry_type_call ?_⟩
  rw [Around.under_plain (weight_type_call_type "set" [.ref l] []) rfl]
  have h1 := PySem.F.called_set.notType
  have h2 := PySem.F.called_set.canCreate
  have hct := PySem.F.typeCall_set_1 (.ref l)
  repeat (any_goals (first | assumption | wp_step))
  refine codeAny_mono (set_new1 (.ref l) (E := E) (Q₁ := fun obj s₁ => obj = .ref s.heap.objs.size ∧ s₁ = { s with heap := s.heap.push { cls := .type "set", dict := none, data := .set #[] 0 (.fresh 0 0 (!w.params.followText "set-order")) } }) ⟨rfl, rfl⟩) fun r s₁ hr => ?_
  cases r with
  | error e => exact hr
  | ok fl =>
    cases fl with
    | ret obj =>
      obtain ⟨rfl, rfl⟩ := hr
      have hRS0 := setRS_fresh (h := s.heap) w
      generalize (!w.params.followText "set-order") = led at hRS0 ⊢
      have hS : (s.heap.push { cls := .type "set", dict := none, data := .set #[] 0 (.fresh 0 0 led) }).get? s.heap.objs.size = some { cls := .type "set", dict := none, data := .set #[] 0 (.fresh 0 0 led) } := Heap.get?_push_size _ rfl
      have hT : Shared.TypeIs { s with heap := s.heap.push { cls := .type "set", dict := none, data := .set #[] 0 (.fresh 0 0 led) } } (.ref s.heap.objs.size) "set" := ⟨_, hS, rfl⟩
      have hli := PySem.F.called_set.init.lookup
      have hbi := PySem.F.called_set.init.bind (.ref s.heap.objs.size)
      repeat (any_goals (first | assumption | wp_step))
      refine codeAny_mono (codeAny_call_builtin (R := wants (fun r s₂ => r = .none ∧ ∃ h' tk, s₂ = { s with heap := h', toks := tk } ∧
          (∃ c, SetRS w h' s.heap.objs.size (fun k' => decide (k' ∈ xs)) c) ∧
          (∀ b o, b < s.heap.objs.size → s.heap.get? b = some o → h'.get? b = some o)) E) PySem.F.called_set.init.plain PySem.F.entry_set_init (check_set_init_1 hT ?_)) fun r₂ s₂ hr₂ => ?_
      · obtain ⟨ol, hol, hcl, nl, hdl⟩ := hl
        obtain ⟨ocls, odict, odata, oslots⟩ := ol
        simp only at hcl hdl
        subst hcl; subst hdl
        have hol' : (s.heap.push { cls := .type "set", dict := none, data := .set #[] 0 (.fresh 0 0 led) }).get? l = some { cls := .type "tuple", dict := odict, data := .seq items nl, slots := oslots } := Heap.get?_push_of_some _ hol
        have hsls := PySem.F.sub_tuple_set
        have hslf := PySem.F.sub_tuple_frozenset
        have hne : (Value.type "tuple" == Value.type "dict") = false := by decide
        have hl1 : (s.heap.push { cls := .type "set", dict := none, data := .set #[] 0 (.fresh 0 0 led) }).IsTuple l items := ⟨_, hol', rfl, nl, rfl⟩
        unfold Builtin.«set.__init__» noKeywords Builtin.Frozenset.updateFrom
        generalize hPI : pyIter = PI
        wp_walk
        subst hPI
        refine wpAny_pyIter_tuple hl1 ?_
        refine wpAny_bind (wpAny_runValue ?_)
        have hlS : l < s.heap.objs.size := Heap.lt_size hol
        have hh3 : A.in1.in1.in1.handled = none := by simp [hh]
        have hneI : l ≠ (s.heap.push { cls := .type "set", dict := none, data := .set #[] 0 (.fresh 0 0 led) }).objs.size := by
          rw [Heap.size_push]; exact Nat.ne_of_lt (Nat.lt_succ_of_lt hlS)
        have hSf : s.heap.objs.size ∉ [(s.heap.push { cls := .type "set", dict := none, data := .set #[] 0 (.fresh 0 0 led) }).objs.size, l] := by
          rw [Heap.size_push]; simp only [List.mem_cons, List.mem_singleton, List.not_mem_nil, or_false, not_or]
          exact ⟨Nat.ne_of_lt (Nat.lt_succ_self _), Nat.ne_of_gt hlS⟩
        have hsz : xs.length = items.size := by rw [← StrsAre.len_eq hi, Array.length_toList]
        have hval : ∀ (i : Nat) (v : Value), items[i]? = some v → ∃ t, v = .str (xs.getD i Str.empty) t := fun i v hv => SS.strs_at hi i v (by rw [Array.getElem?_toList]; exact hv)
        refine loopRS ((Walks.tuple hh3 _ l hneI items).toS) s.heap.objs.size
          hSf xs hsz hb hval (items.size - 0) 0 _ (by omega) (Nat.zero_le _)
          ⟨⟨_, Heap.get?_push_size _ rfl, rfl, rfl⟩, (hl1.push _)⟩ ?hS0 ?hR
        case hS0 =>
          exact ⟨0, Nat.le_refl _, hRS0.at fun o e => Heap.get?_push_of_some _ e⟩
        case hR =>
          intro s' hm hS'
          obtain ⟨h', g', d', tk', os'⟩ := s'
          have eg : g' = s.gens := hm.gens
          have ed : d' = s.drawn := hm.drawn
          have eo : os' = s.os := hm.os
          subst eg; subst ed; subst eo
          show wpAny _ _ _ _ _ _
          refine wpAny_pure ?_
          show wpAny _ _ (ret Value.none) _ _ _
          refine wpAny_pure ⟨rfl, h', tk', rfl, hS', fun b o hb e => ?_⟩
          have hb1 : b ≠ s.heap.objs.size := Nat.ne_of_lt hb
          have hb2 : b ≠ (s.heap.push { cls := .type "set", dict := none, data := .set #[] 0 (.fresh 0 0 led) }).objs.size := by
            rw [Heap.size_push]; exact Nat.ne_of_lt (Nat.lt_succ_of_lt hb)
          exact hm.heap b o (by simp only [List.mem_cons, List.mem_singleton, List.not_mem_nil, or_false, not_or]; exact ⟨hb1, hb2⟩) (Heap.get?_push_of_some _ (Heap.get?_push_of_some _ e))
      · cases r₂ with
        | error e => exact hr₂
        | ok fl₂ =>
          cases fl₂ with
          | ret r =>
            obtain ⟨rfl, h', tk, rfl, hS', hk'⟩ := hr₂
            repeat (any_goals (first | assumption | wp_step))
            exact h _ _ hS' hk'
          | _ => exact hr₂.elim
    | _ => exact hr.elim
theorem sorted_rs {P : Program} {a : Addr} {S : Str → Bool} {n : Nat} {Q : Value → Shared → Prop} (R : SetRS w s.heap a S n) (hh : A.handled = none)
    (hQ : ∀ s' p (out : Array Value) (c : Nat) (ss : List Str), (∀ b o, s.heap.get? b = some o → s'.heap.get? b = some o) → s'.gens = s.gens → s'.os = s.os → s.heap.objs.size ≤ p →
      s'.heap.get? p = some (seqObj "list" out c) → StrsAre out.toList ss → Stc ss → (∀ k, k ∈ ss ↔ S k = true) → ss.length ≤ sizeLine → Q (.ref p) s') :
    wpAny (model P w) A (call (.builtin "sorted") [.ref a]) Q E s := by
  obtain ⟨o, es, ep, t, ho, hex, hd, g, nd, hm, hb, hf, hn, hr, hl⟩ := R
  refine Calls.call_function_entry kind_sorted plain_sorted entry_sorted (args_sorted1 _) ?_
  unfold Builtin.«sorted»
  refine wpAny_bind (m := checkCount "sorted" 1 1 _) (wpAny_pure ?_)
  refine wpAny_bind (collect_set (A := A.in1) hh ⟨o, ho, hex.1, hd⟩ hf hb hr hl fun s1 vs k1 hz g1 o1 pm => ?_)
  have hvl : vs.length = es.size := by rw [pm.length_eq, List.length_map, Array.length_toList]
  have hI : StrsAre vs (vs.map strOf) := strsAre_map vs fun v hv => by
    obtain ⟨e, he, q⟩ := List.mem_map.mp (pm.mem_iff.mp hv)
    obtain ⟨k, tk, h1, _⟩ := g e he
    exact ⟨k, tk, by rw [← q]; exact h1⟩
  have pk : (vs.map strOf).Perm (es.toList.map skey) := by
    have q := pm.map strOf
    rw [List.map_map] at q
    refine q.trans (List.Perm.of_eq (List.map_congr_left fun e he => ?_))
    obtain ⟨k, tk, h1, _⟩ := g e he
    unfold skey
    rw [Function.comp, h1]; rfl
  have hvs : vs.length ≤ sizeLine := by rw [hvl]; exact fits_of_scanBound hb
  refine wpAny_bind (wpAny_newList ?_ hvs)
  have hoL : (s1.heap.push (seqObj "list" vs.toArray 0)).get? s1.heap.objs.size = some (seqObj "list" vs.toArray 0) := Heap.get?_push_size _ rfl
  refine wpAny_bind (wpAny_holding (wpAny_call_entry slot_list_sort ⟨_, hoL, rfl⟩ entry_list_sort (list_sort_treeKAny strKind_oneLt hoL hI.keysOf (fun v₁ v₂ rest e => keyKind_strs (by rw [← e]; exact hI)) hvs fun st' hp hs => ⟨_, rfl, ?_⟩) (args_list_sort _)))
  obtain ⟨ss', a1, a2, a3⟩ := sorted_out_str hI hp hs
  obtain ⟨c, hc⟩ := sortedHeap_at (vs := vs) (out := (arrOf st').map (·.2)) hoL
  have pn : ss'.Perm (es.toList.map skey) := a2.trans pk
  refine wpAny_pure ⟨_, rfl, hQ _ s1.heap.objs.size _ c ss' (fun b u e => ?_) g1 o1 hz hc a1 (stc_of_sorted a3 (pn.nodup_iff.mpr nd)) (fun k => by rw [pn.mem_iff, ← hm k]) (by rw [a2.length_eq, List.length_map]; exact hvs)⟩
  have q := k1 b u e
  have hlt := Heap.lt_size q
  show (sortedHeap (s1.heap.push (seqObj "list" vs.toArray 0)) s1.heap.objs.size vs _).get? b = some u
  rw [sortedHeap_old (Nat.ne_of_lt hlt) (by rw [size_push']; exact Nat.lt_succ_of_lt hlt)]
  exact Heap.get?_push_of_some _ q
theorem keysAre : ∀ {acc : List Value} {ks : List Str}, acc.length = ks.length → (∀ (i : Nat) v, acc[i]? = some v → ∃ x t, ks[i]? = some x ∧ v = .str x t) → StrsAre acc ks
  | [], [], _, _ => .nil
  | v :: acc, k :: ks, h, q => by
    obtain ⟨x, t, e1, e2⟩ := q 0 v rfl
    cases e1
    rw [e2]
    exact .cons k t (keysAre (by simpa using h) fun i u hu => q (i + 1) u hu)
  | [], k :: ks, h, _ => by simp at h
  | v :: acc, [], h, _ => by simp at h
open PySem.Calls PySem.W in
theorem collect_ge {prog : Program} {T : String} {r d : Addr} {n : Nat} {Pv : Nat → Value → Prop} {OK : Heap → Prop} {R : List Value → Shared → Prop} (K : PySem.W.KdlSrc prog w T r d n Pv OK) (hh : A.handled = none) (hok : OK s.heap) (hn : n ≤ sizeLine)
    (h : ∀ (h' : Heap) (tk : Nat) (acc : Array Value), (∀ b o, s.heap.get? b = some o → h'.get? b = some o) → s.heap.objs.size ≤ h'.objs.size → ItemsOf Pv acc n → R acc.toList { s with heap := h', toks := tk }) :
    wpAny (model prog w) A (collect (.ref r)) R E s := by
  have hlt := K.there _ hok
  unfold collect
  refine wpAny_bind (wpAny_runValue (codeAny_builtin entry_proto_collect' ?_))
  rw [Around.under_plainId PySem.F.plain_proto_collect _]
  show wpAny _ A.in1 (newList [] >>= fun l => again (.builtin "list.__iadd__" ⟨[l, .ref r], []⟩)) _ _ s
  refine wpAny_bind (wpAny_newObj_type ?_)
  refine wpAny_pure ⟨plainId_quiet PySem.F.plain_list_iadd _, codeAny_builtin entry_list_iadd' ?_⟩
  rw [Around.under_plainId PySem.F.plain_list_iadd _]
  have hS₁ : (s.heap.push { cls := .type "list", data := .seq ([] : List Value).toArray }).get? s.heap.objs.size = some { cls := .type "list", data := .seq #[] } := Heap.get?_push_size _ rfl
  show wpAny _ A.in1 (Builtin.List.listExtendWith (.ref s.heap.objs.size) (.ref r) (.ref s.heap.objs.size)) _ _ _
  have key := PySem.W.kdl_extend (A := A) (s := { s with heap := s.heap.push { cls := .type "list", data := .seq ([] : List Value).toArray } })
    (R := fun (q : Result) (s' : Shared) => ∃ (h' : Heap) (tk : Nat) (acc' : Array Value) (c' : Nat), q = .ok (.ret (.ref s.heap.objs.size)) ∧ s' = { s with heap := h', toks := tk } ∧
      (∀ b o, s.heap.get? b = some o → h'.get? b = some o) ∧ h'.get? s.heap.objs.size = some { cls := .type "list", dict := none, data := .seq acc' c', slots := #[] } ∧ ItemsOf Pv acc' n)
    K hh (K.keep _ _ hok fun b _ o e => Heap.get?_push_of_some _ e) s.heap.objs.size (Nat.ne_of_gt hlt.1) (Nat.ne_of_gt hlt.2) (.ref s.heap.objs.size) 0 hS₁
    (fun h' tk acc' c' hk hS' hacc => ⟨h', tk, acc', c', rfl, rfl, fun b o e => hk b o (Nat.ne_of_lt (Heap.lt_size e)) (Heap.get?_push_of_some _ e), hS', hacc⟩) hn
  refine wpAny_mono key (fun fin s' x => ?_) fun e s' x => ?_
  · cases fin with
    | done f =>
      obtain ⟨h', tk, acc', c', e, rfl, hk, hS', hacc⟩ := x
      cases e
      show wpAny _ A (load s.heap.objs.size >>= _) _ _ _
      refine wpAny_bind (wpAny_load hS' ?_)
      exact wpAny_pure (h h' tk acc' hk (Nat.le_of_lt (Heap.lt_size hS')) hacc)
    | again c₁ =>
      refine ⟨x.1, codeAny_mono x.2 fun q s₂ y => ?_⟩
      obtain ⟨h', tk, acc', c', rfl, rfl, hk, hS', hacc⟩ := y
      show wpAny _ A (load s.heap.objs.size >>= _) _ _ _
      refine wpAny_bind (wpAny_load hS' ?_)
      exact wpAny_pure (h h' tk acc' hk (Nat.le_of_lt (Heap.lt_size hS')) hacc)
  · obtain ⟨_, _, _, _, e', _⟩ := x
    cases e'
theorem sorted_dk {P : Program} {a : Addr} {xs : List (Key × Value)} {ks : List Str} {Q : Value → Shared → Prop} (hd : s.heap.DictOf (mixKind P w) a xs) (lo : (a == sysModules) = false)
    (hk : xs.map (·.1) = ks.map Sum.inr) (hn : xs.length ≤ sizeLine) (hh : A.handled = none)
    (hQ : ∀ h' tk p (out : Array Value) (c : Nat) (ss : List Str), (∀ b o, s.heap.get? b = some o → h'.get? b = some o) → s.heap.objs.size ≤ p →
      h'.get? p = some (seqObj "list" out c) → StrsAre out.toList ss → Stc ss → (∀ k, k ∈ ss ↔ k ∈ ks) → ss.length ≤ sizeLine → Q (.ref p) { s with heap := h', toks := tk }) :
    wpAny (model P w) A (call (.builtin "sorted") [.ref a]) Q E s := by
  obtain ⟨ep, hat⟩ := hd.dictAt
  obtain ⟨_, _, _, _, _, _, _, _, nd0⟩ := hd
  have nd : ks.Nodup := by
    rw [hk] at nd0
    exact (List.pairwise_map.mp nd0).imp fun h e => h (by rw [e])
  have hlen : xs.length = ks.length := by rw [← List.length_map (f := (·.1)), hk, List.length_map]
  refine Calls.call_function_entry kind_sorted plain_sorted entry_sorted (args_sorted1 _) ?_
  unfold Builtin.«sorted»
  refine wpAny_bind (m := checkCount "sorted" 1 1 _) (wpAny_pure ?_)
  refine wpAny_bind (collect_ge (A := A.in1) (PySem.W.kdl_dict (knd := mixKind P w) (kvs := xs) (ep := ep) lo) hh hat hn fun h1 tk acc k1 hz hacc => ?_)
  have hI : StrsAre acc.toList ks := keysAre (by rw [Array.length_toList, hacc.1, hlen]) fun i v hv => by
    obtain ⟨k, x, h2, h3⟩ := hacc.2 i v (by rw [← Array.getElem?_toList]; exact hv)
    have h4 : (ks.map (Sum.inr : Str → Key))[i]? = some k := by rw [← hk, List.getElem?_map, h2]; rfl
    rw [List.getElem?_map] at h4
    cases h5 : ks[i]? with
    | none => rw [h5] at h4; cases h4
    | some y =>
      rw [h5] at h4
      cases h4
      rcases keyIs_shape (show keyIs (Sum.inr y) v = true from h3) with ⟨i, t, e, _⟩ | ⟨x, t, e, e2⟩
      · cases e
      · cases e
        exact ⟨_, t, rfl, e2⟩
  have hvs : acc.toList.length ≤ sizeLine := by rw [Array.length_toList, hacc.1]; exact hn
  refine wpAny_bind (wpAny_newList ?_ hvs)
  have hoL : (h1.push (seqObj "list" acc.toList.toArray 0)).get? h1.objs.size = some (seqObj "list" acc.toList.toArray 0) := Heap.get?_push_size _ rfl
  refine wpAny_bind (wpAny_holding (wpAny_call_entry (s := { s with heap := h1.push (seqObj "list" acc.toList.toArray 0), toks := tk }) slot_list_sort ⟨_, hoL, rfl⟩ entry_list_sort (list_sort_treeKAny strKind_oneLt hoL hI.keysOf (fun v₁ v₂ rest e => keyKind_strs (by rw [← e]; exact hI)) hvs fun st' hp hs => ⟨_, rfl, ?_⟩) (args_list_sort _)))
  obtain ⟨ss', a1, a2, a3⟩ := sorted_out_str hI hp hs
  obtain ⟨c, hc⟩ := sortedHeap_at (vs := acc.toList) (out := (arrOf st').map (·.2)) hoL
  refine wpAny_pure ⟨_, rfl, hQ _ tk h1.objs.size _ c ss' (fun b u e => ?_) hz hc a1 (stc_of_sorted a3 (a2.nodup_iff.mpr nd)) (fun k => a2.mem_iff) (by rw [a2.length_eq, ← hlen]; exact hn)⟩
  have q := k1 b u e
  have hlt := Heap.lt_size q
  show (sortedHeap (h1.push (seqObj "list" acc.toList.toArray 0)) h1.objs.size acc.toList _).get? b = some u
  rw [sortedHeap_old (Nat.ne_of_lt hlt) (by rw [size_push']; exact Nat.lt_succ_of_lt hlt)]
  exact Heap.get?_push_of_some _ q
end
end Ev

set_option Elab.async false
set_option linter.all false
set_option maxRecDepth 100000
set_option autoImplicit false
/-! Ev30: the rules for sorted(set(texts)), len(set(texts)), sorted(dict). -/
namespace Ev
open PySem PySem.Spec PyProof.Rows L2
/-! ### the rules -/
theorem strsOf_txt : ∀ l : List Str, strsOf (l.map .str) = some l
  | [] => rfl
  | x :: l => by simp [strsOf, strsOf_txt l]
theorem rel_strs {K : PySem.W.Frag} {io : Nat → Addr} {F : Addr → Prop} {n : Nat} {H : Hp} : ∀ {l : List Str} {vs : List V}, RelDs K io F n H (l.map .str) vs → vs = l.map V.str
  | [], [], _ => rfl
  | [], v :: vs, h => by cases h
  | x :: l, [], h => by cases h
  | x :: l, v :: vs, h => by
    simp only [List.map_cons, RelDs, RelD] at h
    rw [h.1, rel_strs h.2]; rfl
theorem vals_strs : ∀ {us : List Value} {l : List Str}, StrsAre us l → Vals (l.map V.str) us
  | _, _, .nil => .nil
  | _, _, .cons x t h => .cons ⟨t, rfl⟩ (vals_strs h)
def textsOf (x : D) (m : Mem) : Option (List Str) := match seqOf x m with
  | some ds => (match strsOf ds with
    | some l => bif decide (l.length ≤ 4000) then some l else none
    | none => none)
  | none => none
def opSortSet : O1 := fun x m => match textsOf x m with
  | some l => some (.lst ((srtU l).map .str))
  | none => none
def opLenSet : O1 := fun x m => match textsOf x m with
  | some l => some (.int (srtU l).length)
  | none => none
def keyStrs : List Key → Option (List Str)
  | [] => some []
  | .inr s :: r => (keyStrs r).map (s :: ·)
  | .inl _ :: _ => none
theorem keyStrs_map : ∀ l : List Str, keyStrs (l.map .inr) = some l
  | [] => rfl
  | x :: l => by simp [keyStrs, keyStrs_map l]
theorem keyStrs_inv : ∀ {ks : List Key} {l : List Str}, keyStrs ks = some l → ks = l.map .inr
  | [], l, h => by simp only [keyStrs, Option.some.injEq] at h; rw [← h]; rfl
  | .inl _ :: _, l, h => by simp only [keyStrs] at h; cases h
  | .inr s :: ks, l, h => by
    simp only [keyStrs] at h
    cases q : keyStrs ks with
    | none => rw [q] at h; cases h
    | some r =>
      rw [q] at h
      cases h
      rw [keyStrs_inv q]; rfl
/-- sorted(d), d a dict of texts -/
def opSortD : OL := fun ds m => match ds with
  | [x] => (match view m x with
    | .dk ks _ => (match keyStrs ks with
      | some l => some (.lst ((srtU l).map .str))
      | none => none)
    | _ => none)
  | _ => none
section
variable {k : Nat} {X : Cx} {W : WT}
theorem c_sortD (hh : Here k W X) : CallR X (.builtin "sorted") (rC (ctOf X) opSortD) := by
  intro pins s σ H xs us Q I rx h
  obtain ⟨io, F, m, ds, S, r, z, hz, kk⟩ := h
  unfold opSortD at hz
  split at hz
  · rename_i d
    obtain ⟨v, rfl, rv⟩ := one_rel r
    split at hz
    · rename_i ks ds e1
      split at hz
      · rename_i l e2
        cases hz
        obtain ⟨a, kvs, rfl, h1, h2, h3⟩ := at_dk S rv e1
        obtain ⟨u, rfl, ru⟩ := vals1 rx
        cases ru
        obtain ⟨z1, z2, vs, kv, hd⟩ := dk_rd I.hok h1
        have hk : vs.map (·.1) = l.map Sum.inr := by rw [← keyStrs_inv e2, ← h2]; exact (KV.keys kv).symm
        have hn : vs.length ≤ sizeLine := by rw [← List.length_map (f := (·.1)), ← KV.keys kv, List.length_map]; exact z1
        refine sorted_dk hd z2 hk hn (I.ok.hd hh.calm) fun h' tk p out c ss k hp hg hi hs hm hl => ?_
        have hlen : (ss.map V.str).length ≤ sizeLine := by rw [List.length_map]; exact hl
        have hn : H p = none := I.hok.fresh hp
        have e : ss = srtU l := stc_eq hs (stc_srtU l) fun z => by rw [mem_srtU]; exact hm z
        refine ⟨.ref p, upd H p (.lst (ss.map V.str)), I.laid (t' := tk) k hp ⟨hlen, out.toList, c, vals_strs hi, hg⟩, rfl, ?_⟩
        rw [e] at *
        exact kk.newL S hn (strs_rel _ _ _ _ _ _)
      · cases hz
    · cases hz
  · cases hz
theorem texts_at {io : Nat → Addr} {F : Addr → Prop} {m : Mem} {H : Hp} {d : D} {v : V} {l : List Str} (S : Sim (ctOf X) io F m H) (rv : RelD X.K io F m.nx H d v) (e : textsOf d m = some l) :
    ∃ u, v = .ref u ∧ (SqL X.K H u (l.map V.str) ∨ SqT X.K H u (l.map V.str)) ∧ l.length ≤ 4000 := by
  unfold textsOf at e
  split at e
  · rename_i ds e1
    split at e
    · rename_i l' e2
      cases q : decide (l'.length ≤ 4000) with
      | false => rw [q] at e; cases e
      | true =>
        rw [q] at e
        cases e
        have hd := strsOf_map e2
        unfold seqOf at e1
        split at e1
        · rename_i f e3
          cases e1
          obtain ⟨u, ys, rfl, t, r⟩ := at_lst S rv e3
          rw [hd] at r
          rw [rel_strs r] at t
          exact ⟨u, rfl, .inl (.inl (.inl t)), of_decide_eq_true q⟩
        · rename_i f e3
          cases e1
          obtain ⟨u, ys, rfl, t, r⟩ := is_tup (T := ctOf X) rv e3
          rw [hd] at r
          rw [rel_strs r] at t
          exact ⟨u, rfl, .inr t.sq, of_decide_eq_true q⟩
        · cases e1
    · cases e
  · cases e
variable {a : Expr} {ca : ME} {p p2 q pos : Pos}
/-- set(texts), then more -/
theorem set_thn (hh : Here k W X) {pins : List (Addr × Obj)} {σ : L2.St} {H : Hp} {s : Shared} {l : List Str} {u : Addr} {Q : Value → Shared → Prop} (I : Inv X pins σ H s) (h : SqL X.K H u (l.map V.str) ∨ SqT X.K H u (l.map V.str)) (hl : l.length ≤ 4000)
    (hQ : ∀ (h' : Heap) (tk : Nat) c, SetRS X.w h' s.heap.objs.size (fun k' => decide (k' ∈ l)) c → Inv X pins σ H { s with heap := h', toks := tk } → Q (.ref s.heap.objs.size) { s with heap := h', toks := tk }) :
    wpAny (model X.prog X.w) X.A (call (.type "set") [.ref u]) Q X.xe s := by
  have fin : ∀ (h' : Heap) (tk : Nat), (∃ c, SetRS X.w h' s.heap.objs.size (fun k' => decide (k' ∈ l)) c) → (∀ b o, b < s.heap.objs.size → s.heap.get? b = some o → h'.get? b = some o) → Q (.ref s.heap.objs.size) { s with heap := h', toks := tk } :=
    fun h' tk ⟨c, r⟩ hk => hQ h' tk c r (I.kept fun b o e => hk b o (Heap.lt_size e) e)
  rcases h with h | h
  · obtain ⟨its, r, pl, hz⟩ := I.list h
    have hlen : its.toArray.size = l.length := by rw [List.size_toArray, ← r.length, List.length_map]
    exact set_of_list (I.ok.hd hh.calm) pl.isList (by simpa using strsAre_of r) (by rw [hlen]; unfold scanBound; omega) fin
  · obtain ⟨its, r, pl, hz⟩ := I.tuple h
    have hlen : its.toArray.size = l.length := by rw [List.size_toArray, ← r.length, List.length_map]
    exact set_of_tuple (I.ok.hd hh.calm) pl (by simpa using strsAre_of r) (by rw [hlen]; unfold scanBound; omega) fin
theorem d_sortSet (hh : Here k W X) (hg : Gl X "sorted") (hm : X.mg "sorted" = none) (hg2 : Gl X "set") (hm2 : X.mg "set" = none) (ha : PE X a (tE (ctOf X) W ca))
    (na : starEach [a] X.env = (false, eval a X.env) :: starEach [] X.env := by rfl) : PE X (.Call (.Name "sorted" p) [.Call (.Name "set" p2) [a] [] q] [] pos) (tE (ctOf X) W (mO1 opSortSet ca)) := by
  refine ⟨fun pins s σ H Q I h => ?_⟩
  refine Call_ (ld_blt I hg hm PyProof.Rows.boot_sorted ?_)
  refine PyProof.Rows.callWith_builtin1 (PyProof.Rows.args_cons ?_ rfl) rfl rfl
  refine Call_ (ld_blt I hg2 hm2 PyProof.Rows.boot_set ?_)
  refine PyProof.Rows.callWith_type1 (PyProof.Rows.args_cons (thn (ha.run pins s σ H _ I (tO1_of h)) fun v s1 ⟨x, H1, I1, r1, q1⟩ => PyProof.Rows.args_nil ?_) na) na rfl
  obtain ⟨io, F, m, d, S, rv, z, hz, kk⟩ := q1
  unfold opSortSet at hz
  split at hz
  · rename_i l e1
    cases hz
    obtain ⟨u, rfl, ht, hl⟩ := texts_at S rv e1
    cases r1
    refine set_thn hh I1 ht hl fun h1 tk c R I2 => PyProof.Rows.args_nil ?_
    refine sorted_rs (s := { s1 with heap := h1, toks := tk }) R (I2.ok.hd hh.calm) fun s' p out c2 ss kp g o hp hg' hi hs hm' hl' => ?_
    have hlen : (ss.map V.str).length ≤ sizeLine := by rw [List.length_map]; exact hl'
    have hn : H1 p = none := I2.hok.fresh hp
    have e : ss = srtU l := stc_eq hs (stc_srtU l) fun z => by rw [mem_srtU, hm']; exact decide_eq_true_iff
    have J : Inv X pins σ (upd H1 p (.lst (ss.map V.str))) { ({ s1 with heap := h1, toks := tk } : Shared) with heap := s'.heap, gens := s'.gens, drawn := s'.drawn, toks := s'.toks } :=
      I2.call (ch := []) (Un.laid kp hp hn) (I2.hok.laid kp hp ⟨hlen, out.toList, c2, vals_strs hi, hg'⟩) (by rw [g]; exact I2.bare) (fun _ z => nomatch z)
    have es : s' = { ({ s1 with heap := h1, toks := tk } : Shared) with heap := s'.heap, gens := s'.gens, drawn := s'.drawn, toks := s'.toks } := by
      cases s'
      cases s1
      cases o
      rfl
    rw [es]
    refine ⟨.ref p, _, J, rfl, ?_⟩
    rw [e]
    exact kk.newL S hn (strs_rel _ _ _ _ _ _)
  · cases hz
theorem d_lenSet (hh : Here k W X) (hg : Gl X "len") (hm : X.mg "len" = none) (hg2 : Gl X "set") (hm2 : X.mg "set" = none) (ha : PE X a (tE (ctOf X) W ca))
    (na : starEach [a] X.env = (false, eval a X.env) :: starEach [] X.env := by rfl) : PE X (.Call (.Name "len" p) [.Call (.Name "set" p2) [a] [] q] [] pos) (tE (ctOf X) W (mO1 opLenSet ca)) := by
  refine ⟨fun pins s σ H Q I h => ?_⟩
  refine Call_ (ld_blt I hg hm PySem.boot_len ?_)
  refine PyProof.Rows.callWith_builtin1 (PyProof.Rows.args_cons ?_ rfl) rfl rfl
  refine Call_ (ld_blt I hg2 hm2 PyProof.Rows.boot_set ?_)
  refine PyProof.Rows.callWith_type1 (PyProof.Rows.args_cons (thn (ha.run pins s σ H _ I (tO1_of h)) fun v s1 ⟨x, H1, I1, r1, q1⟩ => PyProof.Rows.args_nil ?_) na) na rfl
  obtain ⟨io, F, m, d, S, rv, z, hz, kk⟩ := q1
  unfold opLenSet at hz
  split at hz
  · rename_i l e1
    cases hz
    obtain ⟨u, rfl, ht, hl⟩ := texts_at S rv e1
    cases r1
    refine set_thn hh I1 ht hl fun h1 tk c R I2 => PyProof.Rows.args_nil ?_
    obtain ⟨o, es, ep, t, ho, hex, hd, g, nd, hmm, hb, hf, hn, hr, hled⟩ := R
    have hz : es.size = (srtU l).length := by
      have q := perm_srtU (m := l) nd fun z => by rw [← hmm z]; exact decide_eq_true_iff
      rw [← q.length_eq, List.length_map, Array.length_toList]
    have hsm : (srtU l).length ≤ l.length := srtU_len l
    refine call_len_set ho hex hd hf (by rw [hz]; omega) ?_
    exact ⟨.int ((srtU l).length : Nat), H1, I2.tok _, ⟨_, by rw [hz]⟩, kk.now S (by simp only [RelD])⟩
  · cases hz
/-- sorted(set(names)) in mathematics -/
theorem q_sortSet {l : List Str} {m : Mem} {x : D} {Q : D → Mem → Prop} {XX : XQ} (e : seqOf x m = some (l.map .str)) (hl : l.length ≤ 4000) (h : Q (.lst ((srtU l).map .str)) m) : wp (Res.of (opSortSet x m) m) Q XX := by
  unfold opSortSet textsOf
  rw [e]
  dsimp only
  rw [strsOf_txt]
  dsimp only
  rw [decide_eq_true hl]
  exact h
theorem q_lenSet {l : List Str} {m : Mem} {x : D} {Q : D → Mem → Prop} {XX : XQ} (e : seqOf x m = some (l.map .str)) (hl : l.length ≤ 4000) (h : Q (.int ((srtU l).length : Nat)) m) : wp (Res.of (opLenSet x m) m) Q XX := by
  unfold opLenSet textsOf
  rw [e]
  dsimp only
  rw [strsOf_txt]
  dsimp only
  rw [decide_eq_true hl]
  exact h
theorem q_sortD {l : List Str} {ds : List D} {x : D} {m : Mem} {Q : D → Mem → Prop} {XX : XQ} (e : view m x = .dk (l.map .inr) ds) (h : Q (.lst ((srtU l).map .str)) m) : wp (Res.of (opSortD [x] m) m) Q XX := by
  unfold opSortD
  dsimp only
  rw [e]
  dsimp only
  rw [keyStrs_map]
  exact h
end
end Ev

set_option Elab.async false
set_option linter.all false
set_option maxRecDepth 100000
set_option autoImplicit false
namespace BG
open PySem PySem.Spec PyProof.Rows L2 Ev 
def m__law_pen : MS :=
    (mRet (mNewD (mPc (mC (.str "cells")) (mCB opList (mCons (mSl (mV 0) mPartN (mPart (mC (.int 63)))) mNil)) (mPc (mC (.str "at")) (mC (.int 0)) (mPc (mC (.str "left")) (mC (.int 0)) mPn)))))
def g__law_pen : List D → Mem → Res D := body 1 1 (m__law_pen)
def m__law_draw : MS :=
    (mSeq (mIf (mT (mOp opGt (mOp opIx (mV 0) (mC (.str "left"))) (mC (.int 0)))) (mSeq (mSet 2 (mOp opMod (mOp opIx (mV 0) (mC (.str "left"))) (mV 1)))
    (mSeq (mDPut (mV 0) (mC (.str "left")) (mOp opDiv (mOp opIx (mV 0) (mC (.str "left"))) (mV 1)))
    (mRet (mV 2)))) mSkip)
    (mSeq (mSet 3 (mOp opIx (mV 0) (mC (.str "cells"))))
    (mSeq (mSet 4 (mOp opIx (mV 0) (mC (.str "at"))))
    (mSeq (mDPut (mV 0) (mC (.str "at")) (mOp opAdd (mV 4) (mC (.int 1))))
    (mSeq (mSet 5 (mOp opAdd (mOp opMul (mC (.int 30011)) (mV 4)) (mC (.int 77))))
    (mSeq (mIf (mT (mOp opNe (mV 3) (mLst mNil))) (mSet 5 (mOp opIx (mV 3) (mOp opMod (mV 4) (mCB opLen (mCons (mV 3) mNil))))) mSkip)
    (mSeq (mIf (mAnd (mT (mOp opLt (mV 4) (mCB opLen (mCons (mV 3) mNil)))) (mT (mOp opGe (mCB opAbs (mCons (mV 5) mNil)) (mOp opPow (mC (.int 10)) (mC (.int 18)))))) (mSeq (mDPut (mV 0) (mC (.str "left")) (mOp opDiv (mCB opAbs (mCons (mV 5) mNil)) (mV 1)))
    (mRet (mOp opMod (mCB opAbs (mCons (mV 5) mNil)) (mV 1)))) mSkip)
    (mSeq (mSet 6 (mOp opMod (mOp opPow (mOp opAdd (mOp opAdd (mOp opMod (mV 5) (mC (.int 2147483587))) (mOp opMul (mC (.int 50021)) (mV 4))) (mC (.int 29))) (mC (.int 5))) (mC (.int 2147483629))))
    (mSeq (mSet 6 (mOp opMod (mOp opPow (mOp opAdd (mOp opMul (mV 6) (mOp opAdd (mOp opMul (mC (.int 2)) (mV 4)) (mC (.int 5)))) (mC (.int 81799))) (mC (.int 3))) (mC (.int 2147483647))))
    (mRet (mOp opMod (mOp opDiv (mV 6) (mC (.int 16))) (mV 1))))))))))))
def g__law_draw : List D → Mem → Res D := body 2 7 (m__law_draw)
def m__law_letters (g__law_draw : List D → Mem → Res D) : MS :=
    (mRet (mM_join1 (mC (.str "")) (mLc [2] (mRange rng1 (mCons (mV 1) mNil)) (aName 2) mYes (mOp opIx (mC (.str "abcdefghijklmnopqrstuvwxyz")) (mCall g__law_draw (mCons (mV 0) (mCons (mC (.int 26)) mNil)))))))
def g__law_letters : List D → Mem → Res D := body 2 3 (m__law_letters g__law_draw)
def m__law_fresh (g__law_draw : List D → Mem → Res D) (g__law_letters : List D → Mem → Res D) : MS :=
    (mSeq (mSet 2 (mC (.str "any ask cast catch close else end fault give if last leave make none note on rule try while")))
    (mSeq (mSet 3 (mLst (mCons (mC (.str "let")) (mCons (mC (.str "x")) (mCons (mC (.str "g")) (mCons (mC (.str "i")) (mCons (mC (.str "onn")) (mCons (mC (.str "a")) (mCons (mC (.str "rules")) (mCons (mC (.str "tryy")) mNil))))))))))
    (mSeq (mSet 4 (mOp opIx (mLst (mCons (mCall g__law_letters (mCons (mV 0) (mCons (mOp opAdd (mC (.int 1)) (mCall g__law_draw (mCons (mV 0) (mCons (mC (.int 7)) mNil)))) mNil))) (mCons (mOp opIx (mV 3) (mCall g__law_draw (mCons (mV 0) (mCons (mC (.int 8)) mNil)))) mNil))) (mCall g__law_draw (mCons (mV 0) (mCons (mC (.int 2)) mNil)))))
    (mSeq (mIf (mOr (mT (mOp opIn (mV 4) (mV 1))) (mOr (mT (mOp opIn (mV 4) (mM_split1 (mV 2) (mC (.str " "))))) (mT (mOp opEq (mCall g__law_draw (mCons (mV 0) (mCons (mC (.int 8)) mNil))) (mC (.int 0)))))) (mRet (mOp opAdd (mC (.str "qqqqqqq")) (mOp opIx (mC (.str "abcdefghijklmnop")) (mCB opLen (mCons (mV 1) mNil))))) mSkip)
    (mRet (mV 4))))))
def g__law_fresh : List D → Mem → Res D := body 2 5 (m__law_fresh g__law_draw g__law_letters)
def m__law_names (g__law_fresh : List D → Mem → Res D) : MS :=
    (mSeq (mSet 2 (mNewL mNil))
    (mSeq (mFor (mRange rng1 (mCons (mV 1) mNil)) (aName 3) (mDrop (mL1 appD (mV 2) (mCall g__law_fresh (mCons (mV 0) (mCons (mV 2) mNil))))))
    (mSeq (mFrz 2) (mRet (mV 2)))))
def g__law_names : List D → Mem → Res D := body 2 4 (m__law_names g__law_fresh)
def m__law_leaf (g__law_draw : List D → Mem → Res D) : MS :=
    (mSeq (mSet 2 (mCall g__law_draw (mCons (mV 0) (mCons (mC (.int 6)) mNil))))
    (mSeq (mSet 3 (mLc [5, 6] (mIter (mOp opIx (mV 1) (mC (.str "heads")))) (aTup 2 (aCons (aName 5) (aCons (aName 6) aNil))) (mT (mOp opEq (mV 6) (mTup mNil))) (mV 5)))
    (mSeq (mIf (mT (mOp opEq (mV 2) (mC (.int 0)))) (mRet (mTup (mCons (mC (.str "none")) mNil))) mSkip)
    (mSeq (mIf (mAnd (mT (mOp opEq (mV 2) (mC (.int 5)))) (mT (mOp opNe (mV 3) (mLst mNil)))) (mRet (mTup (mCons (mC (.str "make")) (mCons (mOp opIx (mV 3) (mCall g__law_draw (mCons (mV 0) (mCons (mCB opLen (mCons (mV 3) mNil)) mNil)))) (mCons (mTup mNil) mNil))))) mSkip)
    (mSeq (mIf (mT (mOp opLt (mV 2) (mC (.int 3)))) (mSeq (mSet 4 (mLst (mCons (mCall g__law_draw (mCons (mV 0) (mCons (mC (.int 4)) mNil))) (mCons (mOp opSub (mCall g__law_draw (mCons (mV 0) (mCons (mC (.int 100)) mNil))) (mC (.int 50))) (mCons (mOp opSub (mOp opPow (mC (.int 10)) (mC (.int 30))) (mC (.int 1))) (mCons (mOp opAdd (mO1 opNeg (mOp opPow (mC (.int 10)) (mC (.int 30)))) (mC (.int 1))) (mCons (mCall g__law_draw (mCons (mV 0) (mCons (mOp opPow (mC (.int 10)) (mC (.int 30))) mNil))) mNil)))))))
    (mRet (mTup (mCons (mC (.str "number")) (mCons (mOp opIx (mV 4) (mCall g__law_draw (mCons (mV 0) (mCons (mC (.int 5)) mNil)))) mNil))))) mSkip)
    (mRet (mTup (mCons (mC (.str "var")) (mCons (mOp opIx (mOp opIx (mV 1) (mC (.str "pool"))) (mCall g__law_draw (mCons (mV 0) (mCons (mCB opLen (mCons (mOp opIx (mV 1) (mC (.str "pool"))) mNil)) mNil)))) mNil)))))))))
def g__law_leaf : List D → Mem → Res D := body 2 7 (m__law_leaf g__law_draw)
def m__law_expression (g__law_draw : List D → Mem → Res D) (g__law_leaf : List D → Mem → Res D) (g__law_expression : List D → Mem → Res D) : MS :=
    (mSeq (mSet 4 (mCall g__law_draw (mCons (mV 0) (mCons (mC (.int 5)) mNil))))
    (mSeq (mIf (mOr (mT (mOp opLt (mV 2) (mC (.int 3)))) (mOr (mT (mOp opLt (mV 3) (mC (.int 2)))) (mT (mOp opLt (mV 4) (mC (.int 2)))))) (mRet (mCall g__law_leaf (mCons (mV 0) (mCons (mV 1) mNil)))) mSkip)
    (mSeq (mIf (mT (mOp opLt (mV 4) (mC (.int 4)))) (mSeq (mSet 5 (mOp opAdd (mC (.int 1)) (mCall g__law_draw (mCons (mV 0) (mCons (mOp opSub (mV 2) (mC (.int 2))) mNil)))))
    (mSeq (mSet 6 (mCall g__law_expression (mCons (mV 0) (mCons (mV 1) (mCons (mV 5) (mCons (mOp opSub (mV 3) (mC (.int 1))) mNil))))))
    (mRet (mTup (mCons (mC (.str "op")) (mCons (mOp opIx (mC (.str "+-*<=")) (mCall g__law_draw (mCons (mV 0) (mCons (mC (.int 5)) mNil)))) (mCons (mV 6) (mCons (mCall g__law_expression (mCons (mV 0) (mCons (mV 1) (mCons (mOp opSub (mOp opSub (mV 2) (mC (.int 1))) (mV 5)) (mCons (mOp opSub (mV 3) (mC (.int 1))) mNil))))) mNil)))))))) mSkip)
    (mSeq (mAsg (aTup 2 (aCons (aName 7) (aCons (aName 8) aNil))) (mOp opIx (mOp opIx (mV 1) (mC (.str "heads"))) (mCall g__law_draw (mCons (mV 0) (mCons (mCB opLen (mCons (mOp opIx (mV 1) (mC (.str "heads"))) mNil)) mNil)))))
    (mSeq (mSet 9 (mOp opSub (mV 2) (mC (.int 1))))
    (mSeq (mIf (mT (mOp opGt (mCB opLen (mCons (mV 8) mNil)) (mV 9))) (mRet (mCall g__law_leaf (mCons (mV 0) (mCons (mV 1) mNil)))) mSkip)
    (mSeq (mSet 10 (mNewL mNil))
    (mSeq (mFor (mRange rng1 (mCons (mCB opLen (mCons (mV 8) mNil)) mNil)) (aName 11) (mSeq (mSet 5 (mOp opAdd (mC (.int 1)) (mCall g__law_draw (mCons (mV 0) (mCons (mOp opAdd (mOp opSub (mV 9) (mOp opSub (mCB opLen (mCons (mV 8) mNil)) (mV 11))) (mC (.int 1))) mNil)))))
    (mSeq (mDrop (mL1 appD (mV 10) (mCall g__law_expression (mCons (mV 0) (mCons (mV 1) (mCons (mV 5) (mCons (mOp opSub (mV 3) (mC (.int 1))) mNil)))))))
    (mSet 9 (mOp opSub (mV 9) (mV 5))))))
    (mRet (mTup (mCons (mC (.str "make")) (mCons (mV 7) (mCons (mCB opTuple (mCons (mV 10) mNil)) mNil)))))))))))))
def r__law_expression : Nat → List D → Mem → Res D
  | 0 => fun _ _ => .bad
  | n + 1 => body 4 12 (m__law_expression g__law_draw g__law_leaf (r__law_expression n))
def g__law_expression : List D → Mem → Res D := r__law_expression 40
def m__law_word (g__law_letters : List D → Mem → Res D) (g__law_draw : List D → Mem → Res D) : MS :=
    (mSeq (mSet 1 (mLst (mCons (mC (.str "close")) (mCons (mC (.str "ring")) (mCons (mC (.str "kind")) (mCons (mC (.str "none")) (mCons (mC (.str "anyy")) (mCons (mC (.str "e")) (mCons (mC (.str "gives")) (mCons (mC (.str "if")) mNil))))))))))
    (mSeq (mSet 2 (mOp opIx (mLst (mCons (mOp opIx (mV 1) (mCall g__law_draw (mCons (mV 0) (mCons (mC (.int 8)) mNil)))) (mCons (mCall g__law_letters (mCons (mV 0) (mCons (mOp opAdd (mC (.int 1)) (mCall g__law_draw (mCons (mV 0) (mCons (mC (.int 8)) mNil)))) mNil))) mNil))) (mCall g__law_draw (mCons (mV 0) (mCons (mC (.int 2)) mNil)))))
    (mRet (mOp opIx (mLst (mCons (mV 2) (mCons (mC (.str "an")) mNil))) (mCB opInt1 (mCons (mOp opEq (mV 2) (mC (.str "any"))) mNil))))))
def g__law_word : List D → Mem → Res D := body 1 3 (m__law_word g__law_letters g__law_draw)
def m__law_simple (g__law_draw : List D → Mem → Res D) (g__law_expression : List D → Mem → Res D) (g__law_word : List D → Mem → Res D) : MS :=
    (mSeq (mSet 3 (mCall g__law_draw (mCons (mV 0) (mCons (mOp opAdd (mC (.int 10)) (mCB opInt1 (mCons (mV 2) mNil))) mNil))))
    (mSeq (mAsg (aLst 2 (aCons (aName 4) (aCons (aName 5) aNil))) (mLc [7] (mRange rng1 (mCons (mC (.int 2)) mNil)) (aName 7) mYes (mOp opIx (mOp opIx (mV 1) (mC (.str "pool"))) (mCall g__law_draw (mCons (mV 0) (mCons (mCB opLen (mCons (mOp opIx (mV 1) (mC (.str "pool"))) mNil)) mNil))))))
    (mSeq (mSet 6 (mCall g__law_expression (mCons (mV 0) (mCons (mV 1) (mCons (mC (.int 9)) (mCons (mC (.int 4)) mNil))))))
    (mSeq (mIf (mT (mOp opLt (mV 3) (mC (.int 3)))) (mRet (mTup (mCons (mOp opIx (mLst (mCons (mC (.str "let")) (mCons (mC (.str "give")) (mCons (mC (.str "on")) mNil)))) (mV 3)) (mCons (mV 4) (mCons (mV 6) mNil))))) mSkip)
    (mSeq (mIf (mT (mOp opLt (mV 3) (mC (.int 6)))) (mRet (mTup (mCons (mOp opIx (mLst (mCons (mC (.str "note")) (mCons (mC (.str "close")) (mCons (mC (.str "end")) mNil)))) (mOp opSub (mV 3) (mC (.int 3)))) (mCons (mV 6) mNil)))) mSkip)
    (mSeq (mIf (mT (mOp opEq (mV 3) (mC (.int 6)))) (mRet (mTup (mCons (mC (.str "ask")) (mCons (mV 4) (mCons (mV 5) (mCons (mCall g__law_expression (mCons (mV 0) (mCons (mV 1) (mCons (mC (.int 3)) (mCons (mC (.int 2)) mNil))))) (mCons (mV 6) mNil))))))) mSkip)
    (mSeq (mIf (mT (mOp opEq (mV 3) (mC (.int 7)))) (mRet (mTup (mCons (mC (.str "cast")) (mCons (mV 4) (mCons (mV 5) (mCons (mCall g__law_expression (mCons (mV 0) (mCons (mV 1) (mCons (mC (.int 3)) (mCons (mC (.int 2)) mNil))))) (mCons (mCall g__law_word (mCons (mV 0) mNil)) (mCons (mV 6) mNil)))))))) mSkip)
    (mSeq (mIf (mT (mOp opEq (mV 3) (mC (.int 10)))) (mRet (mTup (mCons (mC (.str "leave")) mNil))) mSkip)
    (mRet (mOp opIx (mLst (mCons (mTup (mCons (mC (.str "fault")) (mCons (mCall g__law_word (mCons (mV 0) mNil)) (mCons (mV 6) mNil)))) (mCons (mTup (mCons (mC (.str "give")) (mCons (mV 4) (mCons (mV 6) mNil)))) mNil))) (mOp opSub (mV 3) (mC (.int 8)))))))))))))
def g__law_simple : List D → Mem → Res D := body 3 8 (m__law_simple g__law_draw g__law_expression g__law_word)
def m__law_inner : MS :=
    (mSeq (mIf (mT (mOp opEq (mOp opIx (mV 0) (mC (.int 0))) (mC (.str "if")))) (mRet (mLst (mCons (mOp opIx (mV 0) (mC (.int 2))) (mCons (mOp opIx (mV 0) (mC (.int 3))) mNil)))) mSkip)
    (mSeq (mIf (mT (mOp opEq (mOp opIx (mV 0) (mC (.int 0))) (mC (.str "while")))) (mRet (mLst (mCons (mOp opIx (mV 0) (mC (.int 2))) mNil))) mSkip)
    (mSeq (mIf (mT (mOp opEq (mOp opIx (mV 0) (mC (.int 0))) (mC (.str "try")))) (mRet (mOp opAdd (mOp opAdd (mLst (mCons (mOp opIx (mV 0) (mC (.int 1))) mNil)) (mLc [1] (mIter (mOp opIx (mV 0) (mC (.int 2)))) (aName 1) mYes (mOp opIx (mV 1) (mC (.int 2))))) (mLst (mCons (mOp opIx (mV 0) (mC (.int 3))) mNil)))) mSkip)
    (mRet (mLst mNil)))))
def g__law_inner : List D → Mem → Res D := body 1 2 (m__law_inner)
def m__law_count (g__law_inner : List D → Mem → Res D) (g__law_count : List D → Mem → Res D) : MS :=
    (mRet (mCB opSum (mCons (mLc [1] (mIter (mV 0)) (aName 1) mYes (mOp opAdd (mC (.int 1)) (mCB opSum (mCons (mLc [2] (mIter (mCall g__law_inner (mCons (mV 1) mNil))) (aName 2) mYes (mCall g__law_count (mCons (mV 2) mNil))) mNil)))) mNil)))
def r__law_count : Nat → List D → Mem → Res D
  | 0 => fun _ _ => .bad
  | n + 1 => body 1 3 (m__law_count g__law_inner (r__law_count n))
def g__law_count : List D → Mem → Res D := r__law_count 40
def m__law_try (g__law_draw : List D → Mem → Res D) (g__law_block : List D → Mem → Res D) (g__law_word : List D → Mem → Res D) : MS :=
    (mSeq (mSet 5 (mOp opAdd (mC (.int 1)) (mCall g__law_draw (mCons (mV 0) (mCons (mOp opSub (mV 4) (mC (.int 2))) mNil)))))
    (mSeq (mSet 6 (mCall g__law_block (mCons (mV 0) (mCons (mV 1) (mCons (mOp opAdd (mV 2) (mC (.int 1))) (mCons (mV 3) (mCons (mV 5) mNil)))))))
    (mSeq (mSet 7 (mOp opSub (mOp opSub (mV 4) (mC (.int 1))) (mV 5)))
    (mSeq (mSet 8 (mCB opMin (mCons (mCall g__law_draw (mCons (mV 0) (mCons (mC (.int 4)) mNil))) (mCons (mOp opSub (mV 7) (mC (.int 1))) mNil))))
    (mSeq (mSet 9 (mNewL mNil))
    (mSeq (mFor (mRange rng1 (mCons (mV 8) mNil)) (aName 10) (mSeq (mSet 11 (mOp opAdd (mC (.int 1)) (mCall g__law_draw (mCons (mV 0) (mCons (mOp opSub (mV 7) (mOp opSub (mV 8) (mV 10))) mNil)))))
    (mSeq (mSet 12 (mOp opIx (mLst (mCons (mCall g__law_word (mCons (mV 0) mNil)) (mCons (mC (.str "any")) mNil))) (mCall g__law_draw (mCons (mV 0) (mCons (mC (.int 2)) mNil)))))
    (mSeq (mSet 13 (mOp opIx (mOp opIx (mV 1) (mC (.str "pool"))) (mCall g__law_draw (mCons (mV 0) (mCons (mCB opLen (mCons (mOp opIx (mV 1) (mC (.str "pool"))) mNil)) mNil)))))
    (mSeq (mDrop (mL1 appD (mV 9) (mTup (mCons (mV 12) (mCons (mV 13) (mCons (mCall g__law_block (mCons (mV 0) (mCons (mV 1) (mCons (mOp opAdd (mV 2) (mC (.int 1))) (mCons (mV 3) (mCons (mV 11) mNil)))))) mNil))))))
    (mSet 7 (mOp opSub (mV 7) (mV 11))))))))
    (mSeq (mSet 14 (mTup mNil))
    (mSeq (mIf (mOr (mT (mOp opEq (mV 8) (mC (.int 0)))) (mT (mOp opEq (mCall g__law_draw (mCons (mV 0) (mCons (mC (.int 2)) mNil))) (mC (.int 0))))) (mSet 14 (mCall g__law_block (mCons (mV 0) (mCons (mV 1) (mCons (mOp opAdd (mV 2) (mC (.int 1))) (mCons (mV 3) (mCons (mOp opAdd (mC (.int 1)) (mCall g__law_draw (mCons (mV 0) (mCons (mV 7) mNil)))) mNil))))))) mSkip)
    (mRet (mTup (mCons (mC (.str "try")) (mCons (mV 6) (mCons (mCB opTuple (mCons (mV 9) mNil)) (mCons (mV 14) mNil))))))))))))))
def m__law_deed (g__law_draw : List D → Mem → Res D) (g__law_simple : List D → Mem → Res D) (g__law_try : List D → Mem → Res D) (g__law_expression : List D → Mem → Res D) (g__law_block : List D → Mem → Res D) : MS :=
    (mSeq (mSet 5 (mCall g__law_draw (mCons (mV 0) (mCons (mC (.int 6)) mNil))))
    (mSeq (mIf (mOr (mT (mOp opGe (mV 2) (mC (.int 5)))) (mOr (mT (mOp opLt (mV 4) (mC (.int 4)))) (mT (mOp opLt (mV 5) (mC (.int 3)))))) (mRet (mCall g__law_simple (mCons (mV 0) (mCons (mV 1) (mCons (mV 3) mNil))))) mSkip)
    (mSeq (mIf (mT (mOp opEq (mV 5) (mC (.int 5)))) (mRet (mCall g__law_try (mCons (mV 0) (mCons (mV 1) (mCons (mV 2) (mCons (mV 3) (mCons (mV 4) mNil))))))) mSkip)
    (mSeq (mSet 6 (mCall g__law_expression (mCons (mV 0) (mCons (mV 1) (mCons (mC (.int 5)) (mCons (mC (.int 3)) mNil))))))
    (mSeq (mSet 7 (mOp opAdd (mC (.int 1)) (mCall g__law_draw (mCons (mV 0) (mCons (mOp opSub (mV 4) (mC (.int 2))) mNil)))))
    (mSeq (mSet 8 (mCall g__law_block (mCons (mV 0) (mCons (mV 1) (mCons (mOp opAdd (mV 2) (mC (.int 1))) (mCons (mOrV (mV 3) (mOp opEq (mV 5) (mC (.int 4)))) (mCons (mV 7) mNil)))))))
    (mSeq (mIf (mT (mOp opEq (mV 5) (mC (.int 4)))) (mRet (mTup (mCons (mC (.str "while")) (mCons (mV 6) (mCons (mV 8) mNil))))) mSkip)
    (mSeq (mSet 9 (mTup mNil))
    (mSeq (mIf (mT (mOp opEq (mCall g__law_draw (mCons (mV 0) (mCons (mC (.int 2)) mNil))) (mC (.int 0)))) (mSet 9 (mCall g__law_block (mCons (mV 0) (mCons (mV 1) (mCons (mOp opAdd (mV 2) (mC (.int 1))) (mCons (mV 3) (mCons (mOp opSub (mOp opSub (mV 4) (mC (.int 1))) (mV 7)) mNil))))))) mSkip)
    (mRet (mTup (mCons (mC (.str "if")) (mCons (mV 6) (mCons (mV 8) (mCons (mV 9) mNil)))))))))))))))
def m__law_block (g__law_draw : List D → Mem → Res D) (g__law_deed : List D → Mem → Res D) (g__law_count : List D → Mem → Res D) : MS :=
    (mSeq (mSet 5 (mNewL mNil))
    (mSeq (mSet 6 (mOp opAdd (mC (.int 1)) (mCall g__law_draw (mCons (mV 0) (mCons (mC (.int 4)) mNil)))))
    (mSeq (mWhile fuelW (mAnd (mT (mOp opGt (mV 4) (mC (.int 0)))) (mT (mOp opLt (mCB opLen (mCons (mV 5) mNil)) (mV 6)))) (mSeq (mSet 7 (mCall g__law_deed (mCons (mV 0) (mCons (mV 1) (mCons (mV 2) (mCons (mV 3) (mCons (mV 4) mNil)))))))
    (mSeq (mDrop (mL1 appD (mV 5) (mV 7)))
    (mSet 4 (mOp opSub (mV 4) (mCall g__law_count (mCons (mTup (mCons (mV 7) mNil)) mNil)))))))
    (mRet (mCB opTuple (mCons (mV 5) mNil))))))
mutual
def r__law_try : Nat → List D → Mem → Res D
  | 0 => fun _ _ => .bad
  | n + 1 => body 5 15 (m__law_try g__law_draw (r__law_block n) g__law_word)
def r__law_deed : Nat → List D → Mem → Res D
  | 0 => fun _ _ => .bad
  | n + 1 => body 5 10 (m__law_deed g__law_draw g__law_simple (r__law_try n) g__law_expression (r__law_block n))
def r__law_block : Nat → List D → Mem → Res D
  | 0 => fun _ _ => .bad
  | n + 1 => body 5 8 (m__law_block g__law_draw (r__law_deed n) g__law_count)
end
def g__law_try : List D → Mem → Res D := r__law_try 40
def g__law_deed : List D → Mem → Res D := r__law_deed 40
def g__law_block : List D → Mem → Res D := r__law_block 40
def m__law_book (g__law_names : List D → Mem → Res D) (g__law_draw : List D → Mem → Res D) (g__law_fresh : List D → Mem → Res D) (g__law_block : List D → Mem → Res D) : MS :=
    (mSeq (mSet 3 (mCall g__law_names (mCons (mV 0) (mCons (mOp opAdd (mC (.int 1)) (mCall g__law_draw (mCons (mV 0) (mCons (mV 1) mNil)))) mNil))))
    (mSeq (mSet 4 (mLc [6] (mIter (mV 3)) (aName 6) mYes (mTup (mCons (mV 6) (mCons (mCB opTuple (mCons (mCall g__law_names (mCons (mV 0) (mCons (mCall g__law_draw (mCons (mV 0) (mCons (mC (.int 4)) mNil))) mNil))) mNil)) mNil)))))
    (mSeq (mSet 5 (mNewL mNil))
    (mSeq (mFor (mIter (mV 4)) (aTup 2 (aCons (aName 6) (aCons (aName 7) aNil))) (mSeq (mSet 8 (mNewList (mV 7)))
    (mSeq (mFor (mRange rng1 (mCons (mOp opAdd (mC (.int 1)) (mCall g__law_draw (mCons (mV 0) (mCons (mOp opSub (mC (.int 12)) (mCB opLen (mCons (mV 7) mNil))) mNil)))) mNil)) (aName 9) (mDrop (mL1 appD (mV 8) (mCall g__law_fresh (mCons (mV 0) (mCons (mV 8) mNil))))))
    (mSeq (mSeq (mFrz 8) (mSet 10 (mDict (mPc (mC (.str "heads")) (mV 4) (mPc (mC (.str "pool")) (mV 8) mPn)))))
    (mDrop (mL1 appD (mV 5) (mTup (mCons (mV 6) (mCons (mV 7) (mCons (mCall g__law_block (mCons (mV 0) (mCons (mV 10) (mCons (mC (.int 1)) (mCons (mC (.bl false)) (mCons (mOp opAdd (mC (.int 1)) (mCall g__law_draw (mCons (mV 0) (mCons (mV 2) mNil)))) mNil)))))) mNil))))))))))
    (mRet (mCB opTuple (mCons (mV 5) mNil)))))))
def g__law_book : List D → Mem → Res D := body 3 11 (m__law_book g__law_names g__law_draw g__law_fresh g__law_block)
end BG

set_option Elab.async false
set_option linter.all false
set_option maxRecDepth 100000
set_option autoImplicit false
/-! BGa: books as a type of their own; what a book's value is like. -/
namespace BG
open PySem PySem.Spec PyProof.Rows L2 Ev
mutual
inductive Ex where
  | non | num (i : Int) | var (x : Str) | op (s : Str) (a b : Ex) | mk (f : Str) (as : Exs)
inductive Exs where
  | nil | cons (e : Ex) (es : Exs)
end
mutual
inductive Deed where
  | lt (x : Str) (e : Ex) | give (x : Str) (e : Ex) | on (x : Str) (e : Ex) | note (e : Ex) | close (e : Ex) | fin (e : Ex)
  | ask (x y : Str) (a e : Ex) | cast (x y : Str) (a : Ex) (w : Str) (e : Ex) | leave | fault (w : Str) (e : Ex)
  | ifd (e : Ex) (b c : Blk) | whl (e : Ex) (b : Blk) | tr (b : Blk) (cs : Cts) (l : Blk)
inductive Blk where
  | nil | cons (d : Deed) (b : Blk)
inductive Cts where
  | nil | cons (w x : Str) (b : Blk) (cs : Cts)
end
mutual
def Ex.d : Ex → D
  | .non => .tup [.str "none"]
  | .num i => .tup [.str "number", .int i]
  | .var x => .tup [.str "var", .str x]
  | .op s a b => .tup [.str "op", .str s, a.d, b.d]
  | .mk f as => .tup [.str "make", .str f, .tup as.ds]
def Exs.ds : Exs → List D
  | .nil => []
  | .cons e es => e.d :: es.ds
end
mutual
def Deed.d : Deed → D
  | .lt x e => .tup [.str "let", .str x, e.d]
  | .give x e => .tup [.str "give", .str x, e.d]
  | .on x e => .tup [.str "on", .str x, e.d]
  | .note e => .tup [.str "note", e.d]
  | .close e => .tup [.str "close", e.d]
  | .fin e => .tup [.str "end", e.d]
  | .ask x y a e => .tup [.str "ask", .str x, .str y, a.d, e.d]
  | .cast x y a w e => .tup [.str "cast", .str x, .str y, a.d, .str w, e.d]
  | .leave => .tup [.str "leave"]
  | .fault w e => .tup [.str "fault", .str w, e.d]
  | .ifd e b c => .tup [.str "if", e.d, .tup b.ds, .tup c.ds]
  | .whl e b => .tup [.str "while", e.d, .tup b.ds]
  | .tr b cs l => .tup [.str "try", .tup b.ds, .tup cs.ds, .tup l.ds]
def Blk.ds : Blk → List D
  | .nil => []
  | .cons d b => d.d :: b.ds
def Cts.ds : Cts → List D
  | .nil => []
  | .cons w x b cs => .tup [.str w, .str x, .tup b.ds] :: cs.ds
end
/-- a short text -/
def okS (s : Str) : Bool := PyData.strOk s && decide (s.length ≤ 20)
mutual
def Ex.ok : Ex → Bool
  | .non => true
  | .num i => decide (i.natAbs < 10 ^ 30)
  | .var x => okS x
  | .op s a b => okS s && a.ok && b.ok
  | .mk f as => okS f && as.ok
def Exs.ok : Exs → Bool
  | .nil => true
  | .cons e es => e.ok && es.ok
end
mutual
/-- how many tuples, how deep -/
def Ex.sz : Ex → Nat
  | .op _ a b => 1 + a.sz + b.sz
  | .mk _ as => 1 + as.sz
  | _ => 1
def Exs.sz : Exs → Nat
  | .nil => 0
  | .cons e es => e.sz + es.sz
end
mutual
def Ex.dp : Ex → Nat
  | .op _ a b => 1 + max a.dp b.dp
  | .mk _ as => 1 + as.dp
  | _ => 1
def Exs.dp : Exs → Nat
  | .nil => 0
  | .cons e es => max e.dp es.dp
end
def Cts.many : Cts → Nat
  | .nil => 0
  | .cons _ _ _ cs => cs.many + 1
/-- small enough -/
def Ex.okk (e : Ex) : Bool := e.ok && decide (e.sz ≤ 9) && decide (e.dp ≤ 4)
mutual
def Deed.ok : Deed → Bool
  | .lt x e => okS x && e.okk
  | .give x e => okS x && e.okk
  | .on x e => okS x && e.okk
  | .note e => e.okk
  | .close e => e.okk
  | .fin e => e.okk
  | .ask x y a e => okS x && okS y && a.okk && e.okk
  | .cast x y a w e => okS x && okS y && a.okk && okS w && e.okk
  | .leave => true
  | .fault w e => okS w && e.okk
  | .ifd e b c => e.okk && b.ok && c.ok
  | .whl e b => e.okk && b.ok
  | .tr b cs l => b.ok && cs.ok && l.ok && decide (cs.many ≤ 3)
def Blk.ok : Blk → Bool
  | .nil => true
  | .cons d b => d.ok && b.ok
def Cts.ok : Cts → Bool
  | .nil => true
  | .cons w x b cs => okS w && okS x && b.ok && cs.ok
end
mutual
def Deed.cnt : Deed → Nat
  | .ifd _ b c => 1 + b.cnt + c.cnt
  | .whl _ b => 1 + b.cnt
  | .tr b cs l => 1 + b.cnt + cs.cnt + l.cnt
  | _ => 1
def Blk.cnt : Blk → Nat
  | .nil => 0
  | .cons d b => d.cnt + b.cnt
def Cts.cnt : Cts → Nat
  | .nil => 0
  | .cons _ _ b cs => b.cnt + cs.cnt
end
mutual
def Deed.nest : Deed → Nat
  | .ifd _ b c => 1 + max b.nest c.nest
  | .whl _ b => 1 + b.nest
  | .tr b cs l => 1 + max b.nest (max cs.nest l.nest)
  | _ => 0
def Blk.nest : Blk → Nat
  | .nil => 0
  | .cons d b => max d.nest b.nest
def Cts.nest : Cts → Nat
  | .nil => 0
  | .cons _ _ b cs => max b.nest cs.nest
end
def Blk.app : Blk → Deed → Blk
  | .nil, e => .cons e .nil
  | .cons d b, e => .cons d (b.app e)
def Cts.app : Cts → Str → Str → Blk → Cts
  | .nil, w, x, b => .cons w x b .nil
  | .cons w' x' b' cs, w, x, b => .cons w' x' b' (cs.app w x b)
def Exs.app : Exs → Ex → Exs
  | .nil, e => .cons e .nil
  | .cons d b, e => .cons d (b.app e)
theorem Blk.app_ds : ∀ (b : Blk) (e : Deed), (b.app e).ds = b.ds ++ [e.d]
  | .nil, e => by simp only [Blk.app, Blk.ds, List.nil_append]
  | .cons d b, e => by simp only [Blk.app, Blk.ds, Blk.app_ds b e, List.cons_append]
theorem Cts.app_ds : ∀ (cs : Cts) (w x : Str) (b : Blk), (cs.app w x b).ds = cs.ds ++ [.tup [.str w, .str x, .tup b.ds]]
  | .nil, w, x, b => by simp only [Cts.app, Cts.ds, List.nil_append]
  | .cons w' x' b' cs, w, x, b => by simp only [Cts.app, Cts.ds, Cts.app_ds cs w x b, List.cons_append]
theorem Exs.app_ds : ∀ (b : Exs) (e : Ex), (b.app e).ds = b.ds ++ [e.d]
  | .nil, e => by simp only [Exs.app, Exs.ds, List.nil_append]
  | .cons d b, e => by simp only [Exs.app, Exs.ds, Exs.app_ds b e, List.cons_append]
theorem Blk.app_cnt : ∀ (b : Blk) (e : Deed), (b.app e).cnt = b.cnt + e.cnt
  | .nil, e => by simp only [Blk.app, Blk.cnt]; omega
  | .cons d b, e => by simp only [Blk.app, Blk.cnt, Blk.app_cnt b e]; omega
theorem Cts.app_cnt : ∀ (cs : Cts) (w x : Str) (b : Blk), (cs.app w x b).cnt = cs.cnt + b.cnt
  | .nil, w, x, b => by simp only [Cts.app, Cts.cnt]; omega
  | .cons w' x' b' cs, w, x, b => by simp only [Cts.app, Cts.cnt, Cts.app_cnt cs w x b]; omega
theorem Exs.app_sz : ∀ (b : Exs) (e : Ex), (b.app e).sz = b.sz + e.sz
  | .nil, e => by simp only [Exs.app, Exs.sz]; omega
  | .cons d b, e => by simp only [Exs.app, Exs.sz, Exs.app_sz b e]; omega
theorem Exs.app_dp : ∀ (b : Exs) (e : Ex), (b.app e).dp = max b.dp e.dp
  | .nil, e => by simp only [Exs.app, Exs.dp]; omega
  | .cons d b, e => by simp only [Exs.app, Exs.dp, Exs.app_dp b e]; omega
theorem Blk.app_nest : ∀ (b : Blk) (e : Deed), (b.app e).nest = max b.nest e.nest
  | .nil, e => by simp only [Blk.app, Blk.nest]; omega
  | .cons d b, e => by simp only [Blk.app, Blk.nest, Blk.app_nest b e]; omega
theorem Cts.app_nest : ∀ (cs : Cts) (w x : Str) (b : Blk), (cs.app w x b).nest = max cs.nest b.nest
  | .nil, w, x, b => by simp only [Cts.app, Cts.nest]; omega
  | .cons w' x' b' cs, w, x, b => by simp only [Cts.app, Cts.nest, Cts.app_nest cs w x b]; omega
theorem Blk.app_ok : ∀ (b : Blk) (e : Deed), (b.app e).ok = (b.ok && e.ok)
  | .nil, e => by simp only [Blk.app, Blk.ok, Bool.and_true, Bool.true_and]
  | .cons d b, e => by simp only [Blk.app, Blk.ok, Blk.app_ok b e, Bool.and_assoc]
theorem Cts.app_many : ∀ (cs : Cts) (w x : Str) (b : Blk), (cs.app w x b).many = cs.many + 1
  | .nil, w, x, b => by simp only [Cts.app, Cts.many]
  | .cons w' x' b' cs, w, x, b => by simp only [Cts.app, Cts.many, Cts.app_many cs w x b]
theorem Cts.app_ok : ∀ (cs : Cts) (w x : Str) (b : Blk), (cs.app w x b).ok = (cs.ok && (okS w && okS x && b.ok))
  | .nil, w, x, b => by simp only [Cts.app, Cts.ok, Bool.and_true, Bool.true_and]
  | .cons w' x' b' cs, w, x, b => by simp only [Cts.app, Cts.ok, Cts.app_ok cs w x b, Bool.and_assoc]
theorem Exs.app_ok : ∀ (b : Exs) (e : Ex), (b.app e).ok = (b.ok && e.ok)
  | .nil, e => by simp only [Exs.app, Exs.ok, Bool.and_true, Bool.true_and]
  | .cons d b, e => by simp only [Exs.app, Exs.ok, Exs.app_ok b e, Bool.and_assoc]
/-! values -/
structure Fac (d : D) (k n : Nat) : Prop where
  pl : plD d = true
  nb : nbD d = true
  i : inD d = true
  dp : dpD d ≤ k
  sz : szD d ≤ n
structure FacL (ds : List D) (k n : Nat) : Prop where
  pl : plDs ds = true
  nb : nbDs ds = true
  i : inDs ds = true
  dp : dpDs ds ≤ k
  sz : szDs ds ≤ n
theorem Fac.mono {d : D} {k n k' n' : Nat} (h : Fac d k n) (hk : k ≤ k') (hn : n ≤ n') : Fac d k' n' := ⟨h.pl, h.nb, h.i, Nat.le_trans h.dp hk, Nat.le_trans h.sz hn⟩
theorem FacL.mono {d : List D} {k n k' n' : Nat} (h : FacL d k n) (hk : k ≤ k') (hn : n ≤ n') : FacL d k' n' := ⟨h.pl, h.nb, h.i, Nat.le_trans h.dp hk, Nat.le_trans h.sz hn⟩
theorem FacL.nil : FacL [] 0 0 := ⟨rfl, rfl, rfl, Nat.le_refl _, Nat.le_refl _⟩
theorem FacL.cons {d : D} {ds : List D} {k n m : Nat} (h : Fac d k n) (hs : FacL ds k m) : FacL (d :: ds) k (n + 2 + m) := by
  obtain ⟨a1, a2, a3, a4, a5⟩ := h
  obtain ⟨b1, b2, b3, b4, b5⟩ := hs
  exact ⟨by simp only [plDs, a1, b1, Bool.and_self], by simp only [nbDs, a2, b2, Bool.and_self], by simp only [inDs, a3, b3, Bool.and_self], by simp only [dpDs]; omega, by simp only [szDs]; omega⟩
theorem FacL.cons' {d : D} {ds : List D} {k n m t : Nat} (h : Fac d k n) (hs : FacL ds k m) (ht : n + 2 + m ≤ t) : FacL (d :: ds) k t := (FacL.cons h hs).mono (Nat.le_refl _) ht
theorem Fac.tup {ds : List D} {k n : Nat} (h : FacL ds k n) : Fac (.tup ds) (k + 1) (n + 3) := by
  obtain ⟨b1, b2, b3, b4, b5⟩ := h
  exact ⟨by simp only [plD, b1], by simp only [nbD, b2], by simp only [inD, b3], by simp only [dpD]; omega, by simp only [szD]; omega⟩
theorem Fac.lst {ds : List D} {k n : Nat} (h : FacL ds k n) : Fac (.lst ds) (k + 1) (n + 3) := by
  obtain ⟨b1, b2, b3, b4, b5⟩ := h
  exact ⟨by simp only [plD, b1], by simp only [nbD, b2], by simp only [inD, b3], by simp only [dpD]; omega, by simp only [szD]; omega⟩
theorem fac_str {s : Str} (h : okS s = true) : Fac (.str s) 0 202 := by
  unfold okS at h
  rw [Bool.and_eq_true, decide_eq_true_eq] at h
  exact ⟨by simp only [plD]; exact h.1, rfl, rfl, Nat.le_refl _, by simp only [szD]; omega⟩
theorem fac_int {i : Int} (h : i.natAbs < 10 ^ 30) : Fac (.int i) 0 152 := by
  have l := log2_lt (n := i.natAbs) (k := 149) (Nat.lt_trans h (by decide))
  exact ⟨rfl, rfl, by simp only [inD]; exact decide_eq_true (by omega), Nat.le_refl _, by simp only [szD]; omega⟩
theorem Fac.sh {d : D} {k n : Nat} (h : Fac d k n) (hk : k ≤ 64) (hn : n ≤ 16000000) : Sh d := ⟨h.pl, Nat.le_trans h.dp hk, h.i, Nat.le_trans h.sz hn⟩
theorem Fac.ple {d : D} {k n : Nat} (h : Fac d k n) (hk : k ≤ 64) : Pl d := ⟨h.pl, Nat.le_trans h.dp hk⟩
theorem fac1 {a : D} {k n : Nat} (h : Fac a k n) : FacL [a] k (n + 2) := FacL.cons h (FacL.nil.mono (Nat.zero_le _) (Nat.le_refl _))
theorem tag_ok {s : Str} (h : okS s = true) {k : Nat} : Fac (.str s) k 202 := (fac_str h).mono (Nat.zero_le _) (Nat.le_refl _)
theorem Ex.sz_pos (e : Ex) : 1 ≤ e.sz := by cases e <;> simp only [Ex.sz] <;> omega
mutual
theorem Ex.fac : ∀ (e : Ex), e.ok = true → Fac e.d (2 * e.dp) (1000 * e.sz - 10)
  | .non, _ => by
    simp only [Ex.d, Ex.dp, Ex.sz]
    exact (Fac.tup (fac1 (tag_ok (k := 0) (by decide +kernel)))).mono (by omega) (by omega)
  | .num i, h => by
    simp only [Ex.ok, decide_eq_true_eq] at h
    simp only [Ex.d, Ex.dp, Ex.sz]
    exact (Fac.tup (FacL.cons (tag_ok (by decide +kernel)) (fac1 (fac_int h)))).mono (by omega) (by omega)
  | .var x, h => by
    simp only [Ex.ok] at h
    simp only [Ex.d, Ex.dp, Ex.sz]
    exact (Fac.tup (FacL.cons (tag_ok (by decide +kernel)) (fac1 (fac_str h)))).mono (by omega) (by omega)
  | .op s a b, h => by
    simp only [Ex.ok, Bool.and_eq_true] at h
    have ha := a.fac h.1.2
    have hb := b.fac h.2
    have p1 := a.sz_pos
    have p2 := b.sz_pos
    simp only [Ex.d, Ex.dp, Ex.sz]
    refine (Fac.tup (FacL.cons (tag_ok (by decide +kernel)) (FacL.cons (tag_ok h.1.1) (FacL.cons (ha.mono (k' := 2 * max a.dp b.dp) (by omega) (Nat.le_refl _)) (fac1 (hb.mono (by omega) (Nat.le_refl _))))))).mono (by omega) (by omega)
  | .mk f as, h => by
    simp only [Ex.ok, Bool.and_eq_true] at h
    have ha := as.fac h.2
    simp only [Ex.d, Ex.dp, Ex.sz]
    refine (Fac.tup (FacL.cons (tag_ok (by decide +kernel)) (FacL.cons (tag_ok h.1) (fac1 (Fac.tup ha))))).mono (by omega) (by omega)
theorem Exs.fac : ∀ (es : Exs), es.ok = true → FacL es.ds (2 * es.dp) (1000 * es.sz)
  | .nil, _ => by
    simp only [Exs.ds, Exs.dp, Exs.sz]
    exact FacL.nil
  | .cons e es, h => by
    simp only [Exs.ok, Bool.and_eq_true] at h
    have h1 := e.fac h.1
    have h2 := es.fac h.2
    have := e.sz_pos
    simp only [Exs.ds, Exs.dp, Exs.sz]
    exact FacL.cons' (h1.mono (by omega) (Nat.le_refl _)) (h2.mono (by omega) (Nat.le_refl _)) (by omega)
end
theorem Ex.facc {e : Ex} (h : e.okk = true) : Fac e.d 8 9000 := by
  simp only [Ex.okk, Bool.and_eq_true, decide_eq_true_eq] at h
  exact (e.fac h.1.1).mono (by omega) (by omega)
theorem Deed.cnt_pos (d : Deed) : 1 ≤ d.cnt := by cases d <;> simp only [Deed.cnt] <;> omega
mutual
theorem Deed.fac : ∀ (d : Deed), d.ok = true → Fac d.d (9 + 4 * d.nest) (30000 * d.cnt - 100)
  | .lt x e, h => by
    simp only [Deed.ok, Bool.and_eq_true] at h
    simp only [Deed.d, Deed.nest, Deed.cnt]
    exact (Fac.tup (FacL.cons (tag_ok (by decide +kernel)) (FacL.cons (tag_ok h.1) (fac1 (Ex.facc h.2))))).mono (by omega) (by omega)
  | .give x e, h => by
    simp only [Deed.ok, Bool.and_eq_true] at h
    simp only [Deed.d, Deed.nest, Deed.cnt]
    exact (Fac.tup (FacL.cons (tag_ok (by decide +kernel)) (FacL.cons (tag_ok h.1) (fac1 (Ex.facc h.2))))).mono (by omega) (by omega)
  | .on x e, h => by
    simp only [Deed.ok, Bool.and_eq_true] at h
    simp only [Deed.d, Deed.nest, Deed.cnt]
    exact (Fac.tup (FacL.cons (tag_ok (by decide +kernel)) (FacL.cons (tag_ok h.1) (fac1 (Ex.facc h.2))))).mono (by omega) (by omega)
  | .note e, h => by
    simp only [Deed.ok] at h
    simp only [Deed.d, Deed.nest, Deed.cnt]
    exact (Fac.tup (FacL.cons (tag_ok (by decide +kernel)) (fac1 (Ex.facc h)))).mono (by omega) (by omega)
  | .close e, h => by
    simp only [Deed.ok] at h
    simp only [Deed.d, Deed.nest, Deed.cnt]
    exact (Fac.tup (FacL.cons (tag_ok (by decide +kernel)) (fac1 (Ex.facc h)))).mono (by omega) (by omega)
  | .fin e, h => by
    simp only [Deed.ok] at h
    simp only [Deed.d, Deed.nest, Deed.cnt]
    exact (Fac.tup (FacL.cons (tag_ok (by decide +kernel)) (fac1 (Ex.facc h)))).mono (by omega) (by omega)
  | .ask x y a e, h => by
    simp only [Deed.ok, Bool.and_eq_true] at h
    simp only [Deed.d, Deed.nest, Deed.cnt]
    exact (Fac.tup (FacL.cons (tag_ok (by decide +kernel)) (FacL.cons (tag_ok h.1.1.1) (FacL.cons (tag_ok h.1.1.2) (FacL.cons (Ex.facc h.1.2) (fac1 (Ex.facc h.2))))))).mono (by omega) (by omega)
  | .cast x y a w e, h => by
    simp only [Deed.ok, Bool.and_eq_true] at h
    simp only [Deed.d, Deed.nest, Deed.cnt]
    exact (Fac.tup (FacL.cons (tag_ok (by decide +kernel)) (FacL.cons (tag_ok h.1.1.1.1) (FacL.cons (tag_ok h.1.1.1.2) (FacL.cons (Ex.facc h.1.1.2) (FacL.cons (tag_ok h.1.2) (fac1 (Ex.facc h.2)))))))).mono (by omega) (by omega)
  | .leave, h => by
    simp only [Deed.d, Deed.nest, Deed.cnt]
    exact (Fac.tup (fac1 (tag_ok (k := 0) (by decide +kernel)))).mono (by omega) (by omega)
  | .fault w e, h => by
    simp only [Deed.ok, Bool.and_eq_true] at h
    simp only [Deed.d, Deed.nest, Deed.cnt]
    exact (Fac.tup (FacL.cons (tag_ok (by decide +kernel)) (FacL.cons (tag_ok h.1) (fac1 (Ex.facc h.2))))).mono (by omega) (by omega)
  | .ifd e b c, h => by
    simp only [Deed.ok, Bool.and_eq_true] at h
    have hb := Fac.tup (b.fac h.1.2)
    have hc := Fac.tup (c.fac h.2)
    simp only [Deed.d, Deed.nest, Deed.cnt]
    exact (Fac.tup (FacL.cons (k := 10 + 4 * max b.nest c.nest) (tag_ok (by decide +kernel)) (FacL.cons ((Ex.facc h.1.1).mono (by omega) (Nat.le_refl _)) (FacL.cons (hb.mono (by omega) (Nat.le_refl _)) (fac1 (hc.mono (by omega) (Nat.le_refl _))))))).mono (by omega) (by omega)
  | .whl e b, h => by
    simp only [Deed.ok, Bool.and_eq_true] at h
    have hb := Fac.tup (b.fac h.2)
    simp only [Deed.d, Deed.nest, Deed.cnt]
    exact (Fac.tup (FacL.cons (k := 10 + 4 * b.nest) (tag_ok (by decide +kernel)) (FacL.cons ((Ex.facc h.1).mono (by omega) (Nat.le_refl _)) (fac1 (hb.mono (by omega) (Nat.le_refl _)))))).mono (by omega) (by omega)
  | .tr b cs l, h => by
    simp only [Deed.ok, Bool.and_eq_true, decide_eq_true_eq] at h
    have hb := Fac.tup (b.fac h.1.1.1)
    have hc := Fac.tup (cs.fac h.1.1.2)
    have hl := Fac.tup (l.fac h.1.2)
    have hm := h.2
    simp only [Deed.d, Deed.nest, Deed.cnt]
    exact (Fac.tup (FacL.cons (k := 12 + 4 * max b.nest (max cs.nest l.nest)) (tag_ok (by decide +kernel)) (FacL.cons (hb.mono (by omega) (Nat.le_refl _)) (FacL.cons (hc.mono (by omega) (Nat.le_refl _)) (fac1 (hl.mono (by omega) (Nat.le_refl _))))))).mono (by omega) (by omega)
theorem Blk.fac : ∀ (b : Blk), b.ok = true → FacL b.ds (9 + 4 * b.nest) (30000 * b.cnt)
  | .nil, _ => by
    simp only [Blk.ds]
    exact FacL.nil.mono (Nat.zero_le _) (Nat.zero_le _)
  | .cons d b, h => by
    simp only [Blk.ok, Bool.and_eq_true] at h
    have h1 := d.fac h.1
    have h2 := b.fac h.2
    have := d.cnt_pos
    simp only [Blk.ds, Blk.nest, Blk.cnt]
    exact FacL.cons' (h1.mono (by omega) (Nat.le_refl _)) (h2.mono (by omega) (Nat.le_refl _)) (by omega)
theorem Cts.fac : ∀ (cs : Cts), cs.ok = true → FacL cs.ds (11 + 4 * cs.nest) (30000 * cs.cnt + 1000 * cs.many)
  | .nil, _ => by
    simp only [Cts.ds]
    exact FacL.nil.mono (Nat.zero_le _) (Nat.zero_le _)
  | .cons w x b cs, h => by
    simp only [Cts.ok, Bool.and_eq_true] at h
    have h1 := Fac.tup (b.fac h.1.2)
    have h2 := cs.fac h.2
    simp only [Cts.ds, Cts.nest, Cts.cnt, Cts.many]
    exact FacL.cons' ((Fac.tup (FacL.cons (tag_ok h.1.1.1) (FacL.cons (tag_ok h.1.1.2) (fac1 h1)))).mono (by omega) (Nat.le_refl _)) (h2.mono (by omega) (Nat.le_refl _)) (by omega)
end
end BG

set_option Elab.async false
set_option linter.all false
set_option maxRecDepth 100000
set_option autoImplicit false
/-! BGb: what the law draws: letters, names, words, leaves. -/
namespace BG
open PySem PySem.Spec PyProof.Rows L2 Ev
theorem draw_ {t : Nat} {n : Int} {m0 m : Mem} {Q : D → Mem → Prop} {XX : XQ} (p : PM t m) (c : Ch m0 m) (ht : t < 2 ^ 31) (hn : 0 < n) (hl : n.natAbs.log2 < 9000)
    (k : ∀ d m', PM (t + 1) m' → Ch m0 m' → 0 ≤ d → d < n → Q (.int d) m') : wp (g__law_draw [.ref 0, .int n] m) Q XX := w_drawC p c ht hn hl k
theorem pen_ (ns : List Int) (hn : ns.length ≤ 63) : wp (g__law_pen [.scr ns] mem0) (fun v m => v = .ref 0 ∧ PM 0 m) noX := by
  refine w_body rfl ?_
  unfold m__law_pen
  (repeat' (first | (with_reducible first | refine w_ret ?_ | refine v_c ?_ | refine v_cb ?_ | refine a_nil ?_ | refine a_cons ?_ | refine v_sl ?_ | refine o_partN ?_ | refine o_part ?_ | refine p_nil ?_ | refine p_cons ?_ | refine v_newD ?_ | refine q_listL ?_ | refine ex_part ?_) | (with_reducible refine v_vx ?_; refine ex_v rfl ?_) | ((fail_if_success (with_reducible refine i_rng ?_ ?_ ?_)); (with_reducible refine wp_ofx ?_; refine ex_o rfl ?_)) | ((with_reducible refine dictN_id ?_); (refine ex_newD (by repeat (first | exact DK.nil | apply DK.s | apply DK.i)) (by decide +kernel) (by decide) ?_)) | fail))
  exact ⟨rfl, pm_new (by exact cut_len ns 63)⟩
/-! letters -/
theorem ok_join {ts : List Str} (h : ∀ t ∈ ts, ∃ c, t = ⟨#[c]⟩ ∧ c < 0x110000) (hl : ts.length ≤ 8) : okS (Txt.join "" ts) = true := by
  have e : Txt.join "" ts = Str.join "" ts := StrLaws.glued_eq_join _ _
  rw [e]
  unfold okS
  rw [Bool.and_eq_true, decide_eq_true_eq]
  have sum : ∀ l : List Str, (∀ t ∈ l, ∃ c, t = ⟨#[c]⟩ ∧ c < 0x110000) → (l.map (·.length)).sum = l.length := by
    intro l
    induction l with
    | nil => intro _; rfl
    | cons a l ih =>
      intro h
      obtain ⟨c, hc, _⟩ := h a (List.mem_cons_self ..)
      rw [List.map_cons, List.sum_cons, ih fun t ht => h t (List.mem_cons_of_mem _ ht), List.length_cons, hc]
      show 1 + _ = _
      omega
  refine ⟨?_, ?_⟩
  · unfold PyData.strOk
    rw [Array.all_eq_true_iff_forall_mem]
    intro c hc
    have hc : c ∈ (Str.join "" ts).cps.toList := Array.mem_toList_iff.mpr hc
    rw [mem_join] at hc
    rcases hc with ⟨t, ht, hc⟩ | ⟨_, hc⟩
    · obtain ⟨k, rfl, hk⟩ := h t ht
      have : c = k := by simpa using hc
      subst this
      exact decide_eq_true hk
    · have e : (Str.ofString "").cps.toList = [] := by decide +kernel
      rw [e] at hc
      cases hc
  · have h1 := StrLaws.join_length_le "" ts
    have h2 := sum ts h
    have e : (Str.ofString "").length = 0 := by decide +kernel
    rw [e] at h1
    omega
theorem letters_ {t : Nat} {m : Mem} {n : Int} (p : PM t m) (ht : t + 100 < 2 ^ 31) (h0 : 0 ≤ n) (h8 : n ≤ 8) : wp (g__law_letters [.ref 0, .int n] m) (fun v m' => PM (t + 8) m' ∧ Ch m m' ∧ ∃ s : Str, v = .str s ∧ okS s = true) noX := by
  have c0 := Ch.refl m
  refine w_body rfl ?_
  unfold m__law_letters
  (repeat' (first | (with_reducible first | refine w_ret ?_ | refine v_c ?_ | refine a_nil ?_ | refine a_cons ?_ | refine i_range ?_ | refine v_lc ?_ | refine v_m_join1 ?_ | refine ok_hasS ?_) | (with_reducible refine v_vx ?_; refine ex_v rfl ?_) | fail))
  refine wp_of (a := upto 0 n.toNat) ?_ ?_
  · show (if small n = true then _ else none) = _
    rw [if_pos]
    unfold small
    rw [Bool.and_eq_true, decide_eq_true_eq, decide_eq_true_eq]
    omega
  refine v_loopC (I := fun ds acc m2 => ∃ ts : List Str, acc = ts.map D.str ∧ (∀ t ∈ ts, ∃ c, t = ⟨#[c]⟩ ∧ c < 0x110000) ∧ ts.length + ds.length ≤ 8 ∧ PM (t + ts.length) m2 ∧ Ch m m2) ?_ ?_ ?_
  · refine ⟨[], rfl, by simp, ?_, p, c0⟩
    unfold upto
    simp
    omega
  · rintro acc m2 ⟨ts, rfl, hts, hl, p, c⟩
    have hl : ts.length ≤ 8 := by simpa using hl
    refine q_joinL ?_ ?_
    · have e : (Str.ofString "").length = 0 := by decide +kernel
      rw [e]
      have sum : ∀ l : List Str, (∀ t ∈ l, ∃ c, t = ⟨#[c]⟩ ∧ c < 0x110000) → (l.map (·.length)).sum = l.length := by
        intro l
        induction l with
        | nil => intro _; rfl
        | cons a l ih =>
          intro h
          obtain ⟨c, hc, _⟩ := h a (List.mem_cons_self ..)
          rw [List.map_cons, List.sum_cons, ih fun t ht => h t (List.mem_cons_of_mem _ ht), List.length_cons, hc]
          show 1 + _ = _
          omega
      rw [sum ts hts]
      omega
    exact ⟨p.mono (by omega), c, _, rfl, ok_join hts hl⟩
  · rintro d ds acc m2 ⟨ts, rfl, hts, hl, p, c⟩
    refine ⟨_, rfl, ?_⟩
    simp only [List.length_cons] at hl
    (repeat' (first | (with_reducible first | refine v_c ?_ | refine v_op ?_ | refine v_call ?_ | refine a_nil ?_ | refine a_cons ?_ | refine t_yes ?_) | (with_reducible refine v_vx ?_; refine ex_v rfl ?_) | (with_reducible refine pick_t (by decide +kernel) ?_) | fail))
    (refine draw_ (by assumption) (by assumption) (by omega) (by decide) (by decide) ?_; intro d m' p' c' lo' hi')
    refine q_ixSt (by decide +kernel) lo' (by have e : (Str.ofString "abcdefghijklmnopqrstuvwxyz").length = 26 := by decide +kernel
                                              rw [e]; exact hi') ?_
    intro c hc
    have cps : (Str.ofString "abcdefghijklmnopqrstuvwxyz").cps.toList.all (fun c => decide (c < 0x110000)) = true := by decide +kernel
    refine ⟨by rw [List.length_map, sizeLine_eq]; omega, ts ++ [⟨#[c]⟩], by simp, ?_, by simp; omega, p'.mono (by simp; omega), c'⟩
    intro u hu
    rcases List.mem_append.mp hu with q | q
    · exact hts u q
    · rw [List.mem_singleton.mp q]
      exact ⟨c, rfl, of_decide_eq_true (List.all_eq_true.mp cps c hc)⟩
end BG

set_option Elab.async false
set_option linter.all false
set_option maxRecDepth 100000
set_option autoImplicit false
/-! BGc: names, words, leaves, expressions. -/
namespace BG
open PySem PySem.Spec PyProof.Rows L2 Ev
theorem pl_strs {ps : List Str} (h : ∀ s ∈ ps, okS s = true) : FacL (ps.map D.str) 0 (204 * ps.length) := by
  induction ps with
  | nil => exact FacL.nil
  | cons s ps ih =>
    rw [List.map_cons]
    exact FacL.cons' (fac_str (h s (List.mem_cons_self ..))) (ih fun t ht => h t (List.mem_cons_of_mem _ ht)) (by rw [List.length_cons]; omega)
theorem pl_lstrs {ps : List Str} (h : ∀ s ∈ ps, okS s = true) : Pl (.lst (ps.map D.str)) := (Fac.lst (pl_strs h)).ple (by decide)
theorem pl_okS {s : Str} (h : okS s = true) : Pl (.str s) := (fac_str h).ple (by decide)
def shut : Str := "any ask cast catch close else end fault give if last leave make none note on rule try while"
theorem pl_shut : Pl (.lst ((Txt.split shut " ").map D.str)) := ⟨by decide +kernel, by decide +kernel⟩
theorem okq {c : Nat} (h : c < 0x110000) : okS ((Str.ofString "qqqqqqq") ++ (⟨#[c]⟩ : Str)) = true := by
  unfold okS
  rw [Bool.and_eq_true, decide_eq_true_eq]
  have e : ((Str.ofString "qqqqqqq") ++ (⟨#[c]⟩ : Str)).cps = #[113, 113, 113, 113, 113, 113, 113, c] := by
    show (Str.ofString "qqqqqqq").cps ++ #[c] = _
    have : (Str.ofString "qqqqqqq").cps = #[113, 113, 113, 113, 113, 113, 113] := by decide +kernel
    rw [this]; rfl
  refine ⟨?_, ?_⟩
  · unfold PyData.strOk
    rw [e]
    simp [h]
  · show Array.size _ ≤ _
    rw [e]
    simp
theorem fresh_ {t : Nat} {m : Mem} {j : Nat} {ps : List Str} (p : PM t m) (ht : t + 200 < 2 ^ 31) (hj : j ≠ 0) (ho : m.ob j = some (.lst (ps.map D.str))) (hps : ∀ s ∈ ps, okS s = true) (hl : ps.length < 16) :
    wp (g__law_fresh [.ref 0, .ref j] m) (fun v m' => PM (t + 12) m' ∧ Ch m m' ∧ ∃ s : Str, v = .str s ∧ okS s = true) noX := by
  have c0 := Ch.refl m
  have hjn := ob_lt p ho
  have obj : ∀ m', Ch m m' → m'.ob j = some (.lst (ps.map D.str)) := fun m' c => (c.ob j hj hjn).trans ho
  refine w_body rfl ?_
  unfold m__law_fresh
  (repeat' (first | (with_reducible first | refine w_seq ?_ | refine w_set ?_ | refine v_c ?_ | refine v_op ?_ | refine v_call ?_ | refine a_nil ?_ | refine a_cons ?_ | refine v_lst ?_) | (with_reducible refine v_vx ?_; refine ex_v rfl ?_) | (with_reducible refine len_ok (by simp [sizeLine_eq]) ?_) | fail))
  (refine draw_ (by assumption) (by assumption) (by omega) (by decide) (by decide) ?_; intro d m' p' c' lo' hi')
  (repeat' (first | (with_reducible first | refine a_nil ?_ | refine q_add ?_) | fail))
  refine wp_imp (letters_ p' (by omega) (by omega) (by omega)) ?_
  rintro _ m1 ⟨p1, c1, s, rfl, hs⟩
  have c1 := c'.trans c1
  (repeat' (first | (with_reducible first | refine v_c ?_ | refine v_op ?_ | refine v_call ?_ | refine a_nil ?_ | refine a_cons ?_) | (with_reducible refine v_vx ?_; refine ex_v rfl ?_) | fail))
  (refine draw_ (by assumption) (by assumption) (by omega) (by decide) (by decide) ?_; intro d m' p' c' lo' hi')
  skip
  refine q_ixAllL (P := fun z => ∃ s : Str, z = .str s ∧ okS s = true) lo' hi' ?_ ?_
  · simp only [List.mem_cons, List.not_mem_nil, or_false]
    rintro z (rfl | rfl | rfl | rfl | rfl | rfl | rfl | rfl) <;> exact ⟨_, rfl, by decide +kernel⟩
  rintro z ⟨s2, rfl, hs2⟩
  (repeat' (first | (with_reducible first | refine v_c ?_ | refine v_call ?_ | refine a_nil ?_ | refine a_cons ?_) | (with_reducible refine v_vx ?_; refine ex_v rfl ?_) | (with_reducible refine len_ok (by simp [sizeLine_eq]) ?_) | fail))
  (refine draw_ (by assumption) (by assumption) (by omega) (by decide) (by decide) ?_; intro d m' p' c' lo' hi')
  skip
  refine q_ixAllL (P := fun z => ∃ s : Str, z = .str s ∧ okS s = true) lo' hi' ?_ ?_
  · simp only [List.mem_cons, List.not_mem_nil, or_false]
    rintro z (rfl | rfl)
    · exact ⟨_, rfl, hs⟩
    · exact ⟨_, rfl, hs2⟩
  rintro z ⟨w, rfl, hw⟩
  (repeat' (first | (with_reducible first | refine w_seq ?_ | refine w_if ?_ | refine v_op ?_ | refine t_t ?_ | refine t_or ?_) | (with_reducible refine v_vx ?_; refine ex_v rfl ?_) | fail))
  refine q_inR (obj _ c') (pl_okS hw) (pl_lstrs hps) ?_
  have fin : ∀ (N : Slots → Mem → Prop) (XX : XS) (t1 : Nat) (m1 : Mem) (sl : Slots), t1 ≤ t + 12 → sl[1]? = some (some (.ref j)) → PM t1 m1 → Ch m m1 →
      ws (mRet (mOp opAdd (mC (.str "qqqqqqq")) (mOp opIx (mC (.str "abcdefghijklmnop")) (mCB opLen (mCons (mV 1) mNil)))) sl m1) N (fun v m' => PM (t + 12) m' ∧ Ch m m' ∧ ∃ s : Str, v = .str s ∧ okS s = true) noS noS XX := by
    intro N XX t1 m1 sl h1 e1 p1 c1
    refine w_ret (v_op (v_c (v_op (v_c (v_cb (a_cons (v_v e1 (a_nil ?_))))))))
    refine q_lenR (obj _ c1) ?_
    rw [List.length_map]
    refine q_ixSt (by decide +kernel) (by omega) (by have e : (Str.ofString "abcdefghijklmnop").length = 16 := by decide +kernel
                                                     rw [e]; omega) ?_
    intro c hc
    have cps : (Str.ofString "abcdefghijklmnop").cps.toList.all (fun c => decide (c < 0x110000)) = true := by decide +kernel
    refine q_addS (by have e : (Str.ofString "qqqqqqq").length = 7 := by decide +kernel
                      have e2 : (Str.length ⟨#[c]⟩) = 1 := rfl
                      rw [e, e2]; decide) ?_
    exact ⟨p1.mono h1, c1, _, rfl, okq (of_decide_eq_true (List.all_eq_true.mp cps c hc))⟩
  (repeat' (first | (with_reducible first | refine ex_bl ?_) | fail))
  refine pick_b (fun hd => ?_) (fun hd => ?_)
  · exact pick_t rfl (fin _ _ _ _ _ (by omega) rfl p' c')
  · refine t_or ?_
    refine t_t (v_op (v_v rfl ?_))
    refine v_m_split1 (v_v rfl (ok_hasS (v_c ?_)))
    refine q_split (by decide +kernel) (by decide +kernel) ?_
    refine q_inL (pl_okS hw) pl_shut ?_
    refine ex_bl ?_
    refine pick_b (fun hd => ?_) (fun hd => ?_)
    · exact pick_t rfl (fin _ _ _ _ _ (by omega) rfl p' c')
    · (repeat' (first | (with_reducible first | refine v_c ?_ | refine v_op ?_ | refine v_call ?_ | refine a_nil ?_ | refine a_cons ?_ | refine t_t ?_) | (with_reducible refine v_vx ?_; refine ex_v rfl ?_) | fail))
      (refine draw_ (by assumption) (by assumption) (by omega) (by decide) (by decide) ?_; intro d m' p' c' lo' hi')
      (repeat' (first | (with_reducible first | refine v_c ?_ | refine ex_bl ?_ | refine q_ei ?_) | fail))
      refine pick_d (fun h => ?_) (fun h => ?_)
      · exact fin _ _ _ _ _ (by omega) rfl p' c'
      · (repeat' (first | (with_reducible first | refine w_ret ?_ | refine w_skip ?_) | (with_reducible refine v_vx ?_; refine ex_v rfl ?_) | fail))
        exact ⟨p'.mono (by omega), c', w, rfl, hw⟩
theorem names_ {t : Nat} {m : Mem} {n : Int} (p : PM t m) (ht : t + 500 < 2 ^ 31) (h0 : 0 ≤ n) (h8 : n ≤ 12) : wp (g__law_names [.ref 0, .int n] m) (fun v m' => PM (t + 200) m' ∧ Ch m m' ∧ ∃ ps : List Str, v = .lst (ps.map D.str) ∧ ps.length = n.toNat ∧ ∀ s ∈ ps, okS s = true) noX := by
  have c0 := Ch.refl m
  refine w_body rfl ?_
  unfold m__law_names
  (repeat' (first | (with_reducible first | refine w_seq ?_ | refine w_set ?_ | refine w_for ?_ | refine a_nil ?_ | refine a_cons ?_ | refine v_newL ?_ | refine i_range ?_) | (with_reducible refine v_vx ?_; refine ex_v rfl ?_) | (with_reducible refine len_ok (by simp [sizeLine_eq]) ?_) | fail))
  have hnx := p.nx
  refine wp_of (a := upto 0 n.toNat) ?_ ?_
  · show (if small n = true then _ else none) = _
    rw [if_pos]
    unfold small
    rw [Bool.and_eq_true, decide_eq_true_eq, decide_eq_true_eq]
    omega
  refine w_loop (I := fun ds s m1 => ∃ (ps : List Str) (a : Option D), s = [some (.ref 0), some (.int n), some (.ref m.nx), a] ∧ m1.ob m.nx = some (.lst (ps.map D.str)) ∧ (∀ s ∈ ps, okS s = true) ∧ ps.length + ds.length = n.toNat ∧ PM (t + 12 * ps.length) m1 ∧ Ch m m1) ?_ ?_ ?_
  · refine ⟨[], none, rfl, add_ob _ _, by simp, ?_, p.addO _, c0.addO _⟩
    unfold upto
    simp
  · rintro s m1 ⟨ps, a, rfl, ho, hps, hl, p, c⟩
    have hl : ps.length = n.toNat := by simpa using hl
    refine w_seq (w_frz rfl ho ?_)
    (repeat' (first | (with_reducible first | refine w_ret ?_) | (with_reducible refine v_vx ?_; refine ex_v rfl ?_) | fail))
    exact ⟨(p.killO (by omega)).mono (by omega), c.killO (Nat.le_refl _), ps, rfl, hl, hps⟩
  · rintro d ds s m1 ⟨ps, a, rfl, ho, hps, hl, p, c⟩
    simp only [List.length_cons] at hl
    refine ⟨_, rfl, ?_⟩
    (repeat' (first | (with_reducible first | refine w_drop ?_ | refine v_l1 ?_) | (with_reducible refine v_vx ?_; refine ex_v rfl ?_) | fail))
    refine ⟨isL_ref ho, ?_⟩
    (repeat' (first | (with_reducible first | refine v_call ?_ | refine a_nil ?_ | refine a_cons ?_) | (with_reducible refine v_vx ?_; refine ex_v rfl ?_) | fail))
    refine wp_imp (fresh_ p (by omega) (by omega) ho hps (by omega)) ?_
    rintro _ m2 ⟨p2, c2, w, rfl, hw⟩
    have hlt := ob_lt p ho
    have ho2 : m2.ob m.nx = some (.lst (ps.map D.str)) := (c2.ob _ (by omega) hlt).trans ho
    refine v_app ho2 (by rw [List.length_map, sizeLine_eq]; omega) ?_
    refine ⟨ps ++ [w], _, rfl, ?_, ?_, by simp; omega, ?_, (c.trans c2).putO (Nat.le_refl _) _⟩
    · rw [put_ob]; simp
    · intro s hs
      rcases List.mem_append.mp hs with q | q
      · exact hps s q
      · rw [List.mem_singleton.mp q]; exact hw
    · exact (p2.putO (by omega) (ob_lt p2 ho2) _).mono (by simp; omega)
theorem word_ {t : Nat} {m : Mem} (p : PM t m) (ht : t + 200 < 2 ^ 31) : wp (g__law_word [.ref 0] m) (fun v m' => PM (t + 12) m' ∧ Ch m m' ∧ ∃ s : Str, v = .str s ∧ okS s = true) noX := by
  have c0 := Ch.refl m
  refine w_body rfl ?_
  unfold m__law_word
  (repeat' (first | (with_reducible first | refine w_seq ?_ | refine w_set ?_ | refine v_c ?_ | refine v_op ?_ | refine v_call ?_ | refine a_nil ?_ | refine a_cons ?_ | refine v_lst ?_) | (with_reducible refine v_vx ?_; refine ex_v rfl ?_) | (with_reducible refine len_ok (by simp [sizeLine_eq]) ?_) | fail))
  (refine draw_ (by assumption) (by assumption) (by omega) (by decide) (by decide) ?_; intro d m' p' c' lo' hi')
  skip
  refine q_ixAllL (P := fun z => ∃ s : Str, z = .str s ∧ okS s = true) lo' hi' ?_ ?_
  · simp only [List.mem_cons, List.not_mem_nil, or_false]
    rintro z (rfl | rfl | rfl | rfl | rfl | rfl | rfl | rfl) <;> exact ⟨_, rfl, by decide +kernel⟩
  rintro z ⟨s2, rfl, hs2⟩
  (repeat' (first | (with_reducible first | refine v_c ?_ | refine v_op ?_ | refine v_call ?_ | refine a_nil ?_ | refine a_cons ?_) | (with_reducible refine v_vx ?_; refine ex_v rfl ?_) | fail))
  (refine draw_ (by assumption) (by assumption) (by omega) (by decide) (by decide) ?_; intro d m' p' c' lo' hi')
  (repeat' (first | (with_reducible first | refine a_nil ?_ | refine q_add ?_) | fail))
  refine wp_imp (letters_ p' (by omega) (by omega) (by omega)) ?_
  rintro _ m1 ⟨p1, c1, s, rfl, hs⟩
  have c1 := c'.trans c1
  (repeat' (first | (with_reducible first | refine v_c ?_ | refine v_call ?_ | refine a_nil ?_ | refine a_cons ?_) | (with_reducible refine v_vx ?_; refine ex_v rfl ?_) | (with_reducible refine len_ok (by simp [sizeLine_eq]) ?_) | fail))
  (refine draw_ (by assumption) (by assumption) (by omega) (by decide) (by decide) ?_; intro d m' p' c' lo' hi')
  skip
  refine q_ixAllL (P := fun z => ∃ s : Str, z = .str s ∧ okS s = true) lo' hi' ?_ ?_
  · simp only [List.mem_cons, List.not_mem_nil, or_false]
    rintro z (rfl | rfl)
    · exact ⟨_, rfl, hs2⟩
    · exact ⟨_, rfl, hs⟩
  rintro z ⟨w, rfl, hw⟩
  (repeat' (first | (with_reducible first | refine w_ret ?_ | refine v_c ?_ | refine v_op ?_ | refine v_cb ?_ | refine a_nil ?_ | refine a_cons ?_ | refine v_lst ?_ | refine q_es ?_ | refine q_intB ?_) | (with_reducible refine v_vx ?_; refine ex_v rfl ?_) | (with_reducible refine len_ok (by simp [sizeLine_eq]) ?_) | fail))
  refine q_ixAllL (P := fun z => ∃ s : Str, z = .str s ∧ okS s = true) (by split <;> omega) (by simp; split <;> omega) ?_ ?_
  · simp only [List.mem_cons, List.not_mem_nil, or_false]
    rintro z (rfl | rfl)
    · exact ⟨_, rfl, hw⟩
    · exact ⟨_, rfl, by decide +kernel⟩
  rintro z ⟨w2, rfl, hw2⟩
  exact ⟨p'.mono (by omega), c', w2, rfl, hw2⟩
end BG

set_option Elab.async false
set_option linter.all false
set_option maxRecDepth 100000
set_option autoImplicit false
/-! BGd: leaves, expressions. -/
namespace BG
open PySem PySem.Spec PyProof.Rows L2 Ev
def headD (h : Str × List Str) : D := .tup [.str h.1, .tup (h.2.map D.str)]
abbrev envD (hs : List (Str × List Str)) (pool : List Str) : D := .dk [.inr "heads", .inr "pool"] [.lst (hs.map headD), .lst (pool.map D.str)]
structure GEnv (hs : List (Str × List Str)) (pool : List Str) : Prop where
  hne : 0 < hs.length
  hlen : hs.length ≤ 30
  hok : ∀ h ∈ hs, okS h.1 = true ∧ (∀ s ∈ h.2, okS s = true) ∧ h.2.length ≤ 3
  pne : 0 < pool.length
  plen : pool.length ≤ 30
  pok : ∀ s ∈ pool, okS s = true
theorem q_pool {pool : List Str} {i : Int} {m : Mem} {Q : D → Mem → Prop} {XX : XQ} (hp : ∀ s ∈ pool, okS s = true) (h0 : 0 ≤ i) (h1 : i < pool.length) (k : ∀ s : Str, s ∈ pool → okS s = true → Q (.str s) m) : wp (Res.of (opIx (.lst (pool.map D.str)) (.int i) m) m) Q XX := by
  refine q_ixAllL (P := fun z => ∃ s : Str, z = .str s ∧ s ∈ pool ∧ okS s = true) h0 (by rw [List.length_map]; exact h1) ?_ ?_
  · intro d hd
    obtain ⟨s, hs, rfl⟩ := List.mem_map.mp hd
    exact ⟨s, rfl, hs, hp s hs⟩
  · rintro z ⟨s, rfl, h2, h3⟩
    exact k s h2 h3
theorem log_small {n : Int} (h0 : 0 ≤ n) (h : n < 2 ^ 100) : n.natAbs.log2 < 9000 := by
  have := log2_lt (n := n.natAbs) (k := 99) (by omega)
  omega
theorem leaf_ {t : Nat} {m : Mem} {hs : List (Str × List Str)} {pool : List Str} (p : PM t m) (ht : t + 200 < 2 ^ 31) (g : GEnv hs pool) :
    wp (g__law_leaf [.ref 0, envD hs pool] m) (fun v m' => PM (t + 10) m' ∧ Ch m m' ∧ ∃ e : Ex, v = e.d ∧ e.ok = true ∧ e.sz = 1 ∧ e.dp = 1) noX := by
  have c0 := Ch.refl m
  refine w_body rfl ?_
  unfold m__law_leaf
  (repeat' (first | (with_reducible first | refine w_seq ?_ | refine w_set ?_ | refine v_c ?_ | refine v_call ?_ | refine a_nil ?_ | refine a_cons ?_) | (with_reducible refine v_vx ?_; refine ex_v rfl ?_) | fail))
  (refine draw_ (by assumption) (by assumption) (by omega) (by decide) (by decide) ?_; intro d m' p' c' lo' hi')
  (repeat' (first | (with_reducible first | refine w_seq ?_ | refine w_set ?_ | refine v_c ?_ | refine v_op ?_ | refine i_iter ?_ | refine v_lc ?_ | refine q_itL ?_) | (with_reducible refine v_vx ?_; refine ex_v rfl ?_) | (with_reducible refine q_ixDs ?_; refine ex_o (by repeat (first | exact look_here | refine look_skip (by decide +kernel) ?_)) ?_) | fail))
  refine v_loopC (I := fun ds acc m2 => ∃ bs : List Str, acc = bs.map D.str ∧ (∀ s ∈ bs, okS s = true) ∧ (∀ d ∈ ds, ∃ h ∈ hs, d = headD h) ∧ bs.length + ds.length ≤ hs.length ∧ m2 = m') ?_ ?_ ?_
  · refine ⟨[], rfl, by simp, ?_, by simp, rfl⟩
    intro d hd
    obtain ⟨h, h1, h2⟩ := List.mem_map.mp hd
    exact ⟨h, h1, h2.symm⟩
  · rintro acc m2 ⟨bs, rfl, hb, _, hl, rfl⟩
    have hl : bs.length ≤ hs.length := by simpa using hl
    have hl2 := g.hlen
    (repeat' (first | (with_reducible first | refine w_seq ?_ | refine w_if ?_ | refine v_c ?_ | refine v_op ?_ | refine t_t ?_ | refine ex_bl ?_ | refine q_ei ?_) | (with_reducible refine v_vx ?_; refine ex_v rfl ?_) | fail))
    refine pick_d (fun h => ?_) (fun h => ?_)
    · (repeat' (first | (with_reducible first | refine w_ret ?_ | refine v_c ?_ | refine a_nil ?_ | refine a_cons ?_ | refine v_tup ?_) | (with_reducible refine len_ok (by simp [sizeLine_eq]) ?_) | fail))
      exact ⟨p'.mono (by omega), c', .non, rfl, rfl, rfl, rfl⟩
    · (repeat' (first | (with_reducible first | refine w_seq ?_ | refine w_if ?_ | refine w_skip ?_ | refine v_c ?_ | refine v_op ?_ | refine t_t ?_ | refine t_and ?_ | refine ex_bl ?_ | refine q_ei ?_) | (with_reducible refine v_vx ?_; refine ex_v rfl ?_) | fail))
      have rest : ∀ (N : Slots → Mem → Prop) (XX : XS) (sl : Slots), sl[0]? = some (some (.ref 0)) → sl[1]? = some (some (envD hs pool)) → ∀ d : Int, sl[2]? = some (some (.int d)) → sl.length = 7 →
          ws (mSeq (mIf (mT (mOp opLt (mV 2) (mC (.int 3)))) (mSeq (mSet 4 (mLst (mCons (mCall g__law_draw (mCons (mV 0) (mCons (mC (.int 4)) mNil))) (mCons (mOp opSub (mCall g__law_draw (mCons (mV 0) (mCons (mC (.int 100)) mNil))) (mC (.int 50))) (mCons (mOp opSub (mOp opPow (mC (.int 10)) (mC (.int 30))) (mC (.int 1))) (mCons (mOp opAdd (mO1 opNeg (mOp opPow (mC (.int 10)) (mC (.int 30)))) (mC (.int 1))) (mCons (mCall g__law_draw (mCons (mV 0) (mCons (mOp opPow (mC (.int 10)) (mC (.int 30))) mNil))) mNil)))))))
            (mRet (mTup (mCons (mC (.str "number")) (mCons (mOp opIx (mV 4) (mCall g__law_draw (mCons (mV 0) (mCons (mC (.int 5)) mNil)))) mNil))))) mSkip)
            (mRet (mTup (mCons (mC (.str "var")) (mCons (mOp opIx (mOp opIx (mV 1) (mC (.str "pool"))) (mCall g__law_draw (mCons (mV 0) (mCons (mCB opLen (mCons (mOp opIx (mV 1) (mC (.str "pool"))) mNil)) mNil)))) mNil)))) sl m2) N
          (fun v m' => PM (t + 10) m' ∧ Ch m m' ∧ ∃ e : Ex, v = e.d ∧ e.ok = true ∧ e.sz = 1 ∧ e.dp = 1) noS noS XX := by
        intro N XX sl h0 h1 d h2 h7
        obtain ⟨s0, s1, s2, s3, s4, s5, s6, rfl⟩ : ∃ s0 s1 s2 s3 s4 s5 s6 : Option D, sl = [s0, s1, s2, s3, s4, s5, s6] := by
          match sl, h7 with
          | [s0, s1, s2, s3, s4, s5, s6], _ => exact ⟨_, _, _, _, _, _, _, rfl⟩
        cases h0
        cases h1
        cases h2
        (repeat' (first | (with_reducible first | refine w_seq ?_ | refine w_if ?_ | refine v_c ?_ | refine v_op ?_ | refine t_t ?_ | refine ex_bl ?_ | refine q_lt ?_) | (with_reducible refine v_vx ?_; refine ex_v rfl ?_) | fail))
        refine pick_d (fun h => ?_) (fun h => ?_)
        · (repeat' (first | (with_reducible first | refine w_seq ?_ | refine w_set ?_ | refine v_c ?_ | refine v_call ?_ | refine a_nil ?_ | refine a_cons ?_ | refine v_lst ?_) | (with_reducible refine v_vx ?_; refine ex_v rfl ?_) | fail))
          (refine draw_ (by assumption) (by assumption) (by omega) (by decide) (by decide) ?_; intro d m' p' c' lo' hi')
          (repeat' (first | (with_reducible first | refine v_c ?_ | refine v_op ?_ | refine v_call ?_ | refine a_nil ?_ | refine a_cons ?_) | (with_reducible refine v_vx ?_; refine ex_v rfl ?_) | fail))
          (refine draw_ (by assumption) (by assumption) (by omega) (by decide) (by decide) ?_; intro d m' p' c' lo' hi')
          (repeat' (first | (with_reducible first | refine v_c ?_ | refine v_op ?_ | refine v_o1 ?_ | refine v_call ?_ | refine a_nil ?_ | refine a_cons ?_ | refine q_add ?_ | refine q_sub ?_ | refine q_neg ?_) | (with_reducible refine v_vx ?_; refine ex_v rfl ?_) | (with_reducible refine i_pow (by decide) (by decide) (by decide) ?_) | fail))
          (refine draw_ (by assumption) (by assumption) (by omega) (by decide) (by decide) ?_; intro d m' p' c' lo' hi')
          (repeat' (first | (with_reducible first | refine w_ret ?_ | refine v_c ?_ | refine v_op ?_ | refine v_call ?_ | refine a_nil ?_ | refine a_cons ?_ | refine v_tup ?_) | (with_reducible refine v_vx ?_; refine ex_v rfl ?_) | (with_reducible refine len_ok (by simp [sizeLine_eq]) ?_) | fail))
          (refine draw_ (by assumption) (by assumption) (by omega) (by decide) (by decide) ?_; intro d m' p' c' lo' hi')
          skip
          refine q_ixAllL (P := fun z => ∃ i : Int, z = .int i ∧ i.natAbs < 10 ^ 30) lo' hi' ?_ ?_
          · simp only [List.mem_cons, List.not_mem_nil, or_false]
            simp only [Int.reduceToNat] at *
            rintro z (rfl | rfl | rfl | rfl | rfl)
            · exact ⟨_, rfl, by omega⟩
            · exact ⟨_, rfl, by omega⟩
            · exact ⟨_, rfl, by omega⟩
            · exact ⟨_, rfl, by omega⟩
            · exact ⟨_, rfl, by omega⟩
          · rintro z ⟨i, rfl, hi⟩
            (repeat' (first | (with_reducible first | refine a_nil ?_) | (with_reducible refine len_ok (by simp [sizeLine_eq]) ?_) | fail))
            exact ⟨p'.mono (by omega), c', .num i, rfl, by simp only [Ex.ok]; exact decide_eq_true hi, rfl, rfl⟩
        · (repeat' (first | (with_reducible first | refine w_ret ?_ | refine w_skip ?_ | refine v_c ?_ | refine v_op ?_ | refine v_cb ?_ | refine v_call ?_ | refine a_nil ?_ | refine a_cons ?_ | refine v_tup ?_ | refine q_lenL ?_) | (with_reducible refine v_vx ?_; refine ex_v rfl ?_) | (with_reducible refine q_ixDs ?_; refine ex_o (by repeat (first | exact look_here | refine look_skip (by decide +kernel) ?_)) ?_) | fail))
          rw [List.length_map]
          have := g.pne
          have := g.plen
          refine draw_ p' c' (by omega) (by omega) (log_small (by omega) (by omega)) ?_
          intro d m' p' c' lo' hi'
          refine q_pool g.pok lo' hi' ?_
          intro s _ hs
          (repeat' (first | (with_reducible first | refine a_nil ?_) | (with_reducible refine len_ok (by simp [sizeLine_eq]) ?_) | fail))
          exact ⟨p'.mono (by omega), c', .var s, rfl, by simp only [Ex.ok]; exact hs, rfl, rfl⟩
      refine pick_d (fun h5 => ?_) (fun h5 => ?_)
      · (repeat' (first | (with_reducible first | refine v_op ?_ | refine a_nil ?_ | refine v_lst ?_ | refine t_t ?_) | (with_reducible refine v_vx ?_; refine ex_v rfl ?_) | (with_reducible refine len_ok (by simp [sizeLine_eq]) ?_) | fail))
        refine q_ne ((Fac.lst (pl_strs hb)).ple (by decide)) pl_nil ?_
        refine ex_bl ?_
        refine pick_b (fun h => ?_) (fun h => ?_)
        · have hb0 : 0 < bs.length := by
            cases bs with
            | nil => simp only [List.map_nil, deq, deqs, Bool.not_true, Bool.false_eq_true] at h
            | cons _ _ => simp
          (repeat' (first | (with_reducible first | refine w_ret ?_ | refine v_c ?_ | refine v_op ?_ | refine v_cb ?_ | refine v_call ?_ | refine a_nil ?_ | refine a_cons ?_ | refine v_tup ?_ | refine q_lenL ?_) | (with_reducible refine v_vx ?_; refine ex_v rfl ?_) | fail))
          rw [List.length_map]
          refine draw_ p' c' (by omega) (by omega) (log_small (by omega) (by omega)) ?_
          intro d m' p' c' lo' hi'
          refine q_pool hb lo' hi' ?_
          intro s _ hs
          (repeat' (first | (with_reducible first | refine a_nil ?_ | refine a_cons ?_ | refine v_tup ?_) | (with_reducible refine len_ok (by simp [sizeLine_eq]) ?_) | fail))
          exact ⟨p'.mono (by omega), c', .mk s .nil, rfl, by simp only [Ex.ok, Exs.ok, hs, Bool.and_self], rfl, rfl⟩
        · refine w_skip ?_
          exact rest _ _ _ rfl rfl _ rfl rfl
      · refine pick_f rfl ?_
        refine w_skip ?_
        exact rest _ _ _ rfl rfl _ rfl rfl
  · rintro d ds acc m2 ⟨bs, rfl, hb, hd, hl, rfl⟩
    obtain ⟨h, h1, rfl⟩ := hd d (List.mem_cons_self ..)
    obtain ⟨g1, g2, g3⟩ := g.hok h h1
    have hl2 := g.hlen
    simp only [List.length_cons] at hl
    refine ⟨_, rfl, ?_⟩
    (repeat' (first | (with_reducible first | refine v_op ?_ | refine a_nil ?_ | refine v_tup ?_ | refine t_t ?_) | (with_reducible refine v_vx ?_; refine ex_v rfl ?_) | (with_reducible refine len_ok (by simp [sizeLine_eq]) ?_) | fail))
    refine q_eq ((Fac.tup (pl_strs g2)).ple (by decide)) ⟨by decide, by decide⟩ ?_
    refine ex_bl ?_
    refine pick_b (fun z => ?_) (fun z => ?_)
    · (repeat' (first | (with_reducible refine v_vx ?_; refine ex_v rfl ?_) | fail))
      refine ⟨by rw [List.length_map, sizeLine_eq]; omega, bs ++ [h.1], by simp, ?_, fun d hd' => hd d (List.mem_cons_of_mem _ hd'), by simp; omega, rfl⟩
      intro s hs
      rcases List.mem_append.mp hs with q | q
      · exact hb s q
      · rw [List.mem_singleton.mp q]; exact g1
    · exact ⟨bs, rfl, hb, fun d hd' => hd d (List.mem_cons_of_mem _ hd'), by omega, rfl⟩
end BG

set_option Elab.async false
set_option linter.all false
set_option maxRecDepth 100000
set_option autoImplicit false
/-! BGe: expressions. -/
namespace BG
open PySem PySem.Spec PyProof.Rows L2 Ev
theorem sign_ {i : Int} {m : Mem} {Q : D → Mem → Prop} {XX : XQ} (h0 : 0 ≤ i) (h1 : i < 5) (k : ∀ s : Str, okS s = true → Q (.str s) m) : wp (Res.of (opIx (.str "+-*<=") (.int i) m) m) Q XX := by
  refine q_ixSt (by decide +kernel) h0 (by have e : (Str.ofString "+-*<=").length = 5 := by decide +kernel
                                           rw [e]; exact h1) ?_
  intro c hc
  have cps : (Str.ofString "+-*<=").cps.toList = [43, 45, 42, 60, 61] := by decide +kernel
  rw [cps] at hc
  refine k _ ?_
  simp only [List.mem_cons, List.not_mem_nil, or_false] at hc
  rcases hc with rfl | rfl | rfl | rfl | rfl <;> decide +kernel
theorem Exs.len_sz : ∀ es : Exs, es.ds.length ≤ es.sz
  | .nil => Nat.le_refl _
  | .cons e es => by
    have := e.sz_pos
    have := Exs.len_sz es
    simp only [Exs.ds, Exs.sz, List.length_cons]
    omega
def ExpQ (t : Nat) (m : Mem) (room deep : Int) (v : D) (m' : Mem) : Prop := PM (t + 40 * room.toNat) m' ∧ Ch m m' ∧ ∃ e : Ex, v = e.d ∧ e.ok = true ∧ (e.sz : Int) ≤ room ∧ (e.dp : Int) ≤ deep
theorem exp_ : ∀ (n : Nat) (room deep : Int) (t : Nat) (m : Mem) (hs : List (Str × List Str)) (pool : List Str), PM t m → t + 40 * room.toNat + 300 < 2 ^ 31 → GEnv hs pool → 1 ≤ deep → deep ≤ n → 1 ≤ room → room ≤ 9 →
    wp (r__law_expression n [.ref 0, envD hs pool, .int room, .int deep] m) (ExpQ t m room deep) noX
  | 0, room, deep, t, m, hs, pool, p, ht, g, d1, d2, r1, r2 => by omega
  | n + 1, room, deep, t, m, hs, pool, p, ht, g, d1, d2, r1, r2 => by
    have ih := exp_ n
    have c0 := Ch.refl m
    have hg := g.hne
    have hg2 := g.hlen
    have leafE : ∀ (t' : Nat) (m' : Mem), t' ≤ t + 3 → PM t' m' → Ch m m' → wp (g__law_leaf [.ref 0, envD hs pool] m') (ExpQ t m room deep) noX := by
      intro t' m' h p' c'
      refine wp_imp (leaf_ p' (by omega) g) ?_
      rintro v m2 ⟨p2, c2, e, he, ho, hz, hd⟩
      exact ⟨p2.mono (by omega), c'.trans c2, e, he, ho, by omega, by omega⟩
    unfold r__law_expression
    refine w_body rfl ?_
    unfold m__law_expression
    (repeat' (first | (with_reducible first | refine w_seq ?_ | refine w_set ?_ | refine v_c ?_ | refine v_call ?_ | refine a_nil ?_ | refine a_cons ?_) | (with_reducible refine v_vx ?_; refine ex_v rfl ?_) | fail))
    refine draw_ p c0 (by omega) (by decide) (by decide) ?_
    intro d0 m' p' c' lo' hi'
    (repeat' (first | (with_reducible first | refine w_seq ?_ | refine w_if ?_ | refine v_c ?_ | refine v_op ?_ | refine t_t ?_ | refine t_or ?_ | refine ex_bl ?_ | refine q_lt ?_) | (with_reducible refine v_vx ?_; refine ex_v rfl ?_) | fail))
    refine pick_d (fun h1 => ?_) (fun h1 => ?_)
    · refine pick_t rfl ?_
      refine w_ret (v_call ?_)
      (repeat' (first | (with_reducible first | refine a_nil ?_ | refine a_cons ?_) | (with_reducible refine v_vx ?_; refine ex_v rfl ?_) | fail))
      exact leafE _ _ (by omega) p' c'
    (repeat' (first | (with_reducible first | refine v_c ?_ | refine v_op ?_ | refine t_t ?_ | refine t_or ?_ | refine ex_bl ?_ | refine q_lt ?_) | (with_reducible refine v_vx ?_; refine ex_v rfl ?_) | fail))
    refine pick_d (fun h2 => ?_) (fun h2 => ?_)
    · refine pick_t rfl ?_
      refine w_ret (v_call ?_)
      (repeat' (first | (with_reducible first | refine a_nil ?_ | refine a_cons ?_) | (with_reducible refine v_vx ?_; refine ex_v rfl ?_) | fail))
      exact leafE _ _ (by omega) p' c'
    (repeat' (first | (with_reducible first | refine v_c ?_ | refine v_op ?_ | refine t_t ?_ | refine ex_bl ?_ | refine q_lt ?_) | (with_reducible refine v_vx ?_; refine ex_v rfl ?_) | fail))
    refine pick_d (fun h3 => ?_) (fun h3 => ?_)
    · refine w_ret (v_call ?_)
      (repeat' (first | (with_reducible first | refine a_nil ?_ | refine a_cons ?_) | (with_reducible refine v_vx ?_; refine ex_v rfl ?_) | fail))
      exact leafE _ _ (by omega) p' c'
    (repeat' (first | (with_reducible first | refine w_seq ?_ | refine w_if ?_ | refine w_skip ?_ | refine v_c ?_ | refine v_op ?_ | refine t_t ?_ | refine ex_bl ?_ | refine q_lt ?_) | (with_reducible refine v_vx ?_; refine ex_v rfl ?_) | fail))
    refine pick_d (fun h4 => ?_) (fun h4 => ?_)
    · (repeat' (first | (with_reducible first | refine w_seq ?_ | refine w_set ?_ | refine v_c ?_ | refine v_op ?_ | refine v_call ?_ | refine a_nil ?_ | refine a_cons ?_ | refine q_sub ?_) | (with_reducible refine v_vx ?_; refine ex_v rfl ?_) | fail))
      refine draw_ p' c' (by omega) (by omega) (log_small (by omega) (by omega)) ?_
      intro d m' p' c' lo' hi'
      (repeat' (first | (with_reducible first | refine w_seq ?_ | refine w_set ?_ | refine v_c ?_ | refine v_op ?_ | refine v_call ?_ | refine a_nil ?_ | refine a_cons ?_ | refine q_add ?_ | refine q_sub ?_) | (with_reducible refine v_vx ?_; refine ex_v rfl ?_) | fail))
      refine wp_imp (ih (1 + d) (deep - 1) _ _ hs pool p' (by omega) g (by omega) (by omega) (by omega) (by omega)) ?_
      rintro _ m2 ⟨p2, c2, a, rfl, ha, hz, hdp⟩
      have c2 := c'.trans c2
      (repeat' (first | (with_reducible first | refine w_ret ?_ | refine v_c ?_ | refine v_op ?_ | refine v_call ?_ | refine a_nil ?_ | refine a_cons ?_ | refine v_tup ?_) | (with_reducible refine v_vx ?_; refine ex_v rfl ?_) | fail))
      refine draw_ p2 c2 (by omega) (by omega) (log_small (by omega) (by omega)) ?_
      intro d5 m' p' c' lo5 hi5
      refine sign_ lo5 hi5 ?_
      intro s hs1
      (repeat' (first | (with_reducible first | refine v_c ?_ | refine v_op ?_ | refine v_call ?_ | refine a_nil ?_ | refine a_cons ?_ | refine q_sub ?_) | (with_reducible refine v_vx ?_; refine ex_v rfl ?_) | fail))
      refine wp_imp (ih (room - 1 - (1 + d)) (deep - 1) _ _ hs pool p' (by omega) g (by omega) (by omega) (by omega) (by omega)) ?_
      rintro _ m3 ⟨p3, c3, b, rfl, hb, hzb, hdb⟩
      have c3 := c'.trans c3
      (repeat' (first | (with_reducible first | refine a_nil ?_) | (with_reducible refine len_ok (by simp [sizeLine_eq]) ?_) | fail))
      exact ⟨p3.mono (by omega), c3, .op s a b, rfl, by simp only [Ex.ok, hs1, ha, hb, Bool.and_self], by simp only [Ex.sz]; omega, by simp only [Ex.dp]; omega⟩
    · (repeat' (first | (with_reducible first | refine w_seq ?_ | refine w_asg ?_ | refine w_skip ?_ | refine v_c ?_ | refine v_op ?_ | refine v_cb ?_ | refine v_call ?_ | refine a_nil ?_ | refine a_cons ?_ | refine q_lenL ?_) | (with_reducible refine v_vx ?_; refine ex_v rfl ?_) | (with_reducible refine q_ixDs ?_; refine ex_o (by repeat (first | exact look_here | refine look_skip (by decide +kernel) ?_)) ?_) | fail))
      rw [List.length_map]
      refine draw_ p' c' (by omega) (by omega) (log_small (by omega) (by omega)) ?_
      intro d m' p' c' lo' hi'
      refine q_ixAllL (P := fun z => ∃ h ∈ hs, z = headD h) lo' (by rw [List.length_map]; exact hi') ?_ ?_
      · intro z hz
        obtain ⟨h, hh, rfl⟩ := List.mem_map.mp hz
        exact ⟨h, hh, rfl⟩
      rintro z ⟨⟨f, ps⟩, hh, rfl⟩
      obtain ⟨g1, g2, g3⟩ := g.hok _ hh
      refine ⟨_, rfl, ?_⟩
      (repeat' (first | (with_reducible first | refine w_seq ?_ | refine w_set ?_ | refine w_if ?_ | refine v_c ?_ | refine v_op ?_ | refine v_cb ?_ | refine a_nil ?_ | refine a_cons ?_ | refine t_t ?_ | refine ex_bl ?_ | refine q_sub ?_ | refine q_gt ?_ | refine q_lenT ?_) | (with_reducible refine v_vx ?_; refine ex_v rfl ?_) | fail))
      rw [List.length_map]
      refine pick_d (fun h5 => ?_) (fun h5 => ?_)
      · refine w_ret (v_call ?_)
        (repeat' (first | (with_reducible first | refine a_nil ?_ | refine a_cons ?_) | (with_reducible refine v_vx ?_; refine ex_v rfl ?_) | fail))
        exact leafE _ _ (by omega) p' c'
      (repeat' (first | (with_reducible first | refine w_seq ?_ | refine w_set ?_ | refine w_for ?_ | refine w_skip ?_ | refine v_cb ?_ | refine a_nil ?_ | refine a_cons ?_ | refine v_newL ?_ | refine i_range ?_ | refine q_lenT ?_) | (with_reducible refine v_vx ?_; refine ex_v rfl ?_) | (with_reducible refine len_ok (by simp [sizeLine_eq]) ?_) | fail))
      rw [List.length_map]
      dsimp only at g3 h5 g1 g2 ⊢
      refine i_rng (by omega) (by omega) ?_
      have hnx := p'.nx
      have cx := c'.nx
      refine w_loop (I := fun ds s m1 => ∃ (es : Exs) (k : Nat) (left : Int) (o5 o6 o11 : Option D), s = [some (.ref 0), some (envD hs pool), some (.int room), some (.int deep), some (.int d0), o5, o6, some (.str f), some (.tup (ps.map D.str)), some (.int left), some (.ref m'.nx), o11] ∧
        ds = upto (k : Int) (ps.length - k) ∧ k ≤ ps.length ∧ m1.ob m'.nx = some (.lst es.ds) ∧ es.ok = true ∧ (es.dp : Int) ≤ deep - 1 ∧ ((ps.length - k : Nat) : Int) ≤ left ∧ (es.sz : Int) + left ≤ room - 1 ∧ PM (t + 3 + k + 40 * (room - 1 - left).toNat) m1 ∧ Ch m m1) ?_ ?_ ?_
      · refine ⟨.nil, 0, room - 1, none, none, none, rfl, ?_, by omega, add_ob _ _, rfl, by simp only [Exs.dp]; omega, by omega, by simp only [Exs.sz]; omega, ?_, c'.addO _⟩
        · simp
        · exact (p'.addO _).mono (by omega)
      · rintro s m1 ⟨es, k, left, o5, o6, o11, rfl, hds, hk, ho, hok, hdp, hl, hsz, p1, c1⟩
        have := upto_nil hds
        (repeat' (first | (with_reducible first | refine w_ret ?_ | refine v_c ?_ | refine v_cb ?_ | refine a_nil ?_ | refine a_cons ?_ | refine v_tup ?_) | (with_reducible refine v_vx ?_; refine ex_v rfl ?_) | fail))
        refine q_tupR ho ?_
        (repeat' (first | (with_reducible first | refine a_nil ?_) | (with_reducible refine len_ok (by simp [sizeLine_eq]) ?_) | fail))
        exact ⟨p1.mono (by omega), c1, .mk f es, rfl, by simp only [Ex.ok, g1, hok, Bool.and_self], by simp only [Ex.sz]; omega, by simp only [Ex.dp]; omega⟩
      · rintro x xs s m1 ⟨es, k, left, o5, o6, o11, rfl, hds, hk, ho, hok, hdp, hl, hsz, p1, c1⟩
        obtain ⟨k2, e2, rfl, rfl⟩ := upto_inv hds
        refine ⟨_, rfl, ?_⟩
        have hlt := ob_lt p1 ho
        (repeat' (first | (with_reducible first | refine w_seq ?_ | refine w_set ?_ | refine v_c ?_ | refine v_op ?_ | refine v_cb ?_ | refine v_call ?_ | refine a_nil ?_ | refine a_cons ?_ | refine q_add ?_ | refine q_sub ?_ | refine q_lenT ?_) | (with_reducible refine v_vx ?_; refine ex_v rfl ?_) | fail))
        rw [List.length_map]
        refine draw_ p1 (Ch.refl m1) (by omega) (by omega) (log_small (by omega) (by omega)) ?_
        intro d m2 p2 c2 lo2 hi2
        (repeat' (first | (with_reducible first | refine w_seq ?_ | refine w_drop ?_ | refine v_l1 ?_ | refine q_add ?_) | (with_reducible refine v_vx ?_; refine ex_v rfl ?_) | fail))
        refine ⟨isL_ref ((c2.ob _ (by omega) hlt).trans ho), ?_⟩
        (repeat' (first | (with_reducible first | refine v_c ?_ | refine v_op ?_ | refine v_call ?_ | refine a_nil ?_ | refine a_cons ?_ | refine q_sub ?_) | (with_reducible refine v_vx ?_; refine ex_v rfl ?_) | fail))
        refine wp_imp (ih (1 + d) (deep - 1) _ _ hs pool p2 (by omega) g (by omega) (by omega) (by omega) (by omega)) ?_
        rintro _ m3 ⟨p3, c3, e, rfl, he, hz, hdp3⟩
        have c13 := c2.trans c3
        have ho3 : m3.ob m'.nx = some (.lst es.ds) := (c13.ob _ (by omega) hlt).trans ho
        have hlen : es.ds.length < sizeLine := by
          have : es.ds.length ≤ es.sz := es.len_sz
          rw [sizeLine_eq]; omega
        refine v_app ho3 hlen ?_
        (repeat' (first | (with_reducible first | refine w_set ?_ | refine v_op ?_ | refine q_sub ?_) | (with_reducible refine v_vx ?_; refine ex_v rfl ?_) | fail))
        refine ⟨es.app e, k + 1, left - (1 + d), _, _, _, rfl, ?_, by omega, ?_, ?_, ?_, by omega, ?_, ?_, (c1.trans c13).putO (by omega) _⟩
        · rw [show ps.length - (k + 1) = k2 by omega]
          push_cast
          rfl
        · rw [put_ob, Exs.app_ds]
        · rw [Exs.app_ok, hok, he]; rfl
        · rw [Exs.app_dp]; omega
        · rw [Exs.app_sz]; push_cast; omega
        · exact (p3.putO (by omega) (ob_lt p3 ho3) _).mono (by omega)
end BG

set_option Elab.async false
set_option linter.all false
set_option maxRecDepth 100000
set_option autoImplicit false
/-! BGf: plain deeds, counts. -/
namespace BG
open PySem PySem.Spec PyProof.Rows L2 Ev
theorem v_map {α : Type} {as : As} {t : MT} {e : ME} {s : Slots} {xs : List α} {g f : α → D} {m : Mem} {QA : List D → Mem → Prop} {XX : XQ}
    (h : ∀ x ∈ xs, ∃ s1, as (g x) s = some s1 ∧ wp (t s1 m) (fun c m1 => c = true ∧ m1 = m) noX ∧ wp (e s1 m) (fun v m1 => m1 = m ∧ v = f x) noX) (hl : xs.length ≤ sizeLine) (k : QA (xs.map f) m) : wp (loopC as t e s (xs.map g) [] m) QA XX := by
  refine v_loopC (I := fun ds acc m1 => m1 = m ∧ ∃ ys zs : List α, xs = ys ++ zs ∧ ds = zs.map g ∧ acc = ys.map f) ?_ ?_ ?_
  · exact ⟨rfl, [], xs, rfl, rfl, rfl⟩
  · rintro acc m1 ⟨rfl, ys, zs, e1, e2, rfl⟩
    have : zs = [] := List.map_eq_nil_iff.mp e2.symm
    subst this
    rw [List.append_nil] at e1
    subst e1
    exact k
  · rintro d ds acc m1 ⟨rfl, ys, zs, e1, e2, rfl⟩
    cases zs with
    | nil => cases e2
    | cons z zs =>
      obtain ⟨h1, h2⟩ := List.cons.inj e2
      subst h1 h2
      obtain ⟨s1, q1, q2, q3⟩ := h z (by rw [e1]; simp)
      refine ⟨s1, q1, wp_imp q2 ?_⟩
      rintro c m2 ⟨rfl, rfl⟩
      refine pick_t rfl (wp_imp q3 ?_)
      rintro v m3 ⟨rfl, rfl⟩
      have : xs.length = ys.length + (zs.length + 1) := by rw [e1, List.length_append, List.length_cons]
      refine ⟨by rw [List.length_map]; omega, rfl, ys ++ [z], zs, by rw [e1]; simp, rfl, by simp⟩
theorem yes_ {s : Slots} {m : Mem} : wp (mYes s m) (fun c m1 => c = true ∧ m1 = m) noX := ⟨rfl, rfl⟩
/-! lists of deeds -/
def Blk.l : Blk → List Deed
  | .nil => []
  | .cons d b => d :: b.l
def Cts.l : Cts → List (Str × Str × Blk)
  | .nil => []
  | .cons w x b cs => (w, x, b) :: cs.l
theorem Blk.ds_l : ∀ b : Blk, b.ds = b.l.map Deed.d
  | .nil => rfl
  | .cons d b => by simp only [Blk.ds, Blk.l, List.map_cons, Blk.ds_l b]
theorem Cts.ds_l : ∀ cs : Cts, cs.ds = cs.l.map fun p => .tup [.str p.1, .str p.2.1, .tup p.2.2.ds]
  | .nil => rfl
  | .cons w x b cs => by simp only [Cts.ds, Cts.l, List.map_cons, Cts.ds_l cs]
theorem Blk.cnt_l : ∀ b : Blk, b.cnt = (b.l.map Deed.cnt).sum
  | .nil => rfl
  | .cons d b => by simp only [Blk.cnt, Blk.l, List.map_cons, List.sum_cons, Blk.cnt_l b]
theorem Blk.nest_l : ∀ (b : Blk) (d : Deed), d ∈ b.l → d.nest ≤ b.nest
  | .cons d b, e, h => by
    simp only [Blk.l, List.mem_cons] at h
    simp only [Blk.nest]
    rcases h with rfl | h
    · omega
    · have := Blk.nest_l b e h
      omega
theorem Blk.len_cnt : ∀ b : Blk, b.l.length ≤ b.cnt
  | .nil => Nat.le_refl _
  | .cons d b => by
    have := d.cnt_pos
    have := Blk.len_cnt b
    simp only [Blk.l, Blk.cnt, List.length_cons]
    omega
theorem Cts.len_many : ∀ cs : Cts, cs.l.length = cs.many
  | .nil => rfl
  | .cons w x b cs => by simp only [Cts.l, Cts.many, List.length_cons, Cts.len_many cs]
theorem Cts.cnt_l : ∀ cs : Cts, cs.cnt = (cs.l.map fun p => p.2.2.cnt).sum
  | .nil => rfl
  | .cons w x b cs => by simp only [Cts.cnt, Cts.l, List.map_cons, List.sum_cons, Cts.cnt_l cs]
theorem Cts.nest_l : ∀ (cs : Cts) (p : Str × Str × Blk), p ∈ cs.l → p.2.2.nest ≤ cs.nest
  | .cons w x b cs, p, h => by
    simp only [Cts.l, List.mem_cons] at h
    simp only [Cts.nest]
    rcases h with rfl | h
    · dsimp only; omega
    · have := Cts.nest_l cs p h
      omega
theorem Blk.ok_l : ∀ (b : Blk), b.ok = true → ∀ d ∈ b.l, d.ok = true
  | .nil, _, d, h => by simp only [Blk.l, List.not_mem_nil] at h
  | .cons d b, hb, e, h => by
    simp only [Blk.ok, Bool.and_eq_true] at hb
    simp only [Blk.l, List.mem_cons] at h
    rcases h with rfl | h
    · exact hb.1
    · exact Blk.ok_l b hb.2 e h
theorem Cts.ok_l : ∀ (cs : Cts), cs.ok = true → ∀ p ∈ cs.l, okS p.1 = true ∧ okS p.2.1 = true ∧ p.2.2.ok = true
  | .nil, _, d, h => by simp only [Cts.l, List.not_mem_nil] at h
  | .cons w x b cs, hb, e, h => by
    simp only [Cts.ok, Bool.and_eq_true] at hb
    simp only [Cts.l, List.mem_cons] at h
    rcases h with rfl | h
    · exact ⟨hb.1.1.1, hb.1.1.2, hb.1.2⟩
    · exact Cts.ok_l cs hb.2 e h
theorem mem_sum {α : Type} (f : α → Nat) : ∀ (l : List α) (x : α), x ∈ l → f x ≤ (l.map f).sum
  | y :: l, x, h => by
    rw [List.map_cons, List.sum_cons]
    rcases List.mem_cons.mp h with rfl | h
    · omega
    · have := mem_sum f l x h
      omega
theorem sum_int {α : Type} (f : α → Nat) : ∀ (l : List α), (l.map fun x => (f x : Int)).sum = ((l.map f).sum : Int)
  | [] => rfl
  | y :: l => by
    rw [List.map_cons, List.sum_cons, List.map_cons, List.sum_cons, sum_int f l]
    push_cast
    rfl
/-- the blocks of a deed, lasts too if there are none -/
def Deed.inn : Deed → List Blk
  | .ifd _ b c => [b, c]
  | .whl _ b => [b]
  | .tr b cs l => [b] ++ cs.l.map (fun p => p.2.2) ++ [l]
  | _ => []
def Blk.t (b : Blk) : D := .tup b.ds
theorem Deed.inn_cnt : ∀ d : Deed, d.cnt = 1 + (d.inn.map Blk.cnt).sum
  | .ifd _ b c => by simp only [Deed.cnt, Deed.inn, List.map_cons, List.map_nil, List.sum_cons, List.sum_nil]; omega
  | .whl _ b => by simp only [Deed.cnt, Deed.inn, List.map_cons, List.map_nil, List.sum_cons, List.sum_nil]; omega
  | .tr b cs l => by
    simp only [Deed.cnt, Deed.inn, List.map_append, List.map_cons, List.map_nil, List.sum_append, List.sum_cons, List.sum_nil, List.map_map, Cts.cnt_l]
    show _ = 1 + (b.cnt + 0 + (cs.l.map fun p => p.2.2.cnt).sum + (l.cnt + 0))
    omega
  | .lt _ _ | .give _ _ | .on _ _ | .note _ | .close _ | .fin _ | .ask _ _ _ _ | .cast _ _ _ _ _ | .leave | .fault _ _ => by rfl
theorem Deed.inn_nest : ∀ (d : Deed) (b : Blk), b ∈ d.inn → b.nest < d.nest
  | .ifd _ b c, x, h => by
    simp only [Deed.inn, List.mem_cons, List.not_mem_nil, or_false] at h
    simp only [Deed.nest]
    rcases h with rfl | rfl <;> omega
  | .whl _ b, x, h => by
    simp only [Deed.inn, List.mem_cons, List.not_mem_nil, or_false] at h
    simp only [Deed.nest]
    rcases h with rfl
    omega
  | .tr b cs l, x, h => by
    simp only [Deed.inn, List.mem_append, List.mem_cons, List.not_mem_nil, or_false, List.mem_map] at h
    simp only [Deed.nest]
    rcases h with (rfl | ⟨p, hp, rfl⟩) | rfl
    · omega
    · have := cs.nest_l p hp
      omega
    · omega
  | .lt _ _, _, h | .give _ _, _, h | .on _ _, _, h | .note _, _, h | .close _, _, h | .fin _, _, h | .ask _ _ _ _, _, h | .cast _ _ _ _ _, _, h | .leave, _, h | .fault _ _, _, h => by simp only [Deed.inn, List.not_mem_nil] at h
theorem Deed.ok_inn (d : Deed) (hd : d.ok = true) : ∀ b ∈ d.inn, b.ok = true := by
  intro x hx
  cases d
  case ifd e b c =>
    simp only [Deed.ok, Bool.and_eq_true] at hd
    simp only [Deed.inn, List.mem_cons, List.not_mem_nil, or_false] at hx
    rcases hx with rfl | rfl
    · exact hd.1.2
    · exact hd.2
  case whl e b =>
    simp only [Deed.ok, Bool.and_eq_true] at hd
    simp only [Deed.inn, List.mem_cons, List.not_mem_nil, or_false] at hx
    subst hx
    exact hd.2
  case tr b cs l =>
    simp only [Deed.ok, Bool.and_eq_true, decide_eq_true_eq] at hd
    simp only [Deed.inn, List.mem_append, List.mem_cons, List.not_mem_nil, or_false, List.mem_map] at hx
    rcases hx with (rfl | ⟨p, hp, rfl⟩) | rfl
    · exact hd.1.1.1
    · exact (cs.ok_l hd.1.1.2 p hp).2.2
    · exact hd.1.2
  all_goals (simp only [Deed.inn, List.not_mem_nil] at hx)
theorem inn_len (d : Deed) (hd : d.ok = true) : d.inn.length ≤ 5 := by
  cases d
  case tr b cs l =>
    simp only [Deed.ok, Bool.and_eq_true, decide_eq_true_eq] at hd
    have := cs.len_many
    simp only [Deed.inn, List.length_append, List.length_map, List.length_cons, List.length_nil]
    omega
  all_goals (simp only [Deed.inn, List.length_cons, List.length_nil]; omega)
theorem inner_ (d : Deed) (hd : d.ok = true) (m : Mem) : wp (g__law_inner [d.d] m) (fun v m' => m' = m ∧ v = .lst (d.inn.map Blk.t)) noX := by
  refine w_body rfl ?_
  unfold m__law_inner
  cases d
  case tr b cs l =>
    simp only [Deed.ok, Bool.and_eq_true, decide_eq_true_eq] at hd
    simp only [Deed.d]
    rw [Cts.ds_l]
    (repeat' (first | (with_reducible first | refine w_seq ?_ | refine w_if ?_ | refine w_ret ?_ | refine w_skip ?_ | refine v_c ?_ | refine v_op ?_ | refine a_nil ?_ | refine a_cons ?_ | refine v_lst ?_ | refine t_t ?_ | refine i_iter ?_ | refine v_lc ?_ | refine ex_bl ?_ | refine q_es ?_ | refine q_itT ?_) | (with_reducible refine v_vx ?_; refine ex_v rfl ?_) | (with_reducible refine q_ixT ?_; refine ex_o rfl ?_) | (with_reducible refine len_ok (by simp [sizeLine_eq]) ?_) | (with_reducible refine pick_dT (by decide +kernel) ?_) | (with_reducible refine pick_dF (by decide +kernel) ?_) | fail))
    refine v_map (f := fun p => p.2.2.t) ?_ ?_ ?_
    · intro p hp
      refine ⟨_, rfl, yes_, ?_⟩
      (repeat' (first | (with_reducible first | refine v_c ?_ | refine v_op ?_) | (with_reducible refine v_vx ?_; refine ex_v rfl ?_) | (with_reducible refine q_ixT ?_; refine ex_o rfl ?_) | fail))
      exact ⟨rfl, rfl⟩
    · rw [Cts.len_many, sizeLine_eq]; omega
    have hl := cs.len_many
    refine q_addL (by rw [List.length_map, sizeLine_eq, hl]; simp; omega) ?_
    (repeat' (first | (with_reducible first | refine v_c ?_ | refine v_op ?_ | refine a_nil ?_ | refine a_cons ?_ | refine v_lst ?_) | (with_reducible refine v_vx ?_; refine ex_v rfl ?_) | (with_reducible refine q_ixT ?_; refine ex_o rfl ?_) | (with_reducible refine len_ok (by simp [sizeLine_eq]) ?_) | fail))
    refine q_addL (by simp only [List.length_append, List.length_map, sizeLine_eq, hl, List.length_cons, List.length_nil]; omega) ?_
    refine ⟨rfl, ?_⟩
    simp only [Deed.inn, List.map_append, List.map_cons, List.map_nil, List.map_map]
    rfl
  all_goals
    simp only [Deed.d]
    (repeat' (first | (with_reducible first | refine w_seq ?_ | refine w_if ?_ | refine w_ret ?_ | refine w_skip ?_ | refine v_c ?_ | refine v_op ?_ | refine a_nil ?_ | refine a_cons ?_ | refine v_lst ?_ | refine t_t ?_ | refine ex_bl ?_ | refine q_es ?_) | (with_reducible refine v_vx ?_; refine ex_v rfl ?_) | (with_reducible refine q_ixT ?_; refine ex_o rfl ?_) | (with_reducible refine len_ok (by simp [sizeLine_eq]) ?_) | (with_reducible refine pick_dT (by decide +kernel) ?_) | (with_reducible refine pick_dF (by decide +kernel) ?_) | fail))
    exact ⟨rfl, rfl⟩
theorem count_ : ∀ (n : Nat) (b : Blk) (m : Mem), b.ok = true → b.nest < n → b.cnt ≤ 1000 → wp (r__law_count n [b.t] m) (fun v m' => m' = m ∧ v = .int (b.cnt : Int)) noX
  | 0, b, m, _, h, _ => by omega
  | n + 1, b, m, hb, h, hc => by
    have ih := count_ n
    unfold r__law_count
    refine w_body rfl ?_
    unfold m__law_count Blk.t
    rw [Blk.ds_l]
    (repeat' (first | (with_reducible first | refine w_ret ?_ | refine v_cb ?_ | refine a_cons ?_ | refine i_iter ?_ | refine v_lc ?_ | refine q_itT ?_) | (with_reducible refine v_vx ?_; refine ex_v rfl ?_) | fail))
    have hlen := b.len_cnt
    refine v_map (f := fun d => .int ((d.cnt : Nat) : Int)) ?_ ?_ ?_
    · intro d hd
      have hdn := b.nest_l d hd
      refine ⟨_, rfl, yes_, ?_⟩
      (repeat' (first | (with_reducible first | refine v_c ?_ | refine v_op ?_ | refine v_cb ?_ | refine v_call ?_ | refine a_nil ?_ | refine a_cons ?_ | refine i_iter ?_ | refine v_lc ?_) | (with_reducible refine v_vx ?_; refine ex_v rfl ?_) | fail))
      have hok := b.ok_l hb d hd
      have hcd : d.cnt ≤ b.cnt := by rw [b.cnt_l]; exact mem_sum Deed.cnt _ _ hd
      refine wp_imp (inner_ d hok m) ?_
      rintro _ m2 ⟨rfl, rfl⟩
      (repeat' (first | (with_reducible first | refine q_itL ?_) | fail))
      refine v_map (f := fun x => .int ((x.cnt : Nat) : Int)) ?_ ?_ ?_
      · intro x hx
        refine ⟨_, rfl, yes_, ?_⟩
        (repeat' (first | (with_reducible first | refine v_call ?_ | refine a_nil ?_ | refine a_cons ?_) | (with_reducible refine v_vx ?_; refine ex_v rfl ?_) | fail))
        have := d.inn_nest x hx
        have h2 : x.cnt ≤ (d.inn.map Blk.cnt).sum := mem_sum Blk.cnt _ _ hx
        have h3 := d.inn_cnt
        exact ih x m2 (d.ok_inn hok x hx) (by omega) (by omega)
      · have := inn_len d hok
        rw [sizeLine_eq]; omega
      (repeat' (first | (with_reducible first | refine a_nil ?_) | fail))
      have e : d.inn.map (fun x => D.int ((x.cnt : Nat) : Int)) = (d.inn.map fun x => ((x.cnt : Nat) : Int)).map D.int := by rw [List.map_map]; rfl
      rw [e]
      refine q_sum ?_
      (repeat' (first | (with_reducible first | refine q_add ?_) | fail))
      refine ⟨rfl, ?_⟩
      rw [sum_int Blk.cnt, d.inn_cnt]
      push_cast
      rfl
    · rw [sizeLine_eq]; omega
    · (repeat' (first | (with_reducible first | refine a_nil ?_) | fail))
      have e : b.l.map (fun x => D.int ((x.cnt : Nat) : Int)) = (b.l.map fun x => ((x.cnt : Nat) : Int)).map D.int := by rw [List.map_map]; rfl
      rw [e]
      refine q_sum ?_
      refine ⟨rfl, ?_⟩
      rw [sum_int Deed.cnt, b.cnt_l]
end BG

set_option Elab.async false
set_option linter.all false
set_option maxRecDepth 100000
set_option autoImplicit false
/-! BGg: plain deeds drawn. -/
namespace BG
open PySem PySem.Spec PyProof.Rows L2 Ev
def DeedQ (t : Nat) (m : Mem) (left : Nat) (nest : Int) (v : D) (m' : Mem) : Prop := ∃ d : Deed, v = d.d ∧ d.ok = true ∧ d.cnt ≤ left ∧ (d.nest : Int) ≤ nest ∧ PM (t + 900 * d.cnt) m' ∧ Ch m m'
theorem okk_of {e : Ex} {r : Int} {d : Int} (h : e.ok = true) (hr : (e.sz : Int) ≤ r) (hd : (e.dp : Int) ≤ d) (h1 : r ≤ 9) (h2 : d ≤ 4) : e.okk = true := by
  unfold Ex.okk
  rw [h, decide_eq_true (show e.sz ≤ 9 by omega), decide_eq_true (show e.dp ≤ 4 by omega)]; rfl
theorem simple_ {t : Nat} {m : Mem} {hs : List (Str × List Str)} {pool : List Str} {w : Bool} {left : Nat} {nest : Int} (p : PM t m) (ht : t + 2000 < 2 ^ 31) (g : GEnv hs pool) (hl : 1 ≤ left) (hn : 0 ≤ nest) :
    wp (g__law_simple [.ref 0, envD hs pool, .bl w] m) (fun v m' => ∃ d : Deed, v = d.d ∧ d.ok = true ∧ d.cnt ≤ left ∧ (d.nest : Int) ≤ nest ∧ PM (t + 900 * d.cnt - 200) m' ∧ Ch m m') noX := by
  have c0 := Ch.refl m
  have := g.pne
  have := g.plen
  refine w_body rfl ?_
  unfold m__law_simple
  (repeat' (first | (with_reducible first | refine w_seq ?_ | refine w_set ?_ | refine v_c ?_ | refine v_op ?_ | refine v_cb ?_ | refine v_call ?_ | refine a_nil ?_ | refine a_cons ?_ | refine q_add ?_ | refine q_intB ?_) | (with_reducible refine v_vx ?_; refine ex_v rfl ?_) | fail))
  refine draw_ p c0 (by omega) (by split <;> omega) (log_small (by split <;> omega) (by split <;> omega)) ?_
  intro d0 m0 p0 c0 lo0 hi0
  have hi0 : d0 < 11 := by split at hi0 <;> omega
  (repeat' (first | (with_reducible first | refine w_seq ?_ | refine w_asg ?_ | refine v_c ?_ | refine a_nil ?_ | refine a_cons ?_ | refine i_range ?_ | refine v_lc ?_) | (with_reducible refine i_rng (by decide) (by decide) ?_) | fail))
  refine v_loopC (I := fun ds acc m2 => ∃ ts : List Str, acc = ts.map D.str ∧ (∀ s ∈ ts, okS s = true) ∧ ts.length + ds.length = 2 ∧ PM (t + 1 + ts.length) m2 ∧ Ch m m2) ?_ ?_ ?_
  · exact ⟨[], rfl, by simp, rfl, p0, c0⟩
  · rintro acc m2 ⟨ts, rfl, hts, hl2, p2, c2⟩
    have hl2 : ts.length = 2 := by simpa using hl2
    match ts, hl2 with
    | [x, y], _ =>
    have hx := hts x (by simp)
    have hy := hts y (by simp)
    refine ⟨_, rfl, ?_⟩
    (repeat' (first | (with_reducible first | refine w_seq ?_ | refine w_set ?_ | refine v_c ?_ | refine v_call ?_ | refine a_nil ?_ | refine a_cons ?_) | (with_reducible refine v_vx ?_; refine ex_v rfl ?_) | fail))
    refine wp_imp (exp_ 40 9 4 _ _ hs pool p2 (by simp only [List.length_cons, List.length_nil, Int.reduceToNat]; omega) g (by decide) (by decide) (by decide) (by decide)) ?_
    rintro _ m3 ⟨p3, c3, e, rfl, he, hez, hed⟩
    have c3 := c2.trans c3
    have p3 : PM (t + 363) m3 := p3.mono (by simp only [List.length_cons, List.length_nil, Int.reduceToNat]; omega)
    have ek := okk_of he hez hed (by decide) (by decide)
    (repeat' (first | (with_reducible first | refine w_seq ?_ | refine w_if ?_ | refine v_c ?_ | refine v_op ?_ | refine t_t ?_ | refine ex_bl ?_ | refine q_lt ?_) | (with_reducible refine v_vx ?_; refine ex_v rfl ?_) | fail))
    refine pick_d (fun h1 => ?_) (fun h1 => ?_)
    · rcases (by omega : d0 = 0 ∨ d0 = 1 ∨ d0 = 2) with rfl | rfl | rfl
      · (repeat' (first | (with_reducible first | refine w_ret ?_ | refine v_c ?_ | refine v_op ?_ | refine a_nil ?_ | refine a_cons ?_ | refine v_tup ?_ | refine v_lst ?_) | (with_reducible refine v_vx ?_; refine ex_v rfl ?_) | (with_reducible refine q_ixL ?_; refine ex_o rfl ?_) | (with_reducible refine len_ok (by simp [sizeLine_eq]) ?_) | fail))
        exact ⟨.lt x e, rfl, by simp only [Deed.ok, hx, ek, Bool.and_self], hl, hn, p3.mono (by simp only [Deed.cnt]; omega), c3⟩
      · (repeat' (first | (with_reducible first | refine w_ret ?_ | refine v_c ?_ | refine v_op ?_ | refine a_nil ?_ | refine a_cons ?_ | refine v_tup ?_ | refine v_lst ?_) | (with_reducible refine v_vx ?_; refine ex_v rfl ?_) | (with_reducible refine q_ixL ?_; refine ex_o rfl ?_) | (with_reducible refine len_ok (by simp [sizeLine_eq]) ?_) | fail))
        exact ⟨.give x e, rfl, by simp only [Deed.ok, hx, ek, Bool.and_self], hl, hn, p3.mono (by simp only [Deed.cnt]; omega), c3⟩
      · (repeat' (first | (with_reducible first | refine w_ret ?_ | refine v_c ?_ | refine v_op ?_ | refine a_nil ?_ | refine a_cons ?_ | refine v_tup ?_ | refine v_lst ?_) | (with_reducible refine v_vx ?_; refine ex_v rfl ?_) | (with_reducible refine q_ixL ?_; refine ex_o rfl ?_) | (with_reducible refine len_ok (by simp [sizeLine_eq]) ?_) | fail))
        exact ⟨.on x e, rfl, by simp only [Deed.ok, hx, ek, Bool.and_self], hl, hn, p3.mono (by simp only [Deed.cnt]; omega), c3⟩
    (repeat' (first | (with_reducible first | refine w_seq ?_ | refine w_if ?_ | refine w_skip ?_ | refine v_c ?_ | refine v_op ?_ | refine t_t ?_ | refine ex_bl ?_ | refine q_lt ?_) | (with_reducible refine v_vx ?_; refine ex_v rfl ?_) | fail))
    refine pick_d (fun h2 => ?_) (fun h2 => ?_)
    · rcases (by omega : d0 = 3 ∨ d0 = 4 ∨ d0 = 5) with rfl | rfl | rfl
      · (repeat' (first | (with_reducible first | refine w_ret ?_ | refine v_c ?_ | refine v_op ?_ | refine a_nil ?_ | refine a_cons ?_ | refine v_tup ?_ | refine v_lst ?_ | refine q_sub ?_) | (with_reducible refine v_vx ?_; refine ex_v rfl ?_) | (with_reducible refine q_ixL ?_; refine ex_o rfl ?_) | (with_reducible refine len_ok (by simp [sizeLine_eq]) ?_) | fail))
        exact ⟨.note e, rfl, by simp only [Deed.ok, ek], hl, hn, p3.mono (by simp only [Deed.cnt]; omega), c3⟩
      · (repeat' (first | (with_reducible first | refine w_ret ?_ | refine v_c ?_ | refine v_op ?_ | refine a_nil ?_ | refine a_cons ?_ | refine v_tup ?_ | refine v_lst ?_ | refine q_sub ?_) | (with_reducible refine v_vx ?_; refine ex_v rfl ?_) | (with_reducible refine q_ixL ?_; refine ex_o rfl ?_) | (with_reducible refine len_ok (by simp [sizeLine_eq]) ?_) | fail))
        exact ⟨.close e, rfl, by simp only [Deed.ok, ek], hl, hn, p3.mono (by simp only [Deed.cnt]; omega), c3⟩
      · (repeat' (first | (with_reducible first | refine w_ret ?_ | refine v_c ?_ | refine v_op ?_ | refine a_nil ?_ | refine a_cons ?_ | refine v_tup ?_ | refine v_lst ?_ | refine q_sub ?_) | (with_reducible refine v_vx ?_; refine ex_v rfl ?_) | (with_reducible refine q_ixL ?_; refine ex_o rfl ?_) | (with_reducible refine len_ok (by simp [sizeLine_eq]) ?_) | fail))
        exact ⟨.fin e, rfl, by simp only [Deed.ok, ek], hl, hn, p3.mono (by simp only [Deed.cnt]; omega), c3⟩
    (repeat' (first | (with_reducible first | refine w_seq ?_ | refine w_if ?_ | refine w_skip ?_ | refine v_c ?_ | refine v_op ?_ | refine t_t ?_ | refine ex_bl ?_ | refine q_ei ?_) | (with_reducible refine v_vx ?_; refine ex_v rfl ?_) | fail))
    refine pick_d (fun h3 => ?_) (fun h3 => ?_)
    · (repeat' (first | (with_reducible first | refine w_ret ?_ | refine v_c ?_ | refine v_call ?_ | refine a_nil ?_ | refine a_cons ?_ | refine v_tup ?_) | (with_reducible refine v_vx ?_; refine ex_v rfl ?_) | fail))
      refine wp_imp (exp_ 40 3 2 _ _ hs pool p3 (by omega) g (by decide) (by decide) (by decide) (by decide)) ?_
      rintro _ m4 ⟨p4, c4, a, rfl, ha, haz, had⟩
      have c4 := c3.trans c4
      have ak := okk_of ha haz had (by decide) (by decide)
      (repeat' (first | (with_reducible first | refine a_nil ?_ | refine a_cons ?_) | (with_reducible refine v_vx ?_; refine ex_v rfl ?_) | (with_reducible refine len_ok (by simp [sizeLine_eq]) ?_) | fail))
      exact ⟨.ask x y a e, rfl, by simp only [Deed.ok, hx, hy, ak, ek, Bool.and_self], hl, hn, p4.mono (by simp only [Deed.cnt, Int.reduceToNat]; omega), c4⟩
    (repeat' (first | (with_reducible first | refine w_seq ?_ | refine w_if ?_ | refine w_skip ?_ | refine v_c ?_ | refine v_op ?_ | refine t_t ?_ | refine ex_bl ?_ | refine q_ei ?_) | (with_reducible refine v_vx ?_; refine ex_v rfl ?_) | fail))
    refine pick_d (fun h4 => ?_) (fun h4 => ?_)
    · (repeat' (first | (with_reducible first | refine w_ret ?_ | refine v_c ?_ | refine v_call ?_ | refine a_nil ?_ | refine a_cons ?_ | refine v_tup ?_) | (with_reducible refine v_vx ?_; refine ex_v rfl ?_) | fail))
      refine wp_imp (exp_ 40 3 2 _ _ hs pool p3 (by omega) g (by decide) (by decide) (by decide) (by decide)) ?_
      rintro _ m4 ⟨p4, c4, a, rfl, ha, haz, had⟩
      have c4 := c3.trans c4
      have p4 : PM (t + 483) m4 := p4.mono (by simp only [Int.reduceToNat]; omega)
      have ak := okk_of ha haz had (by decide) (by decide)
      (repeat' (first | (with_reducible first | refine v_call ?_ | refine a_nil ?_ | refine a_cons ?_) | (with_reducible refine v_vx ?_; refine ex_v rfl ?_) | fail))
      refine wp_imp (word_ p4 (by omega)) ?_
      rintro _ m5 ⟨p5, c5, u, rfl, hu⟩
      have c5 := c4.trans c5
      (repeat' (first | (with_reducible first | refine a_nil ?_ | refine a_cons ?_) | (with_reducible refine v_vx ?_; refine ex_v rfl ?_) | (with_reducible refine len_ok (by simp [sizeLine_eq]) ?_) | fail))
      exact ⟨.cast x y a u e, rfl, by simp only [Deed.ok, hx, hy, ak, ek, hu, Bool.and_self], hl, hn, p5.mono (by simp only [Deed.cnt]; omega), c5⟩
    (repeat' (first | (with_reducible first | refine w_seq ?_ | refine w_if ?_ | refine w_skip ?_ | refine v_c ?_ | refine v_op ?_ | refine t_t ?_ | refine ex_bl ?_ | refine q_ei ?_) | (with_reducible refine v_vx ?_; refine ex_v rfl ?_) | fail))
    refine pick_d (fun h5 => ?_) (fun h5 => ?_)
    · (repeat' (first | (with_reducible first | refine w_ret ?_ | refine v_c ?_ | refine a_nil ?_ | refine a_cons ?_ | refine v_tup ?_) | (with_reducible refine len_ok (by simp [sizeLine_eq]) ?_) | fail))
      exact ⟨.leave, rfl, rfl, hl, hn, p3.mono (by simp only [Deed.cnt]; omega), c3⟩
    (repeat' (first | (with_reducible first | refine w_ret ?_ | refine w_skip ?_ | refine v_c ?_ | refine v_op ?_ | refine v_call ?_ | refine a_nil ?_ | refine a_cons ?_ | refine v_tup ?_ | refine v_lst ?_) | (with_reducible refine v_vx ?_; refine ex_v rfl ?_) | fail))
    refine wp_imp (word_ p3 (by omega)) ?_
    rintro _ m5 ⟨p5, c5, u, rfl, hu⟩
    have c5 := c3.trans c5
    (repeat' (first | (with_reducible first | refine v_c ?_ | refine v_op ?_ | refine a_nil ?_ | refine a_cons ?_ | refine v_tup ?_ | refine q_sub ?_) | (with_reducible refine v_vx ?_; refine ex_v rfl ?_) | (with_reducible refine len_ok (by simp [sizeLine_eq]) ?_) | fail))
    rcases (by omega : d0 = 8 ∨ d0 = 9) with rfl | rfl
    · refine q_ixL (ex_o rfl ?_)
      exact ⟨.fault u e, rfl, by simp only [Deed.ok, hu, ek, Bool.and_self], hl, hn, p5.mono (by simp only [Deed.cnt]; omega), c5⟩
    · refine q_ixL (ex_o rfl ?_)
      exact ⟨.give x e, rfl, by simp only [Deed.ok, hx, ek, Bool.and_self], hl, hn, p5.mono (by simp only [Deed.cnt]; omega), c5⟩
  · rintro d ds acc m2 ⟨ts, rfl, hts, hl2, p2, c2⟩
    simp only [List.length_cons] at hl2
    refine ⟨_, rfl, ?_⟩
    (repeat' (first | (with_reducible first | refine v_c ?_ | refine v_op ?_ | refine v_cb ?_ | refine v_call ?_ | refine a_nil ?_ | refine a_cons ?_ | refine t_yes ?_ | refine q_lenL ?_) | (with_reducible refine v_vx ?_; refine ex_v rfl ?_) | (with_reducible refine q_ixDs ?_; refine ex_o (by repeat (first | exact look_here | refine look_skip (by decide +kernel) ?_)) ?_) | (with_reducible refine pick_t (by decide +kernel) ?_) | fail))
    rw [List.length_map]
    refine draw_ p2 c2 (by omega) (by omega) (log_small (by omega) (by omega)) ?_
    intro d m' p' c' lo' hi'
    refine q_pool g.pok lo' hi' ?_
    intro s _ hs
    refine ⟨by rw [List.length_map, sizeLine_eq]; omega, ts ++ [s], by simp, ?_, by simp; omega, p'.mono (by simp; omega), c'⟩
    intro u hu
    rcases List.mem_append.mp hu with q | q
    · exact hts u q
    · rw [List.mem_singleton.mp q]; exact hs
end BG

set_option Elab.async false
set_option linter.all false
set_option maxRecDepth 100000
set_option autoImplicit false
/-! BGh: blocks drawn. -/
namespace BG
open PySem PySem.Spec PyProof.Rows L2 Ev
def BlkQ (t : Nat) (m : Mem) (left nest : Int) (v : D) (m' : Mem) : Prop := ∃ b : Blk, v = b.t ∧ b.ok = true ∧ 1 ≤ b.cnt ∧ (b.cnt : Int) ≤ left ∧ (b.nest : Int) ≤ nest ∧ PM (t + 900 * b.cnt + 1) m' ∧ Ch m m'
def DdQ (t : Nat) (m : Mem) (left nest : Int) (v : D) (m' : Mem) : Prop := ∃ d : Deed, v = d.d ∧ d.ok = true ∧ (d.cnt : Int) ≤ left ∧ (d.nest : Int) ≤ nest ∧ PM (t + 900 * d.cnt) m' ∧ Ch m m'
def TryQ (t : Nat) (m : Mem) (left nest : Int) (v : D) (m' : Mem) : Prop := ∃ d : Deed, v = d.d ∧ d.ok = true ∧ (d.cnt : Int) ≤ left ∧ (d.nest : Int) ≤ nest ∧ PM (t + 900 * d.cnt - 100) m' ∧ Ch m m'
structure Args (sl t : Nat) (m : Mem) (hs : List (Str × List Str)) (pool : List Str) (deep left : Int) : Prop where
  p : PM t m
  t : t + 1000 * left.toNat + 3000 + sl < 2 ^ 31
  g : GEnv hs pool
  d1 : 1 ≤ deep
  d5 : deep ≤ 5
  l1 : 1 ≤ left
  l30 : left ≤ 30
def PBlk (n : Nat) : Prop := ∀ (t : Nat) (m : Mem) (hs : List (Str × List Str)) (pool : List Str) (deep left : Int) (w : Bool), Args 10 t m hs pool deep left → 3 * (5 - deep) + 2 ≤ n → wp (r__law_block n [.ref 0, envD hs pool, .int deep, .bl w, .int left] m) (BlkQ t m left (5 - deep)) noX
def PDeed (n : Nat) : Prop := ∀ (t : Nat) (m : Mem) (hs : List (Str × List Str)) (pool : List Str) (deep left : Int) (w : Bool), Args 5 t m hs pool deep left → 3 * (5 - deep) + 1 ≤ n → wp (r__law_deed n [.ref 0, envD hs pool, .int deep, .bl w, .int left] m) (DdQ t m left (5 - deep)) noX
def PTry (n : Nat) : Prop := ∀ (t : Nat) (m : Mem) (hs : List (Str × List Str)) (pool : List Str) (deep left : Int) (w : Bool), Args 4 t m hs pool deep left → deep ≤ 4 → 4 ≤ left → 3 * (5 - deep) ≤ n → wp (r__law_try n [.ref 0, envD hs pool, .int deep, .bl w, .int left] m) (TryQ t m left (5 - deep)) noX
theorem blk_step {n : Nat} (ih : PDeed n) : PBlk (n + 1) := by
  intro t m hs pool deep left w ⟨p, ht, g, d1, d5, l1, l30⟩ hn
  have c0 := Ch.refl m
  have hnx := p.nx
  unfold r__law_block
  refine w_body rfl ?_
  unfold m__law_block
  (repeat' (first | (with_reducible first | refine w_seq ?_ | refine w_set ?_ | refine v_c ?_ | refine v_op ?_ | refine v_call ?_ | refine a_nil ?_ | refine a_cons ?_ | refine v_newL ?_) | (with_reducible refine v_vx ?_; refine ex_v rfl ?_) | (with_reducible refine len_ok (by simp [sizeLine_eq]) ?_) | fail))
  refine draw_ (p.addO _) (Ch.refl _) (by omega) (by decide) (by decide) ?_
  intro d0 m1 p1 c1 lo1 hi1
  have ho1 : m1.ob m.nx = some (.lst []) := (c1.ob _ (by omega) (Nat.lt_succ_self _)).trans (add_ob _ _)
  have c1 := (c0.addO _).trans c1
  (repeat' (first | (with_reducible first | refine w_seq ?_ | refine q_add ?_) | fail))
  refine w_while (I := fun j s m2 => ∃ (b : Blk) (lf : Int) (o7 : Option D), s = [some (.ref 0), some (envD hs pool), some (.int deep), some (.bl w), some (.int lf), some (.ref m.nx), some (.int (1 + d0)), o7] ∧ lf.toNat ≤ j ∧ m2.ob m.nx = some (.lst b.ds) ∧ b.ok = true ∧ (b.cnt : Int) + lf = left ∧ 0 ≤ lf ∧ (b.nest : Int) ≤ 5 - deep ∧ PM (t + 900 * b.cnt + 1) m2 ∧ Ch m m2) left.toNat (show _ < 1000000000000 by omega) ?_ ?_
  · exact ⟨.nil, left, none, rfl, Nat.le_refl _, ho1, rfl, by simp only [Blk.cnt]; omega, by omega, by simp only [Blk.nest]; omega, p1.mono (by omega), c1⟩
  · rintro j s m2 ⟨b, lf, o7, rfl, hj, ho, hok, hc, h0, hnest, p2, c2⟩
    have hlt := ob_lt p2 ho
    have fin : ∀ (N : Slots → Mem → Prop) (XX : XS), 1 ≤ b.cnt → ws (mRet (mCB opTuple (mCons (mV 5) mNil)) [some (D.ref 0), some (envD hs pool), some (D.int deep), some (D.bl w), some (D.int lf), some (D.ref m.nx), some (D.int (1 + d0)), o7] m2) N (BlkQ t m left (5 - deep)) noS noS XX := by
      intro N XX h1
      (repeat' (first | (with_reducible first | refine w_ret ?_ | refine v_cb ?_ | refine a_nil ?_ | refine a_cons ?_) | (with_reducible refine v_vx ?_; refine ex_v rfl ?_) | fail))
      refine q_tupR ho ?_
      exact ⟨b, rfl, hok, h1, by omega, hnest, p2, c2⟩
    have nil0 : b.cnt = 0 → b.ds.length = 0 := by
      cases b with
      | nil => intro _; rfl
      | cons d b =>
        have := d.cnt_pos
        simp only [Blk.cnt]
        omega
    (repeat' (first | (with_reducible first | refine v_c ?_ | refine v_op ?_ | refine t_t ?_ | refine t_and ?_ | refine ex_bl ?_ | refine q_gt ?_) | (with_reducible refine v_vx ?_; refine ex_v rfl ?_) | fail))
    refine pick_d (fun h1 => ?_) (fun h1 => ?_)
    · (repeat' (first | (with_reducible first | refine v_op ?_ | refine v_cb ?_ | refine a_nil ?_ | refine a_cons ?_ | refine t_t ?_) | (with_reducible refine v_vx ?_; refine ex_v rfl ?_) | fail))
      refine q_lenR ho ?_
      (repeat' (first | (with_reducible first | refine ex_bl ?_ | refine q_lt ?_) | (with_reducible refine v_vx ?_; refine ex_v rfl ?_) | fail))
      refine pick_d (fun h2 => ?_) (fun h2 => ?_)
      · refine ⟨by omega, ?_⟩
        (repeat' (first | (with_reducible first | refine w_seq ?_ | refine w_set ?_ | refine v_call ?_ | refine a_nil ?_ | refine a_cons ?_) | (with_reducible refine v_vx ?_; refine ex_v rfl ?_) | fail))
        refine wp_imp (ih (t + 900 * b.cnt + 1) m2 hs pool deep lf w ⟨p2, by omega, g, d1, d5, by omega, by omega⟩ (by omega)) ?_
        rintro _ m3 ⟨d, rfl, dok, dc, dn, p3, c3⟩
        have ho3 : m3.ob m.nx = some (.lst b.ds) := (c3.ob _ (by omega) hlt).trans ho
        (repeat' (first | (with_reducible first | refine w_seq ?_ | refine w_drop ?_ | refine v_l1 ?_) | (with_reducible refine v_vx ?_; refine ex_v rfl ?_) | fail))
        refine ⟨isL_ref ho3, ?_⟩
        (repeat' (first | (with_reducible refine v_vx ?_; refine ex_v rfl ?_) | fail))
        have hlen : b.ds.length < sizeLine := by
          have e1 := b.len_cnt
          have e2 : b.ds.length = b.l.length := by rw [b.ds_l, List.length_map]
          rw [sizeLine_eq]; omega
        refine v_app ho3 hlen ?_
        (repeat' (first | (with_reducible first | refine w_set ?_ | refine v_op ?_ | refine v_call ?_ | refine a_nil ?_ | refine a_cons ?_ | refine v_tup ?_) | (with_reducible refine v_vx ?_; refine ex_v rfl ?_) | (with_reducible refine len_ok (by simp [sizeLine_eq]) ?_) | fail))
        refine wp_imp (count_ 40 (.cons d .nil) _ (by simp only [Blk.ok, dok, Bool.and_self]) (by simp only [Blk.nest]; omega) (by simp only [Blk.cnt]; omega)) ?_
        rintro _ m4 ⟨rfl, rfl⟩
        have dp := d.cnt_pos
        (repeat' (first | (with_reducible first | refine q_sub ?_) | fail))
        refine ⟨b.app d, _, _, rfl, ?_, ?_, ?_, ?_, ?_, ?_, ?_, (c2.trans c3).putO (Nat.le_refl _) _⟩
        · simp only [Blk.cnt]; omega
        · rw [put_ob, Blk.app_ds]
        · rw [Blk.app_ok, hok, dok]; rfl
        · rw [Blk.app_cnt]; simp only [Blk.cnt]; push_cast; omega
        · simp only [Blk.cnt]; omega
        · rw [Blk.app_nest]; push_cast; omega
        · exact (p3.putO (by omega) (ob_lt p3 ho3) _).mono (by rw [Blk.app_cnt]; omega)
      · refine fin _ _ ?_
        rcases Nat.eq_zero_or_pos b.cnt with z | z
        · have := nil0 z
          omega
        · exact z
    · refine pick_f rfl ?_
      refine fin _ _ ?_
      omega
end BG

set_option Elab.async false
set_option linter.all false
set_option maxRecDepth 100000
set_option autoImplicit false
/-! BGi: deeds drawn. -/
namespace BG
open PySem PySem.Spec PyProof.Rows L2 Ev
theorem pool_ {t : Nat} {m0 m : Mem} {hs : List (Str × List Str)} {pool : List Str} {Q : D → Mem → Prop} {XX : XQ} {sl : Slots} (p : PM t m) (c : Ch m0 m) (ht : t + 10 < 2 ^ 31) (g : GEnv hs pool) (h0 : sl[0]? = some (some (.ref 0))) (h1 : sl[1]? = some (some (envD hs pool)))
    (k : ∀ (s : Str) (m' : Mem), okS s = true → PM (t + 1) m' → Ch m0 m' → Q (.str s) m') :
    wp (mOp opIx (mOp opIx (mV 1) (mC (.str "pool"))) (mCall g__law_draw (mCons (mV 0) (mCons (mCB opLen (mCons (mOp opIx (mV 1) (mC (.str "pool"))) mNil)) mNil))) sl m) Q XX := by
  have := g.pne
  have := g.plen
  refine v_op (v_op (v_v h1 (v_c ?_)))
  (repeat' (first | (with_reducible first | refine v_call ?_ | refine a_cons ?_) | (with_reducible refine q_ixDs ?_; refine ex_o (by repeat (first | exact look_here | refine look_skip (by decide +kernel) ?_)) ?_) | fail))
  refine v_v h0 ?_
  refine a_cons (v_cb (a_cons (v_op (v_v h1 (v_c ?_)))))
  (repeat' (first | (with_reducible first | refine a_nil ?_ | refine q_lenL ?_) | (with_reducible refine q_ixDs ?_; refine ex_o (by repeat (first | exact look_here | refine look_skip (by decide +kernel) ?_)) ?_) | fail))
  rw [List.length_map]
  refine draw_ p c (by omega) (by omega) (log_small (by omega) (by omega)) ?_
  intro d m' p' c' lo' hi'
  refine q_pool g.pok lo' hi' ?_
  intro s _ hs
  exact k s m' hs p' c'
set_option maxHeartbeats 2000000 in
theorem deed_step {n : Nat} (ihT : PTry n) (ihB : PBlk n) : PDeed (n + 1) := by
  intro t m hs pool deep left w ⟨p, ht, g, d1, d5, l1, l30⟩ hn
  have c0 := Ch.refl m
  unfold r__law_deed
  refine w_body rfl ?_
  unfold m__law_deed
  (repeat' (first | (with_reducible first | refine w_seq ?_ | refine w_set ?_ | refine v_c ?_ | refine v_call ?_ | refine a_nil ?_ | refine a_cons ?_) | (with_reducible refine v_vx ?_; refine ex_v rfl ?_) | fail))
  (refine draw_ (by assumption) (by assumption) (by omega) (by decide) (by decide) ?_; intro d m' p' c' lo' hi')
  have smp : ∀ (XX : XQ), wp (g__law_simple [.ref 0, envD hs pool, .bl w] m') (DdQ t m left (5 - deep)) XX := by
    intro XX
    refine wp_imp (simple_ p' (by omega) g (left := left.toNat) (nest := 5 - deep) (by omega) (by omega)) ?_
    rintro v m2 ⟨d, rfl, h1, h2, h3, h4, h5⟩
    have := d.cnt_pos
    exact ⟨d, rfl, h1, by omega, h3, h4.mono (by omega), c'.trans h5⟩
  (repeat' (first | (with_reducible first | refine w_seq ?_ | refine w_if ?_ | refine v_c ?_ | refine v_op ?_ | refine t_t ?_ | refine t_or ?_ | refine ex_bl ?_ | refine q_ge ?_) | (with_reducible refine v_vx ?_; refine ex_v rfl ?_) | fail))
  refine pick_d (fun h1 => ?_) (fun h1 => ?_)
  · refine pick_t rfl (w_ret (v_call ?_))
    (repeat' (first | (with_reducible first | refine a_nil ?_ | refine a_cons ?_) | (with_reducible refine v_vx ?_; refine ex_v rfl ?_) | fail))
    exact smp _
  (repeat' (first | (with_reducible first | refine v_c ?_ | refine v_op ?_ | refine t_t ?_ | refine t_or ?_ | refine ex_bl ?_ | refine q_lt ?_) | (with_reducible refine v_vx ?_; refine ex_v rfl ?_) | fail))
  refine pick_d (fun h2 => ?_) (fun h2 => ?_)
  · refine pick_t rfl (w_ret (v_call ?_))
    (repeat' (first | (with_reducible first | refine a_nil ?_ | refine a_cons ?_) | (with_reducible refine v_vx ?_; refine ex_v rfl ?_) | fail))
    exact smp _
  (repeat' (first | (with_reducible first | refine v_c ?_ | refine v_op ?_ | refine t_t ?_ | refine ex_bl ?_ | refine q_lt ?_) | (with_reducible refine v_vx ?_; refine ex_v rfl ?_) | fail))
  refine pick_d (fun h3 => ?_) (fun h3 => ?_)
  · refine w_ret (v_call ?_)
    (repeat' (first | (with_reducible first | refine a_nil ?_ | refine a_cons ?_) | (with_reducible refine v_vx ?_; refine ex_v rfl ?_) | fail))
    exact smp _
  (repeat' (first | (with_reducible first | refine w_seq ?_ | refine w_if ?_ | refine w_skip ?_ | refine v_c ?_ | refine v_op ?_ | refine t_t ?_ | refine ex_bl ?_ | refine q_ei ?_) | (with_reducible refine v_vx ?_; refine ex_v rfl ?_) | fail))
  refine pick_d (fun h4 => ?_) (fun h4 => ?_)
  · refine w_ret (v_call ?_)
    (repeat' (first | (with_reducible first | refine a_nil ?_ | refine a_cons ?_) | (with_reducible refine v_vx ?_; refine ex_v rfl ?_) | fail))
    refine wp_imp (ihT _ _ hs pool deep left w ⟨p', by omega, g, d1, by omega, l1, l30⟩ (by omega) (by omega) (by omega)) ?_
    rintro v m2 ⟨d, rfl, h1, h2, h3, h4, h5⟩
    have := d.cnt_pos
    exact ⟨d, rfl, h1, h2, h3, h4.mono (by omega), c'.trans h5⟩
  (repeat' (first | (with_reducible first | refine w_seq ?_ | refine w_set ?_ | refine w_skip ?_ | refine v_c ?_ | refine v_call ?_ | refine a_nil ?_ | refine a_cons ?_) | (with_reducible refine v_vx ?_; refine ex_v rfl ?_) | fail))
  refine wp_imp (exp_ 40 5 3 _ _ hs pool p' (by simp only [Int.reduceToNat]; omega) g (by decide) (by decide) (by decide) (by decide)) ?_
  rintro _ m2 ⟨p2, c2, e, rfl, he, hez, hed⟩
  have ek := okk_of he hez hed (by decide) (by decide)
  have p2 : PM (t + 201) m2 := p2.mono (by simp only [Int.reduceToNat]; omega)
  have c2 := c'.trans c2
  (repeat' (first | (with_reducible first | refine w_seq ?_ | refine w_set ?_ | refine v_c ?_ | refine v_op ?_ | refine v_call ?_ | refine a_nil ?_ | refine a_cons ?_ | refine q_sub ?_) | (with_reducible refine v_vx ?_; refine ex_v rfl ?_) | fail))
  refine draw_ p2 c2 (by omega) (by omega) (log_small (by omega) (by omega)) ?_
  intro d7 m3 p3 c3 lo3 hi3
  (repeat' (first | (with_reducible first | refine w_seq ?_ | refine w_set ?_ | refine v_c ?_ | refine v_op ?_ | refine v_call ?_ | refine a_cons ?_ | refine v_or ?_ | refine ex_bl ?_ | refine q_add ?_) | (with_reducible refine v_vx ?_; refine ex_v rfl ?_) | fail))
  rcases (by omega : d = 3 ∨ d = 4) with rfl | rfl
  · cases w
    all_goals
      (repeat' (first | (with_reducible first | refine v_c ?_ | refine v_op ?_ | refine a_nil ?_ | refine a_cons ?_ | refine q_ei ?_) | (with_reducible refine v_vx ?_; refine ex_v rfl ?_) | (with_reducible refine pick_t (by decide +kernel) ?_) | (with_reducible refine pick_f (by decide +kernel) ?_) | fail))
      refine wp_imp (ihB _ _ hs pool (deep + 1) (1 + d7) _ ⟨p3, by omega, g, by omega, by omega, by omega, by omega⟩ (by omega)) ?_
      rintro _ m4 ⟨b, rfl, bok, b1, bc, bn, p4, c4⟩
      have c4 := c3.trans c4
      (repeat' (first | (with_reducible first | refine w_seq ?_ | refine w_set ?_ | refine w_if ?_ | refine w_skip ?_ | refine v_c ?_ | refine v_op ?_ | refine v_call ?_ | refine a_nil ?_ | refine a_cons ?_ | refine v_tup ?_ | refine t_t ?_ | refine ex_bl ?_ | refine q_ei ?_) | (with_reducible refine v_vx ?_; refine ex_v rfl ?_) | (with_reducible refine len_ok (by simp [sizeLine_eq]) ?_) | (with_reducible refine pick_dF (by decide +kernel) ?_) | fail))
      refine draw_ p4 c4 (by omega) (by decide) (by decide) ?_
      intro d9 m5 p5 c5 lo5 hi5
      (repeat' (first | (with_reducible first | refine v_c ?_ | refine ex_bl ?_ | refine q_ei ?_) | fail))
      refine pick_d (fun h9 => ?_) (fun h9 => ?_)
      · (repeat' (first | (with_reducible first | refine w_set ?_ | refine v_c ?_ | refine v_op ?_ | refine v_call ?_ | refine a_nil ?_ | refine a_cons ?_ | refine q_add ?_ | refine q_sub ?_) | (with_reducible refine v_vx ?_; refine ex_v rfl ?_) | fail))
        refine wp_imp (ihB _ _ hs pool (deep + 1) (left - 1 - (1 + d7)) _ ⟨p5, by omega, g, by omega, by omega, by omega, by omega⟩ (by omega)) ?_
        rintro _ m6 ⟨c, rfl, cok, c1', cc, cn, p6, c6⟩
        have c6 := c5.trans c6
        (repeat' (first | (with_reducible first | refine w_ret ?_ | refine v_c ?_ | refine a_nil ?_ | refine a_cons ?_ | refine v_tup ?_) | (with_reducible refine v_vx ?_; refine ex_v rfl ?_) | (with_reducible refine len_ok (by simp [sizeLine_eq]) ?_) | fail))
        exact ⟨.ifd e b c, rfl, by simp only [Deed.ok, ek, bok, cok, Bool.and_self], by simp only [Deed.cnt]; omega, by simp only [Deed.nest]; omega, p6.mono (by simp only [Deed.cnt]; omega), c6⟩
      · (repeat' (first | (with_reducible first | refine w_ret ?_ | refine w_skip ?_ | refine v_c ?_ | refine a_nil ?_ | refine a_cons ?_ | refine v_tup ?_) | (with_reducible refine v_vx ?_; refine ex_v rfl ?_) | (with_reducible refine len_ok (by simp [sizeLine_eq]) ?_) | fail))
        exact ⟨.ifd e b .nil, rfl, by simp only [Deed.ok, Blk.ok, ek, bok, Bool.and_self], by simp only [Deed.cnt, Blk.cnt]; omega, by simp only [Deed.nest, Blk.nest]; omega, p5.mono (by simp only [Deed.cnt, Blk.cnt]; omega), c5⟩
  · cases w
    all_goals
      (repeat' (first | (with_reducible first | refine v_c ?_ | refine v_op ?_ | refine a_nil ?_ | refine a_cons ?_ | refine q_ei ?_) | (with_reducible refine v_vx ?_; refine ex_v rfl ?_) | (with_reducible refine pick_t (by decide +kernel) ?_) | (with_reducible refine pick_f (by decide +kernel) ?_) | fail))
      refine wp_imp (ihB _ _ hs pool (deep + 1) (1 + d7) _ ⟨p3, by omega, g, by omega, by omega, by omega, by omega⟩ (by omega)) ?_
      rintro _ m4 ⟨b, rfl, bok, b1, bc, bn, p4, c4⟩
      have c4 := c3.trans c4
      (repeat' (first | (with_reducible first | refine w_seq ?_ | refine w_if ?_ | refine w_ret ?_ | refine v_c ?_ | refine v_op ?_ | refine a_nil ?_ | refine a_cons ?_ | refine v_tup ?_ | refine t_t ?_ | refine ex_bl ?_ | refine q_ei ?_) | (with_reducible refine v_vx ?_; refine ex_v rfl ?_) | (with_reducible refine len_ok (by simp [sizeLine_eq]) ?_) | (with_reducible refine pick_dT (by decide +kernel) ?_) | fail))
      exact ⟨.whl e b, rfl, by simp only [Deed.ok, ek, bok, Bool.and_self], by simp only [Deed.cnt]; omega, by simp only [Deed.nest]; omega, p4.mono (by simp only [Deed.cnt]; omega), c4⟩
set_option maxHeartbeats 2000000 in
theorem try_step {n : Nat} (ihB : PBlk n) : PTry (n + 1) := by
  intro t m hs pool deep left w ⟨p, ht, g, d1, d5, l1, l30⟩ hd4 hl4 hn
  have c0 := Ch.refl m
  unfold r__law_try
  refine w_body rfl ?_
  unfold m__law_try
  (repeat' (first | (with_reducible first | refine w_seq ?_ | refine w_set ?_ | refine v_c ?_ | refine v_op ?_ | refine v_call ?_ | refine a_nil ?_ | refine a_cons ?_ | refine q_sub ?_) | (with_reducible refine v_vx ?_; refine ex_v rfl ?_) | fail))
  refine draw_ p c0 (by omega) (by omega) (log_small (by omega) (by omega)) ?_
  intro d5' m1 p1 c1 lo1 hi1
  (repeat' (first | (with_reducible first | refine w_seq ?_ | refine w_set ?_ | refine v_c ?_ | refine v_op ?_ | refine v_call ?_ | refine a_nil ?_ | refine a_cons ?_ | refine q_add ?_) | (with_reducible refine v_vx ?_; refine ex_v rfl ?_) | fail))
  refine wp_imp (ihB _ _ hs pool (deep + 1) (1 + d5') _ ⟨p1, by omega, g, by omega, by omega, by omega, by omega⟩ (by omega)) ?_
  rintro _ m2 ⟨b, rfl, bok, b1, bc, bn, p2, c2⟩
  have c2 := c1.trans c2
  (repeat' (first | (with_reducible first | refine w_seq ?_ | refine w_set ?_ | refine v_c ?_ | refine v_op ?_ | refine v_cb ?_ | refine v_call ?_ | refine a_nil ?_ | refine a_cons ?_ | refine q_sub ?_) | (with_reducible refine v_vx ?_; refine ex_v rfl ?_) | fail))
  refine draw_ p2 c2 (by omega) (by decide) (by decide) ?_
  intro d8 m3 p3 c3 lo3 hi3
  (repeat' (first | (with_reducible first | refine w_seq ?_ | refine w_set ?_ | refine w_for ?_ | refine v_c ?_ | refine v_op ?_ | refine a_nil ?_ | refine a_cons ?_ | refine v_newL ?_ | refine i_range ?_ | refine q_sub ?_) | (with_reducible refine v_vx ?_; refine ex_v rfl ?_) | (with_reducible refine len_ok (by simp [sizeLine_eq]) ?_) | ((fail_if_success (with_reducible refine i_rng ?_ ?_ ?_)); (with_reducible refine wp_ofx ?_; refine ex_o rfl ?_)) | fail))
  have hm : ∃ mn : Int, (if left - 1 - (1 + d5') - 1 < d8 then left - 1 - (1 + d5') - 1 else d8) = mn ∧ 0 ≤ mn ∧ mn ≤ 3 ∧ mn ≤ left - 1 - (1 + d5') - 1 := ⟨_, rfl, by split <;> omega, by split <;> omega, by split <;> omega⟩
  obtain ⟨mn, hmn, mn0, mn3, mnr⟩ := hm
  rw [hmn]
  have hnx := p3.nx
  have cx := c3.nx
  refine i_rng mn0 (by omega) ?_
  refine w_loop (I := fun ds s m4 => ∃ (cs : Cts) (k : Nat) (rest : Int) (o10 o11 o12 o13 : Option D), s = [some (.ref 0), some (envD hs pool), some (.int deep), some (.bl w), some (.int left), some (.int (1 + d5')), some b.t, some (.int rest), some (.int mn), some (.ref m3.nx), o10, o11, o12, o13, none] ∧
    ds = upto (k : Int) (mn.toNat - k) ∧ k ≤ mn.toNat ∧ m4.ob m3.nx = some (.lst cs.ds) ∧ cs.ok = true ∧ cs.many = k ∧ (cs.nest : Int) ≤ 5 - (deep + 1) ∧ mn - k + 1 ≤ rest ∧ (cs.cnt : Int) + rest ≤ left - 1 - (1 + d5') ∧ PM (t + 3 + 900 * b.cnt + 20 * k + 900 * cs.cnt) m4 ∧ Ch m m4) ?_ ?_ ?_
  · refine ⟨.nil, 0, left - 1 - (1 + d5'), none, none, none, none, rfl, ?_, by omega, add_ob _ _, rfl, rfl, by simp only [Cts.nest]; omega, by omega, by simp only [Cts.cnt]; omega, (p3.addO _).mono (by simp only [Cts.cnt]; omega), c3.addO _⟩
    simp
  · rintro s m4 ⟨cs, k, rest, o10, o11, o12, o13, rfl, hds, hk, ho, cok, cm, cn, hr, hc, p4, c4⟩
    have hz := upto_nil hds
    have hlt := ob_lt p4 ho
    refine w_seq (w_set (v_tup (a_nil ⟨by decide, ?_⟩)))
    refine w_seqI (I := fun s m5 => ∃ (l : Blk) (o10 o11 o12 o13 : Option D), s = [some (.ref 0), some (envD hs pool), some (.int deep), some (.bl w), some (.int left), some (.int (1 + d5')), some b.t, some (.int rest), some (.int mn), some (.ref m3.nx), o10, o11, o12, o13, some l.t] ∧
      l.ok = true ∧ (l.cnt : Int) ≤ rest ∧ (l.nest : Int) ≤ 5 - (deep + 1) ∧ PM (t + 10 + 900 * b.cnt + 20 * k + 900 * cs.cnt + 900 * l.cnt) m5 ∧ Ch m m5 ∧ m5.ob m3.nx = some (.lst cs.ds)) ?_ ?_
    · have blk : ∀ (R : D → Mem → Prop) (XX : XS) (t5 : Nat) (m5 : Mem), t5 ≤ t + 5 + 900 * b.cnt + 20 * k + 900 * cs.cnt → PM t5 m5 → Ch m4 m5 →
          ws (mSet 14 (mCall (r__law_block n) (mCons (mV 0) (mCons (mV 1) (mCons (mOp opAdd (mV 2) (mC (.int 1))) (mCons (mV 3) (mCons (mOp opAdd (mC (.int 1)) (mCall g__law_draw (mCons (mV 0) (mCons (mV 7) mNil)))) mNil)))))) ([some (D.ref 0), some (envD hs pool), some (D.int deep), some (D.bl w), some (D.int left), some (D.int (1 + d5')), some b.t, some (D.int rest), some (D.int mn), some (D.ref m3.nx), o10, o11, o12, o13, none].set 14 (some (D.tup []))) m5)
            (fun s m5 => ∃ (l : Blk) (o10 o11 o12 o13 : Option D), s = [some (.ref 0), some (envD hs pool), some (.int deep), some (.bl w), some (.int left), some (.int (1 + d5')), some b.t, some (.int rest), some (.int mn), some (.ref m3.nx), o10, o11, o12, o13, some l.t] ∧
            l.ok = true ∧ (l.cnt : Int) ≤ rest ∧ (l.nest : Int) ≤ 5 - (deep + 1) ∧ PM (t + 10 + 900 * b.cnt + 20 * k + 900 * cs.cnt + 900 * l.cnt) m5 ∧ Ch m m5 ∧ m5.ob m3.nx = some (.lst cs.ds)) R noS noS XX := by
        intro R XX t5 m5 h5 p5 c5
        (repeat' (first | (with_reducible first | refine w_set ?_ | refine v_c ?_ | refine v_op ?_ | refine v_call ?_ | refine a_nil ?_ | refine a_cons ?_ | refine q_add ?_) | (with_reducible refine v_vx ?_; refine ex_v rfl ?_) | fail))
        refine draw_ p5 c5 (by omega) (by omega) (log_small (by omega) (by omega)) ?_
        intro d9 m6 p6 c6 lo6 hi6
        (repeat' (first | (with_reducible first | refine a_nil ?_ | refine q_add ?_) | fail))
        refine wp_imp (ihB _ _ hs pool (deep + 1) (1 + d9) _ ⟨p6, by omega, g, by omega, by omega, by omega, by omega⟩ (by omega)) ?_
        rintro _ m7 ⟨l, rfl, lok, l1', lc, ln, p7, c7⟩
        have c47 := c6.trans c7
        exact ⟨l, _, _, _, _, rfl, lok, by omega, ln, p7.mono (by omega), c4.trans c47, (c47.ob _ (by omega) hlt).trans ho⟩
      (repeat' (first | (with_reducible first | refine w_if ?_ | refine v_c ?_ | refine v_op ?_ | refine t_t ?_ | refine t_or ?_ | refine ex_bl ?_ | refine q_ei ?_) | (with_reducible refine v_vx ?_; refine ex_v rfl ?_) | fail))
      refine pick_d (fun h1 => ?_) (fun h1 => ?_)
      · exact pick_t rfl (blk _ _ _ _ (by omega) p4 (Ch.refl _))
      · (repeat' (first | (with_reducible first | refine v_c ?_ | refine v_op ?_ | refine v_call ?_ | refine a_nil ?_ | refine a_cons ?_ | refine t_t ?_) | (with_reducible refine v_vx ?_; refine ex_v rfl ?_) | fail))
        refine draw_ p4 (Ch.refl _) (by omega) (by decide) (by decide) ?_
        intro d9 m5 p5 c5 lo5 hi5
        (repeat' (first | (with_reducible first | refine v_c ?_ | refine ex_bl ?_ | refine q_ei ?_) | fail))
        refine pick_d (fun h2 => ?_) (fun h2 => ?_)
        · exact blk _ _ _ _ (by omega) p5 c5
        · refine w_skip ?_
          exact ⟨.nil, _, _, _, _, rfl, rfl, by simp only [Blk.cnt]; omega, by simp only [Blk.nest]; omega, p5.mono (by simp only [Blk.cnt]; omega), c4.trans c5, (c5.ob _ (by omega) hlt).trans ho⟩
    · rintro s m5 ⟨l, o10, o11, o12, o13, rfl, lok, lc, ln, p5, c5, ho5⟩
      (repeat' (first | (with_reducible first | refine w_ret ?_ | refine v_c ?_ | refine v_cb ?_ | refine a_nil ?_ | refine a_cons ?_ | refine v_tup ?_) | (with_reducible refine v_vx ?_; refine ex_v rfl ?_) | fail))
      refine q_tupR ho5 ?_
      (repeat' (first | (with_reducible first | refine a_nil ?_ | refine a_cons ?_) | (with_reducible refine v_vx ?_; refine ex_v rfl ?_) | (with_reducible refine len_ok (by simp [sizeLine_eq]) ?_) | fail))
      exact ⟨.tr b cs l, rfl, by simp only [Deed.ok, bok, cok, lok, Bool.and_self, Bool.true_and]; exact decide_eq_true (by omega), by simp only [Deed.cnt]; omega, by simp only [Deed.nest]; omega, p5.mono (by simp only [Deed.cnt]; omega), c5⟩
  · rintro x xs s m4 ⟨cs, k, rest, o10, o11, o12, o13, rfl, hds, hk, ho, cok, cm, cn, hr, hc, p4, c4⟩
    obtain ⟨k2, e2, rfl, rfl⟩ := upto_inv hds
    refine ⟨_, rfl, ?_⟩
    have hlt := ob_lt p4 ho
    (repeat' (first | (with_reducible first | refine w_seq ?_ | refine w_set ?_ | refine v_c ?_ | refine v_op ?_ | refine v_call ?_ | refine a_nil ?_ | refine a_cons ?_ | refine q_sub ?_) | (with_reducible refine v_vx ?_; refine ex_v rfl ?_) | fail))
    refine draw_ p4 (Ch.refl _) (by omega) (by omega) (log_small (by omega) (by omega)) ?_
    intro d11 m5 p5 c5 lo5 hi5
    (repeat' (first | (with_reducible first | refine w_seq ?_ | refine w_set ?_ | refine v_op ?_ | refine v_call ?_ | refine a_nil ?_ | refine a_cons ?_ | refine v_lst ?_ | refine q_add ?_) | (with_reducible refine v_vx ?_; refine ex_v rfl ?_) | fail))
    refine wp_imp (word_ p5 (by omega)) ?_
    rintro _ m6 ⟨p6, c6, u, rfl, hu⟩
    have c6 := c5.trans c6
    (repeat' (first | (with_reducible first | refine v_c ?_ | refine v_call ?_ | refine a_nil ?_ | refine a_cons ?_) | (with_reducible refine v_vx ?_; refine ex_v rfl ?_) | (with_reducible refine len_ok (by simp [sizeLine_eq]) ?_) | fail))
    refine draw_ p6 c6 (by omega) (by decide) (by decide) ?_
    intro d12 m7 p7 c7 lo7 hi7
    refine q_ixAllL (P := fun z => ∃ s : Str, z = .str s ∧ okS s = true) lo7 hi7 ?_ ?_
    · simp only [List.mem_cons, List.not_mem_nil, or_false]
      rintro z (rfl | rfl)
      · exact ⟨_, rfl, hu⟩
      · exact ⟨_, rfl, by decide +kernel⟩
    rintro z ⟨v, rfl, hv⟩
    refine w_seq (w_set ?_)
    refine pool_ p7 c7 (by omega) g rfl rfl ?_
    intro y m8 hy p8 c8
    (repeat' (first | (with_reducible first | refine w_seq ?_ | refine w_drop ?_ | refine v_l1 ?_) | (with_reducible refine v_vx ?_; refine ex_v rfl ?_) | fail))
    refine ⟨isL_ref ((c8.ob _ (by omega) hlt).trans ho), ?_⟩
    (repeat' (first | (with_reducible first | refine v_c ?_ | refine v_op ?_ | refine v_call ?_ | refine a_nil ?_ | refine a_cons ?_ | refine v_tup ?_ | refine q_add ?_) | (with_reducible refine v_vx ?_; refine ex_v rfl ?_) | fail))
    refine wp_imp (ihB _ _ hs pool (deep + 1) (1 + d11) _ ⟨p8, by omega, g, by omega, by omega, by omega, by omega⟩ (by omega)) ?_
    rintro _ m9 ⟨l, rfl, lok, l1', lc, ln, p9, c9⟩
    have c9 := c8.trans c9
    have ho9 : m9.ob m3.nx = some (.lst cs.ds) := (c9.ob _ (by omega) hlt).trans ho
    (repeat' (first | (with_reducible first | refine a_nil ?_) | (with_reducible refine len_ok (by simp [sizeLine_eq]) ?_) | fail))
    have hlen : cs.ds.length < sizeLine := by
      rw [cs.ds_l, List.length_map, cs.len_many, sizeLine_eq]; omega
    refine v_app ho9 hlen ?_
    (repeat' (first | (with_reducible first | refine w_set ?_ | refine v_op ?_ | refine q_sub ?_) | (with_reducible refine v_vx ?_; refine ex_v rfl ?_) | fail))
    refine ⟨cs.app v y l, k + 1, rest - (1 + d11), _, _, _, _, rfl, ?_, by omega, ?_, ?_, ?_, ?_, by omega, ?_, ?_, (c4.trans c9).putO (by omega) _⟩
    · rw [show mn.toNat - (k + 1) = k2 by omega]
      push_cast
      rfl
    · rw [put_ob, Cts.app_ds]; rfl
    · rw [Cts.app_ok, cok, hv, hy, lok]; rfl
    · rw [Cts.app_many, cm]
    · rw [Cts.app_nest]; push_cast; omega
    · rw [Cts.app_cnt]; push_cast; omega
    · exact (p9.putO (by omega) (ob_lt p9 ho9) _).mono (by rw [Cts.app_cnt]; omega)
theorem all_ : ∀ n : Nat, PBlk n ∧ PDeed n ∧ PTry n
  | 0 => ⟨fun t m hs pool deep left w a h => by have := a.d5; omega, fun t m hs pool deep left w a h => by have := a.d5; omega, fun t m hs pool deep left w a h4 h5 h => by omega⟩
  | n + 1 => ⟨blk_step (all_ n).2.1, deed_step (all_ n).2.2 (all_ n).1, try_step (all_ n).1⟩
end BG

set_option Elab.async false
set_option linter.all false
set_option maxRecDepth 100000
set_option autoImplicit false
/-! BGj: books drawn. -/
namespace BG
open PySem PySem.Spec PyProof.Rows L2 Ev
structure Rule where
  f : Str
  ps : List Str
  b : Blk
def Rule.d (r : Rule) : D := .tup [.str r.f, .tup (r.ps.map D.str), r.b.t]
structure Rule.Ok (r : Rule) : Prop where
  f : okS r.f = true
  ps : ∀ s ∈ r.ps, okS s = true
  p3 : r.ps.length ≤ 3
  b : r.b.ok = true
  c1 : 1 ≤ r.b.cnt
  c30 : r.b.cnt ≤ 30
  n4 : r.b.nest ≤ 4
theorem Rule.fac {r : Rule} (h : r.Ok) : Fac r.d 30 1000000 := by
  have hb := Fac.tup (r.b.fac h.b)
  have hp := Fac.tup (pl_strs h.ps)
  have := h.p3
  have := h.c30
  have := h.n4
  exact (Fac.tup (FacL.cons (k := 27) (tag_ok h.f) (FacL.cons (hp.mono (by omega) (Nat.le_refl _)) (fac1 (hb.mono (by omega) (Nat.le_refl _)))))).mono (by omega) (by omega)
theorem rules_fac {rs : List Rule} (h : ∀ r ∈ rs, r.Ok) : FacL (rs.map Rule.d) 30 (1000002 * rs.length) := by
  induction rs with
  | nil => exact FacL.nil.mono (Nat.zero_le _) (Nat.zero_le _)
  | cons r rs ih =>
    rw [List.map_cons]
    exact FacL.cons' (Rule.fac (h r (List.mem_cons_self ..))) (ih fun t ht => h t (List.mem_cons_of_mem _ ht)) (by rw [List.length_cons]; omega)
theorem block_ {t : Nat} {m : Mem} {hs : List (Str × List Str)} {pool : List Str} {left : Int} (p : PM t m) (ht : t + 40000 < 2 ^ 31) (g : GEnv hs pool) (l1 : 1 ≤ left) (l30 : left ≤ 30) :
    wp (g__law_block [.ref 0, envD hs pool, .int 1, .bl false, .int left] m) (BlkQ t m left 4) noX :=
  (all_ 40).1 t m hs pool 1 left false ⟨p, by omega, g, by decide, by decide, l1, l30⟩ (by decide)
set_option maxHeartbeats 2000000 in
theorem book_ {t : Nat} {m : Mem} {rules deeds : Int} (p : PM t m) (ht : t + 500000 < 2 ^ 31) (r1 : 1 ≤ rules) (r8 : rules ≤ 8) (d1 : 1 ≤ deeds) (d30 : deeds ≤ 30) :
    wp (g__law_book [.ref 0, .int rules, .int deeds] m) (fun v m' => PM (t + 400000) m' ∧ Ch m m' ∧ ∃ rs : List Rule, v = .tup (rs.map Rule.d) ∧ (∀ r ∈ rs, r.Ok) ∧ 1 ≤ rs.length ∧ (rs.length : Int) ≤ rules) noX := by
  have c0 := Ch.refl m
  have hn0 := p.nx
  refine w_body rfl ?_
  unfold m__law_book
  (repeat' (first | (with_reducible first | refine w_seq ?_ | refine w_set ?_ | refine v_c ?_ | refine v_op ?_ | refine v_call ?_ | refine a_nil ?_ | refine a_cons ?_) | (with_reducible refine v_vx ?_; refine ex_v rfl ?_) | fail))
  refine draw_ p c0 (by omega) (by omega) (log_small (by omega) (by omega)) ?_
  intro d3 m1 p1 c1 lo1 hi1
  (repeat' (first | (with_reducible first | refine a_nil ?_ | refine q_add ?_) | fail))
  refine wp_imp (names_ p1 (by omega) (by omega) (by omega)) ?_
  rintro _ m2 ⟨p2, c2, ns, rfl, hl, hns⟩
  have c2 := c1.trans c2
  (repeat' (first | (with_reducible first | refine w_seq ?_ | refine w_set ?_ | refine i_iter ?_ | refine v_lc ?_ | refine q_itL ?_) | (with_reducible refine v_vx ?_; refine ex_v rfl ?_) | fail))
  refine v_loopC (I := fun ds acc m3 => ∃ (hs : List (Str × List Str)) (ms : List Str), acc = hs.map headD ∧ ds = ms.map D.str ∧ (∀ s ∈ ms, okS s = true) ∧ (∀ h ∈ hs, okS h.1 = true ∧ (∀ s ∈ h.2, okS s = true) ∧ h.2.length ≤ 3) ∧ hs.length + ms.length = ns.length ∧ PM (t + 201 + 201 * hs.length) m3 ∧ Ch m m3) ?_ ?_ ?_
  · exact ⟨[], ns, rfl, rfl, hns, by simp, by simp, p2.mono (by simp only [List.length_nil]; omega), c2⟩
  · rintro acc m3 ⟨hs, ms, rfl, e, _, hh, hlen, p3, c3⟩
    have : ms = [] := List.map_eq_nil_iff.mp e.symm
    subst this
    have hlen : hs.length = ns.length := by simpa using hlen
    have hhs := hh
    have hn3 := p3.nx
    have hc3 := c3.nx
    have p3 : PM (t + 2000) m3 := p3.mono (by omega)
    (repeat' (first | (with_reducible first | refine w_seq ?_ | refine w_set ?_ | refine w_for ?_ | refine a_nil ?_ | refine v_newL ?_ | refine i_iter ?_ | refine q_itL ?_) | (with_reducible refine v_vx ?_; refine ex_v rfl ?_) | (with_reducible refine len_ok (by simp [sizeLine_eq]) ?_) | fail))
    refine w_loop (I := fun ds s m4 => ∃ (rs : List Rule) (h2 : List (Str × List Str)) (o6 o7 o8 o9 o10 : Option D), s = [some (.ref 0), some (.int rules), some (.int deeds), some (.lst (ns.map D.str)), some (.lst (hs.map headD)), some (.ref m3.nx), o6, o7, o8, o9, o10] ∧
      ds = h2.map headD ∧ (∀ h ∈ h2, okS h.1 = true ∧ (∀ s ∈ h.2, okS s = true) ∧ h.2.length ≤ 3) ∧ rs.length + h2.length = hs.length ∧ m4.ob m3.nx = some (.lst (rs.map Rule.d)) ∧ (∀ r ∈ rs, r.Ok) ∧ PM (t + 2000 + 30000 * rs.length) m4 ∧ Ch m m4) ?_ ?_ ?_
    · exact ⟨[], hs, none, none, none, none, none, rfl, rfl, hh, by simp, add_ob _ _, by simp, (p3.addO _).mono (by simp), c3.addO _⟩
    · rintro s m4 ⟨rs, h2, o6, o7, o8, o9, o10, rfl, e, _, hl2, ho, hrs, p4, c4⟩
      have : h2 = [] := List.map_eq_nil_iff.mp e.symm
      subst this
      have hl2 : rs.length = hs.length := by simpa using hl2
      (repeat' (first | (with_reducible first | refine w_ret ?_ | refine v_cb ?_ | refine a_nil ?_ | refine a_cons ?_) | (with_reducible refine v_vx ?_; refine ex_v rfl ?_) | fail))
      refine q_tupR ho ?_
      exact ⟨p4.mono (by omega), c4, rs, rfl, hrs, by omega, by omega⟩
    · rintro x xs s m4 ⟨rs, h2, o6, o7, o8, o9, o10, rfl, e, hh2, hl2, ho, hrs, p4, c4⟩
      cases h2 with
      | nil => cases e
      | cons h h2 =>
        obtain ⟨rfl, rfl⟩ := List.cons.inj e
        obtain ⟨f, ps⟩ := h
        obtain ⟨hf, hps, hp3⟩ := hh2 _ (List.mem_cons_self ..)
        dsimp only at hf hps hp3
        have hlt := ob_lt p4 ho
        have hn4 := p4.nx
        refine ⟨_, rfl, ?_⟩
        (repeat' (first | (with_reducible first | refine w_seq ?_ | refine w_set ?_ | refine v_newList ?_) | (with_reducible refine v_vx ?_; refine ex_v rfl ?_) | fail))
        refine ⟨ps.map D.str, rfl, ?_⟩
        (repeat' (first | (with_reducible first | refine w_seq ?_ | refine w_for ?_ | refine v_c ?_ | refine v_op ?_ | refine v_cb ?_ | refine v_call ?_ | refine a_nil ?_ | refine a_cons ?_ | refine i_range ?_ | refine q_sub ?_ | refine q_lenT ?_) | (with_reducible refine v_vx ?_; refine ex_v rfl ?_) | fail))
        rw [show (f, ps).snd = ps from rfl, List.length_map]
        refine draw_ (p4.addO _) (Ch.refl _) (by omega) (by omega) (log_small (by omega) (by omega)) ?_
        intro d9 m5 p5 c5 lo5 hi5
        (repeat' (first | (with_reducible first | refine a_nil ?_ | refine q_add ?_) | fail))
        have hj8 : m5.ob m4.nx = some (.lst (ps.map D.str)) := (c5.ob _ (by omega) (Nat.lt_succ_self _)).trans (add_ob _ _)
        have hj5 : m5.ob m3.nx = some (.lst (rs.map Rule.d)) := by
          refine (c5.ob _ (by omega) (Nat.lt_succ_of_lt hlt)).trans ?_
          show (if m3.nx = m4.nx then _ else m4.ob m3.nx) = _
          rw [if_neg (by omega)]; exact ho
        have c45 : Ch m m5 := (c4.addO _).trans c5
        have hc4 := c4.nx
        refine i_rng (by omega) (by omega) ?_
        refine w_loop (I := fun ds s m6 => ∃ (pool : List Str) (o9 : Option D), s = [some (.ref 0), some (.int rules), some (.int deeds), some (.lst (ns.map D.str)), some (.lst (hs.map headD)), some (.ref m3.nx), some (.str f), some (.tup (ps.map D.str)), some (.ref m4.nx), o9, o10] ∧
          pool.length + ds.length = ps.length + (1 + d9).toNat ∧ (∀ s ∈ pool, okS s = true) ∧ m6.ob m4.nx = some (.lst (pool.map D.str)) ∧ m6.ob m3.nx = some (.lst (rs.map Rule.d)) ∧ PM (t + 2001 + 30000 * rs.length + 12 * pool.length) m6 ∧ Ch m m6) ?_ ?_ ?_
        · refine ⟨ps, _, rfl, ?_, hps, hj8, hj5, p5.mono (by omega), c45⟩
          unfold upto
          simp
        · rintro s m6 ⟨pool, o9, rfl, hpl, hpool, ho8, ho5, p6, c6⟩
          have hpl : pool.length = ps.length + (1 + d9).toNat := by simpa using hpl
          have hlt6 := ob_lt p6 ho8
          have g : GEnv hs pool := ⟨by omega, by omega, fun h hh' => hhs h hh', by omega, by omega, hpool⟩
          refine w_seq (w_seq (w_frz rfl ho8 ?_))
          have p7 := p6.killO (i := m4.nx) (by omega)
          have c7 := c6.killO (i := m4.nx) hc4
          have ho57 : (m6.kill m4.nx).ob m3.nx = some (.lst (rs.map Rule.d)) := by
            show (if m3.nx = m4.nx then _ else m6.ob m3.nx) = _
            rw [if_neg (by omega)]; exact ho5
          have hlt57 := ob_lt p7 ho57
          (repeat' (first | (with_reducible first | refine w_set ?_ | refine w_drop ?_ | refine v_c ?_ | refine p_nil ?_ | refine p_cons ?_ | refine v_dict ?_ | refine v_l1 ?_) | (with_reducible refine v_vx ?_; refine ex_v rfl ?_) | ((with_reducible refine dictP_id ?_); (refine ex_dict (by repeat (first | exact DK.nil | apply DK.s | apply DK.i)) (by decide +kernel) (by decide) ?_)) | fail))
          refine ⟨isL_ref ho57, ?_⟩
          (repeat' (first | (with_reducible first | refine v_c ?_ | refine v_op ?_ | refine v_call ?_ | refine a_nil ?_ | refine a_cons ?_ | refine v_tup ?_) | (with_reducible refine v_vx ?_; refine ex_v rfl ?_) | fail))
          refine draw_ p7 (Ch.refl _) (by omega) (by omega) (log_small (by omega) (by omega)) ?_
          intro dd m8 p8 c8 lo8 hi8
          (repeat' (first | (with_reducible first | refine a_nil ?_ | refine q_add ?_) | fail))
          refine wp_imp (block_ p8 (by omega) g (by omega) (by omega)) ?_
          rintro _ m9 ⟨b, rfl, bok, b1, bc, bn, p9, c9⟩
          have c9 := c8.trans c9
          have ho9 : m9.ob m3.nx = some (.lst (rs.map Rule.d)) := (c9.ob _ (by omega) hlt57).trans ho57
          (repeat' (first | (with_reducible first | refine a_nil ?_) | (with_reducible refine len_ok (by simp [sizeLine_eq]) ?_) | fail))
          refine v_app ho9 (by rw [List.length_map, sizeLine_eq]; omega) ?_
          refine ⟨rs ++ [⟨f, ps, b⟩], h2, _, _, _, _, _, rfl, rfl, fun h hh' => hh2 h (List.mem_cons_of_mem _ hh'), ?_, ?_, ?_, ?_, (c7.trans c9).putO (by omega) _⟩
          · simp only [List.length_append, List.length_cons, List.length_nil] at hl2 ⊢; omega
          · rw [put_ob]; simp [Rule.d]
          · intro r hr
            rcases List.mem_append.mp hr with q | q
            · exact hrs r q
            · rw [List.mem_singleton.mp q]
              exact ⟨hf, hps, hp3, bok, b1, by dsimp only; omega, by dsimp only; omega⟩
          · exact (p9.putO (by omega) (ob_lt p9 ho9) _).mono (by simp only [List.length_append, List.length_cons, List.length_nil]; omega)
        · rintro x xs s m6 ⟨pool, o9, rfl, hpl, hpool, ho8, ho5, p6, c6⟩
          simp only [List.length_cons] at hpl
          have hlt6 := ob_lt p6 ho8
          have hlt65 := ob_lt p6 ho5
          refine ⟨_, rfl, ?_⟩
          (repeat' (first | (with_reducible first | refine w_drop ?_ | refine v_l1 ?_) | (with_reducible refine v_vx ?_; refine ex_v rfl ?_) | fail))
          refine ⟨isL_ref ho8, ?_⟩
          (repeat' (first | (with_reducible first | refine v_call ?_ | refine a_nil ?_ | refine a_cons ?_) | (with_reducible refine v_vx ?_; refine ex_v rfl ?_) | fail))
          refine wp_imp (fresh_ p6 (by omega) (by omega) ho8 hpool (by omega)) ?_
          rintro _ m7 ⟨p7, c7, w, rfl, hw⟩
          have ho87 : m7.ob m4.nx = some (.lst (pool.map D.str)) := (c7.ob _ (by omega) hlt6).trans ho8
          refine v_app ho87 (by rw [List.length_map, sizeLine_eq]; omega) ?_
          refine ⟨pool ++ [w], _, rfl, by simp; omega, ?_, ?_, ?_, ?_, (c6.trans c7).putO (by omega) _⟩
          · intro s hs'
            rcases List.mem_append.mp hs' with q | q
            · exact hpool s q
            · rw [List.mem_singleton.mp q]; exact hw
          · rw [put_ob]; simp
          · show (if m3.nx = m4.nx then _ else m7.ob m3.nx) = _
            rw [if_neg (by omega)]; exact (c7.ob _ (by omega) hlt65).trans ho5
          · exact (p7.putO (by omega) (ob_lt p7 ho87) _).mono (by simp; omega)
  · rintro x xs acc m3 ⟨hs, ms, rfl, e, hm, hh, hlen, p3, c3⟩
    cases ms with
    | nil => cases e
    | cons u ms =>
      obtain ⟨rfl, rfl⟩ := List.cons.inj e
      refine ⟨_, rfl, ?_⟩
      simp only [List.length_cons] at hlen
      (repeat' (first | (with_reducible first | refine v_c ?_ | refine v_cb ?_ | refine v_call ?_ | refine a_nil ?_ | refine a_cons ?_ | refine v_tup ?_ | refine t_yes ?_) | (with_reducible refine v_vx ?_; refine ex_v rfl ?_) | (with_reducible refine pick_t (by decide +kernel) ?_) | fail))
      refine draw_ p3 c3 (by omega) (by decide) (by decide) ?_
      intro d m4 p4 c4 lo4 hi4
      (repeat' (first | (with_reducible first | refine a_nil ?_) | fail))
      refine wp_imp (names_ p4 (by omega) (by omega) (by omega)) ?_
      rintro _ m5 ⟨p5, c5, ps, rfl, hl5, hps⟩
      have c5 := c4.trans c5
      (repeat' (first | (with_reducible first | refine a_nil ?_ | refine q_tupL ?_) | (with_reducible refine len_ok (by simp [sizeLine_eq]) ?_) | fail))
      refine ⟨by rw [List.length_map, sizeLine_eq]; omega, hs ++ [(u, ps)], ms, by simp [headD], rfl, fun s h => hm s (List.mem_cons_of_mem _ h), ?_, by simp; omega, p5.mono (by simp; omega), c5⟩
      intro h hh'
      rcases List.mem_append.mp hh' with q | q
      · exact hh h q
      · rw [List.mem_singleton.mp q]
        exact ⟨hm u (List.mem_cons_self ..), hps, by dsimp only; omega⟩
end BG

set_option Elab.async false
set_option linter.all false
set_option maxRecDepth 100000
set_option autoImplicit false
namespace BP
open PySem PySem.Spec PyProof.Rows L2 Ev 
def m_blocks_of : MS :=
    (mSeq (mIf (mT (mOp opEq (mOp opIx (mV 0) (mC (.int 0))) (mC (.str "if")))) (mRet (mLst (mCons (mOp opIx (mV 0) (mC (.int 2))) (mCons (mOp opIx (mV 0) (mC (.int 3))) mNil)))) mSkip)
    (mSeq (mIf (mT (mOp opEq (mOp opIx (mV 0) (mC (.int 0))) (mC (.str "while")))) (mRet (mLst (mCons (mOp opIx (mV 0) (mC (.int 2))) mNil))) mSkip)
    (mSeq (mIf (mT (mOp opNe (mOp opIx (mV 0) (mC (.int 0))) (mC (.str "try")))) (mRet (mLst mNil)) mSkip)
    (mSeq (mSet 1 (mNewAdd (mLst (mCons (mOp opIx (mV 0) (mC (.int 1))) mNil)) (mLc [2] (mIter (mOp opIx (mV 0) (mC (.int 2)))) (aName 2) mYes (mOp opIx (mV 2) (mC (.int 2))))))
    (mSeq (mIf (mT (mOp opNe (mOp opIx (mV 0) (mC (.int 3))) (mTup mNil))) (mDrop (mL1 appD (mV 1) (mOp opIx (mV 0) (mC (.int 3))))) mSkip)
    (mSeq (mFrz 1) (mRet (mV 1))))))))
def g_blocks_of : List D → Mem → Res D := body 1 3 (m_blocks_of)
def m_places_within (g_blocks_of : List D → Mem → Res D) (g_places_within : List D → Mem → Res D) : MS :=
    (mSeq (mSet 2 (mNewL mNil))
    (mSeq (mFor (mEnum (mV 0)) (aTup 2 (aCons (aName 3) (aCons (aName 4) aNil))) (mSeq (mSet 5 (mOp opAdd (mV 1) (mTup (mCons (mV 3) mNil))))
    (mSeq (mDrop (mL1 appD (mV 2) (mV 5)))
    (mFor (mEnum (mCall g_blocks_of (mCons (mV 4) mNil))) (aTup 2 (aCons (aName 6) (aCons (aName 7) aNil))) (mDrop (mL1 extD (mV 2) (mCall g_places_within (mCons (mV 7) (mCons (mOp opAdd (mV 5) (mTup (mCons (mV 6) mNil))) mNil)))))))))
    (mRet (mV 2))))
def r_places_within : Nat → List D → Mem → Res D
  | 0 => fun _ _ => .bad
  | n + 1 => body 2 8 (m_places_within g_blocks_of (r_places_within n))
def g_places_within : List D → Mem → Res D := r_places_within 40
def m_places (g_places_within : List D → Mem → Res D) : MS :=
    (mRet (mCall g_places_within (mCons (mOp opIx (mV 0) (mC (.int 2))) (mCons (mTup mNil) mNil))))
def g_places : List D → Mem → Res D := body 1 1 (m_places g_places_within)
end BP

set_option Elab.async false
set_option linter.all false
set_option maxRecDepth 100000
set_option autoImplicit false
/-! BPa: places. -/
namespace BP
open PySem PySem.Spec PyProof.Rows L2 Ev BG
mutual
def plB : Blk → Nat → List Int → List (List Int)
  | .nil, _, _ => []
  | .cons d b, k, ah => (ah ++ [(k : Int)]) :: (plD d (ah ++ [(k : Int)]) ++ plB b (k + 1) ah)
def plD : Deed → List Int → List (List Int)
  | .ifd _ b c, pl => plB b 0 (pl ++ [0]) ++ plB c 0 (pl ++ [1])
  | .whl _ b, pl => plB b 0 (pl ++ [0])
  | .tr b cs l, pl => plB b 0 (pl ++ [0]) ++ (plC cs 1 pl ++ plB l 0 (pl ++ [((1 + cs.many : Nat) : Int)]))
  | _, _ => []
def plC : Cts → Nat → List Int → List (List Int)
  | .nil, _, _ => []
  | .cons _ _ b cs, k, pl => plB b 0 (pl ++ [(k : Int)]) ++ plC cs (k + 1) pl
end
def plI : List Blk → Nat → List Int → List (List Int)
  | [], _, _ => []
  | b :: bs, k, pl => plB b 0 (pl ++ [(k : Int)]) ++ plI bs (k + 1) pl
theorem plI_app : ∀ (as bs : List Blk) (k : Nat) (pl : List Int), plI (as ++ bs) k pl = plI as k pl ++ plI bs (k + as.length) pl
  | [], bs, k, pl => by simp only [List.nil_append, plI, List.length_nil, Nat.add_zero]
  | a :: as, bs, k, pl => by
    simp only [List.cons_append, plI, plI_app as bs (k + 1) pl, List.length_cons, List.append_assoc]
    rw [show k + 1 + as.length = k + (as.length + 1) by omega]
theorem plI_cts : ∀ (cs : Cts) (k : Nat) (pl : List Int), plI (cs.l.map fun p => p.2.2) k pl = plC cs k pl
  | .nil, k, pl => by simp only [Cts.l, List.map_nil, plI, plC]
  | .cons w x b cs, k, pl => by simp only [Cts.l, List.map_cons, plI, plC, plI_cts cs (k + 1) pl]
theorem plD_inn : ∀ (d : Deed) (pl : List Int), plI d.inn 0 pl = plD d pl
  | .ifd _ b c, pl => by simp only [Deed.inn, plI, plD, List.append_nil]; rfl
  | .whl _ b, pl => by simp only [Deed.inn, plI, plD, List.append_nil]; rfl
  | .tr b cs l, pl => by
    simp only [Deed.inn, plI_app, plI, plD, List.append_nil, plI_cts, List.length_append, List.length_map, List.length_cons, List.length_nil, cs.len_many, List.append_assoc]
    simp only [Nat.zero_add]
    rfl
  | .lt _ _, _ | .give _ _, _ | .on _ _, _ | .note _, _ | .close _, _ | .fin _, _ | .ask _ _ _ _, _ | .cast _ _ _ _ _, _ | .leave, _ | .fault _ _, _ => rfl
/-- the blocks of a deed, lasts only if there are some -/
def blks : Deed → List Blk
  | .ifd _ b c => [b, c]
  | .whl _ b => [b]
  | .tr b cs l => [b] ++ cs.l.map (fun p => p.2.2) ++ (match l with | .nil => [] | l => [l])
  | _ => []
theorem plD_blks : ∀ (d : Deed) (pl : List Int), plI (blks d) 0 pl = plD d pl
  | .tr b cs l, pl => by
    rw [← plD_inn]
    cases l with
    | nil => simp only [blks, Deed.inn, plI_app, plI, plB, List.append_nil]
    | cons d l => rfl
  | .ifd _ b c, pl => plD_inn (.ifd _ b c) pl
  | .whl _ b, pl => plD_inn (.whl _ b) pl
  | .lt _ _, _ | .give _ _, _ | .on _ _, _ | .note _, _ | .close _, _ | .fin _, _ | .ask _ _ _ _, _ | .cast _ _ _ _ _, _ | .leave, _ | .fault _ _, _ => rfl
theorem blks_sub (d : Deed) : ∀ b ∈ blks d, b ∈ d.inn := by
  intro x hx
  cases d
  case tr b cs l =>
    cases l with
    | nil =>
      simp only [blks, List.append_nil] at hx
      simp only [Deed.inn]
      exact List.mem_append_left _ hx
    | cons d l => exact hx
  all_goals exact hx
mutual
theorem plB_len : ∀ (b : Blk) (k : Nat) (ah : List Int), (plB b k ah).length = b.cnt
  | .nil, _, _ => rfl
  | .cons d b, k, ah => by
    have h1 := plD_len d (ah ++ [(k : Int)])
    have h2 := plB_len b (k + 1) ah
    simp only [plB, Blk.cnt, List.length_cons, List.length_append]
    omega
theorem plD_len : ∀ (d : Deed) (pl : List Int), (plD d pl).length + 1 = d.cnt
  | .ifd _ b c, pl => by
    have h1 := plB_len b 0 (pl ++ [0])
    have h2 := plB_len c 0 (pl ++ [1])
    simp only [plD, Deed.cnt, List.length_append]
    omega
  | .whl _ b, pl => by
    have h1 := plB_len b 0 (pl ++ [0])
    simp only [plD, Deed.cnt]
    omega
  | .tr b cs l, pl => by
    have h1 := plB_len b 0 (pl ++ [0])
    have h2 := plC_len cs 1 pl
    have h3 := plB_len l 0 (pl ++ [((1 + cs.many : Nat) : Int)])
    simp only [plD, Deed.cnt, List.length_append]
    omega
  | .lt _ _, _ | .give _ _, _ | .on _ _, _ | .note _, _ | .close _, _ | .fin _, _ | .ask _ _ _ _, _ | .cast _ _ _ _ _, _ | .leave, _ | .fault _ _, _ => rfl
theorem plC_len : ∀ (cs : Cts) (k : Nat) (pl : List Int), (plC cs k pl).length = cs.cnt
  | .nil, _, _ => rfl
  | .cons _ _ b cs, k, pl => by
    have h1 := plB_len b 0 (pl ++ [(k : Int)])
    have h2 := plC_len cs (k + 1) pl
    simp only [plC, Cts.cnt, List.length_append]
    omega
end
def pD (p : List Int) : D := .tup (p.map D.int)
/-! the program -/
theorem blocks_ {t : Nat} {m : Mem} (d : Deed) (hd : d.ok = true) (h5 : d.nest ≤ 5) (p : PM t m) : wp (g_blocks_of [d.d] m) (fun v m' => PM t m' ∧ Ch m m' ∧ v = .lst ((blks d).map Blk.t)) noX := by
  have c0 := Ch.refl m
  have hn := p.nx
  refine w_body rfl ?_
  unfold m_blocks_of
  cases d
  case tr b cs l =>
    simp only [Deed.ok, Bool.and_eq_true, decide_eq_true_eq] at hd
    simp only [Deed.d]
    rw [Cts.ds_l]
    (repeat' (first | (with_reducible first | refine w_seq ?_ | refine w_set ?_ | refine w_if ?_ | refine w_skip ?_ | refine v_c ?_ | refine v_op ?_ | refine a_nil ?_ | refine a_cons ?_ | refine v_lst ?_ | refine t_t ?_ | refine i_iter ?_ | refine v_lc ?_ | refine ex_bl ?_ | refine q_es ?_ | refine q_ns ?_ | refine q_itT ?_ | refine v_newAdd ?_) | (with_reducible refine v_vx ?_; refine ex_v rfl ?_) | (with_reducible refine q_ixT ?_; refine ex_o rfl ?_) | (with_reducible refine len_ok (by simp [sizeLine_eq]) ?_) | (with_reducible refine pick_dF (by decide +kernel) ?_) | (with_reducible refine pick_f (by decide +kernel) ?_) | fail))
    refine v_map (f := fun p => p.2.2.t) ?_ ?_ ?_
    · intro p hp
      refine ⟨_, rfl, yes_, ?_⟩
      (repeat' (first | (with_reducible first | refine v_c ?_ | refine v_op ?_) | (with_reducible refine v_vx ?_; refine ex_v rfl ?_) | (with_reducible refine q_ixT ?_; refine ex_o rfl ?_) | fail))
      exact ⟨rfl, rfl⟩
    · rw [Cts.len_many, sizeLine_eq]; omega
    have hl := cs.len_many
    refine ⟨_, _, rfl, rfl, by simp only [List.length_map, hl, List.length_cons, List.length_nil, sizeLine_eq]; omega, ?_⟩
    have p1 := p.addO (.lst ([D.tup b.ds] ++ cs.l.map fun p => p.2.2.t))
    have c1 := c0.addO (.lst ([D.tup b.ds] ++ cs.l.map fun p => p.2.2.t))
    simp only [Deed.nest] at h5
    have hlb : Pl (D.tup l.ds) := (Fac.tup (l.fac hd.1.2)).ple (by omega)
    (repeat' (first | (with_reducible first | refine w_seq ?_ | refine w_if ?_ | refine v_c ?_ | refine v_op ?_ | refine a_nil ?_ | refine v_tup ?_ | refine t_t ?_) | (with_reducible refine v_vx ?_; refine ex_v rfl ?_) | (with_reducible refine q_ixT ?_; refine ex_o rfl ?_) | (with_reducible refine len_ok (by simp [sizeLine_eq]) ?_) | fail))
    refine q_ne hlb ⟨by decide, by decide⟩ ?_
    refine ex_bl ?_
    cases l with
    | nil =>
      refine pick_f rfl (w_skip (w_seq (w_frz rfl (add_ob _ _) ?_)))
      (repeat' (first | (with_reducible first | refine w_ret ?_) | (with_reducible refine v_vx ?_; refine ex_v rfl ?_) | fail))
      refine ⟨p1.killO (by omega), c1.killO (Nat.le_refl _), ?_⟩
      simp only [blks, List.append_nil, List.map_append, List.map_cons, List.map_nil, List.map_map]
      rfl
    | cons d l =>
      refine pick_t (by simp only [Blk.ds, deq, deqs, Bool.not_false]) ?_
      (repeat' (first | (with_reducible first | refine w_drop ?_ | refine v_l1 ?_) | (with_reducible refine v_vx ?_; refine ex_v rfl ?_) | fail))
      refine ⟨isL_ref (add_ob _ _), ?_⟩
      (repeat' (first | (with_reducible first | refine v_c ?_ | refine v_op ?_) | (with_reducible refine v_vx ?_; refine ex_v rfl ?_) | (with_reducible refine q_ixT ?_; refine ex_o rfl ?_) | fail))
      refine v_app (add_ob _ _) (by simp only [List.length_append, List.length_map, hl, List.length_cons, List.length_nil, sizeLine_eq]; omega) ?_
      refine w_seq (w_frz rfl (put_ob _ _ _) ?_)
      (repeat' (first | (with_reducible first | refine w_ret ?_) | (with_reducible refine v_vx ?_; refine ex_v rfl ?_) | fail))
      refine ⟨(p1.putO (by omega) (Nat.lt_succ_self _) _).killO (by omega), (c1.putO (Nat.le_refl _) _).killO (Nat.le_refl _), ?_⟩
      simp only [blks, List.map_append, List.map_cons, List.map_nil, List.map_map]
      rfl
  all_goals
    simp only [Deed.d]
    (repeat' (first | (with_reducible first | refine w_seq ?_ | refine w_if ?_ | refine w_ret ?_ | refine w_skip ?_ | refine v_c ?_ | refine v_op ?_ | refine a_nil ?_ | refine a_cons ?_ | refine v_lst ?_ | refine t_t ?_ | refine ex_bl ?_ | refine q_es ?_ | refine q_ns ?_) | (with_reducible refine v_vx ?_; refine ex_v rfl ?_) | (with_reducible refine q_ixT ?_; refine ex_o rfl ?_) | (with_reducible refine len_ok (by simp [sizeLine_eq]) ?_) | (with_reducible refine pick_dT (by decide +kernel) ?_) | (with_reducible refine pick_dF (by decide +kernel) ?_) | (with_reducible refine pick_t (by decide +kernel) ?_) | fail))
    exact ⟨p, c0, rfl⟩
theorem numb_cons (k : Nat) (d : D) (ds : List D) : numb k (d :: ds) = .tup [.int (k : Int), d] :: numb (k + 1) ds := rfl
theorem pD_app (ah : List Int) (k : Int) : D.tup (ah.map D.int ++ [.int k]) = pD (ah ++ [k]) := by unfold pD; simp
theorem Blk.len_ds (b : Blk) : b.ds.length ≤ b.cnt := by
  rw [b.ds_l, List.length_map]; exact b.len_cnt
theorem within_ : ∀ (n : Nat) (b : Blk) (ah : List Int) (t : Nat) (m : Mem), b.ok = true → b.nest < n → b.nest ≤ 5 → b.cnt ≤ 1000 → ah.length + 10 * n ≤ 1000 → PM t m →
    wp (r_places_within n [b.t, pD ah] m) (fun v m' => PM t m' ∧ Ch m m' ∧ ∃ j, v = .ref j ∧ m.nx ≤ j ∧ m'.ob j = some (.lst ((plB b 0 ah).map pD))) noX
  | 0, b, ah, t, m, _, h, _, _, _, _ => by omega
  | n + 1, b, ah, t, m, hb, hn, h5, hc, hah, p => by
    have ih := within_ n
    have c0 := Ch.refl m
    have hn0 := p.nx
    unfold r_places_within
    refine w_body rfl ?_
    unfold m_places_within Blk.t pD
    (repeat' (first | (with_reducible first | refine w_seq ?_ | refine w_set ?_ | refine w_for ?_ | refine a_nil ?_ | refine v_newL ?_ | refine i_enum ?_ | refine q_enT ?_) | (with_reducible refine v_vx ?_; refine ex_v rfl ?_) | (with_reducible refine len_ok (by simp [sizeLine_eq]) ?_) | fail))
    have tot := plB_len b 0 ah
    refine w_loop (I := fun ds s m1 => ∃ (b2 : Blk) (k : Nat) (fd : List (List Int)) (o3 o4 o5 o6 o7 : Option D), s = [some b.t, some (pD ah), some (.ref m.nx), o3, o4, o5, o6, o7] ∧ ds = numb k b2.ds ∧ fd ++ plB b2 k ah = plB b 0 ah ∧ b2.ok = true ∧ b2.nest ≤ b.nest ∧ b2.cnt ≤ b.cnt ∧ m1.ob m.nx = some (.lst (fd.map pD)) ∧ PM t m1 ∧ Ch m m1) ?_ ?_ ?_
    · exact ⟨b, 0, [], none, none, none, none, none, rfl, rfl, rfl, hb, Nat.le_refl _, Nat.le_refl _, add_ob _ _, p.addO _, c0.addO _⟩
    · rintro s m1 ⟨b2, k, fd, o3, o4, o5, o6, o7, rfl, e, hfd, _, _, _, ho, p1, c1⟩
      cases b2 with
      | cons d b2 => simp only [Blk.ds, numb_cons] at e; cases e
      | nil =>
        simp only [plB, List.append_nil] at hfd
        subst hfd
        (repeat' (first | (with_reducible first | refine w_ret ?_) | (with_reducible refine v_vx ?_; refine ex_v rfl ?_) | fail))
        exact ⟨p1, c1, _, rfl, Nat.le_refl _, ho⟩
    · rintro x xs s m1 ⟨b2, k, fd, o3, o4, o5, o6, o7, rfl, e, hfd, hb2, hn2, hc2, ho, p1, c1⟩
      cases b2 with
      | nil => simp only [Blk.ds, numb] at e; cases e
      | cons d b2 =>
        simp only [Blk.ds, numb_cons] at e
        obtain ⟨rfl, rfl⟩ := List.cons.inj e
        simp only [Blk.ok, Bool.and_eq_true] at hb2
        simp only [Blk.nest] at hn2
        simp only [Blk.cnt] at hc2
        have hlt := ob_lt p1 ho
        simp only [plB] at hfd
        have hfl := congrArg List.length hfd
        rw [tot] at hfl
        simp only [List.length_append, List.length_cons] at hfl
        refine ⟨_, rfl, ?_⟩
        unfold pD
        (repeat' (first | (with_reducible first | refine w_seq ?_ | refine w_set ?_ | refine v_op ?_ | refine a_nil ?_ | refine a_cons ?_ | refine v_tup ?_) | (with_reducible refine v_vx ?_; refine ex_v rfl ?_) | (with_reducible refine len_ok (by simp [sizeLine_eq]) ?_) | fail))
        refine q_addT (by rw [List.length_map, sizeLine_eq]; simp; omega) ?_
        rw [pD_app]
        (repeat' (first | (with_reducible first | refine w_seq ?_ | refine w_drop ?_ | refine v_l1 ?_) | (with_reducible refine v_vx ?_; refine ex_v rfl ?_) | fail))
        refine ⟨isL_ref ho, ?_⟩
        (repeat' (first | (with_reducible refine v_vx ?_; refine ex_v rfl ?_) | fail))
        refine v_app ho (by rw [List.length_map, sizeLine_eq]; omega) ?_
        have p2 := p1.putO (by omega) hlt (.lst (fd.map pD ++ [pD (ah ++ [(k : Int)])]))
        have c2 := c1.putO (Nat.le_refl _) (.lst (fd.map pD ++ [pD (ah ++ [(k : Int)])]))
        (repeat' (first | (with_reducible first | refine w_for ?_ | refine v_call ?_ | refine a_nil ?_ | refine a_cons ?_ | refine i_enum ?_) | (with_reducible refine v_vx ?_; refine ex_v rfl ?_) | fail))
        refine wp_imp (blocks_ d hb2.1 (by omega) p2) ?_
        rintro _ m3 ⟨p3, c3, rfl⟩
        have ho3 : m3.ob m.nx = some (.lst ((fd ++ [ah ++ [(k : Int)]]).map pD)) := by
          rw [(c3.ob _ (by omega) hlt).trans (put_ob _ _ _)]; simp
        have c3 := c2.trans c3
        (repeat' (first | (with_reducible first | refine q_enL ?_) | fail))
        refine w_loop (I := fun ds s m4 => ∃ (bs : List Blk) (k2 : Nat) (f2 : List (List Int)) (o3 o4 o6 o7 : Option D), s = [some b.t, some (pD ah), some (.ref m.nx), o3, o4, some (pD (ah ++ [(k : Int)])), o6, o7] ∧ ds = numb k2 (bs.map Blk.t) ∧
          f2 ++ plI bs k2 (ah ++ [(k : Int)]) = fd ++ [ah ++ [(k : Int)]] ++ plD d (ah ++ [(k : Int)]) ∧ (∀ x ∈ bs, x ∈ d.inn) ∧ m4.ob m.nx = some (.lst (f2.map pD)) ∧ PM t m4 ∧ Ch m m4) ?_ ?_ ?_
        · exact ⟨blks d, 0, fd ++ [ah ++ [(k : Int)]], _, _, _, _, rfl, rfl, by rw [plD_blks], blks_sub d, ho3, p3, c3⟩
        · rintro s m4 ⟨bs, k2, f2, o3, o4, o6, o7, rfl, e, hf2, _, ho4, p4, c4⟩
          cases bs with
          | cons x bs => simp only [List.map_cons, numb_cons] at e; cases e
          | nil =>
            simp only [plI, List.append_nil] at hf2
            subst hf2
            exact ⟨b2, k + 1, _, _, _, _, _, _, rfl, rfl, by rw [← hfd]; simp, hb2.2, by omega, by omega, ho4, p4, c4⟩
        · rintro x xs s m4 ⟨bs, k2, f2, o3, o4, o6, o7, rfl, e, hf2, hbs, ho4, p4, c4⟩
          cases bs with
          | nil => simp only [List.map_nil, numb] at e; cases e
          | cons x bs =>
            simp only [List.map_cons, numb_cons] at e
            obtain ⟨rfl, rfl⟩ := List.cons.inj e
            have hx := hbs x (List.mem_cons_self ..)
            have hxn := d.inn_nest x hx
            have hxc : x.cnt ≤ (d.inn.map Blk.cnt).sum := mem_sum Blk.cnt _ _ hx
            have hdc := d.inn_cnt
            have hlt4 := ob_lt p4 ho4
            have hf2l := congrArg List.length hf2
            have hpd := plD_len d (ah ++ [(k : Int)])
            simp only [plI, List.length_append, List.length_cons, List.length_nil] at hf2l
            have hxl := plB_len x 0 (ah ++ [(k : Int)] ++ [(k2 : Int)])
            refine ⟨_, rfl, ?_⟩
            unfold pD
            (repeat' (first | (with_reducible first | refine w_drop ?_ | refine v_l1 ?_) | (with_reducible refine v_vx ?_; refine ex_v rfl ?_) | fail))
            refine ⟨isL_ref ho4, ?_⟩
            (repeat' (first | (with_reducible first | refine v_op ?_ | refine v_call ?_ | refine a_nil ?_ | refine a_cons ?_ | refine v_tup ?_) | (with_reducible refine v_vx ?_; refine ex_v rfl ?_) | (with_reducible refine len_ok (by simp [sizeLine_eq]) ?_) | fail))
            refine q_addT (by simp only [List.length_map, List.length_append, List.length_cons, List.length_nil, sizeLine_eq]; omega) ?_
            rw [pD_app]
            (repeat' (first | (with_reducible first | refine a_nil ?_) | fail))
            refine wp_imp (ih x (ah ++ [(k : Int)] ++ [(k2 : Int)]) t m4 (d.ok_inn hb2.1 x hx) (by omega) (by omega) (by omega) (by simp only [List.length_append, List.length_cons, List.length_nil]; omega) p4) ?_
            rintro _ m5 ⟨p5, c5, j, rfl, hj, ho5⟩
            have ho45 : m5.ob m.nx = some (.lst (f2.map pD)) := (c5.ob _ (by omega) hlt4).trans ho4
            refine v_ext ho45 (view_lstR ho5) (by simp only [List.length_map, hxl, sizeLine_eq]; omega) ?_
            refine ⟨bs, k2 + 1, f2 ++ plB x 0 (ah ++ [(k : Int)] ++ [(k2 : Int)]), _, _, _, _, rfl, rfl, ?_, fun y hy => hbs y (List.mem_cons_of_mem _ hy), ?_, p5.putO (by omega) (ob_lt p5 ho45) _, (c4.trans c5).putO (Nat.le_refl _) _⟩
            · rw [← hf2]
              simp only [plI, List.append_assoc]
            · rw [put_ob, List.map_append]; rfl
theorem places_ (r : Rule) (hr : r.Ok) {t : Nat} {m : Mem} (p : PM t m) : wp (g_places [r.d] m) (fun v m' => PM t m' ∧ Ch m m' ∧ ∃ j, v = .ref j ∧ m.nx ≤ j ∧ m'.ob j = some (.lst ((plB r.b 0 []).map pD))) noX := by
  refine w_body rfl ?_
  unfold m_places Rule.d
  (repeat' (first | (with_reducible first | refine w_ret ?_ | refine v_c ?_ | refine v_op ?_ | refine v_call ?_ | refine a_nil ?_ | refine a_cons ?_ | refine v_tup ?_) | (with_reducible refine v_vx ?_; refine ex_v rfl ?_) | (with_reducible refine q_ixT ?_; refine ex_o rfl ?_) | (with_reducible refine len_ok (by simp [sizeLine_eq]) ?_) | fail))
  exact within_ 40 r.b [] t m hr.b (by have := hr.n4; omega) (by have := hr.n4; omega) (by have := hr.c30; omega) (by decide) p
/-! the places grow -/
theorem lex_self : ∀ (a : List Int) (x : Int) (r : List Int), HT.lexLt a (a ++ x :: r) = true
  | [], _, _ => rfl
  | y :: a, x, r => by
    show (if y = y then HT.lexLt a (a ++ x :: r) else _) = true
    rw [if_pos rfl]; exact lex_self a x r
theorem lex_pre : ∀ (a : List Int) (x y : Int) (r s : List Int), x < y → HT.lexLt (a ++ x :: r) (a ++ y :: s) = true
  | [], x, y, r, s, h => by
    show (if x = y then _ else decide (x < y)) = true
    rw [if_neg (by omega), decide_eq_true h]
  | z :: a, x, y, r, s, h => by
    show (if z = z then HT.lexLt (a ++ x :: r) (a ++ y :: s) else _) = true
    rw [if_pos rfl]; exact lex_pre a x y r s h
/-- all begin with ah and a number from k on -/
def From (ah : List Int) (k : Nat) (l : List (List Int)) : Prop := ∀ p ∈ l, ∃ (j : Int) (r : List Int), p = ah ++ j :: r ∧ (k : Int) ≤ j
theorem From.app {ah : List Int} {k : Nat} {l l' : List (List Int)} (h : From ah k l) (h' : From ah k l') : From ah k (l ++ l') := fun p hp => (List.mem_append.mp hp).elim (h p) (h' p)
theorem From.mono {ah : List Int} {k k' : Nat} {l : List (List Int)} (h : From ah k l) (hk : k' ≤ k) : From ah k' l := fun p hp => by
  obtain ⟨j, r, e, hj⟩ := h p hp
  exact ⟨j, r, e, by omega⟩
theorem From.down {ah : List Int} {k : Nat} {l : List (List Int)} (h : From (ah ++ [(k : Int)]) 0 l) : From ah k l := fun p hp => by
  obtain ⟨j, r, e, hj⟩ := h p hp
  exact ⟨k, j :: r, by rw [e]; simp, Int.le_refl _⟩
mutual
theorem plB_from : ∀ (b : Blk) (k : Nat) (ah : List Int), From ah k (plB b k ah)
  | .nil, _, _ => fun p hp => by simp only [plB, List.not_mem_nil] at hp
  | .cons d b, k, ah => by
    simp only [plB]
    intro p hp
    rcases List.mem_cons.mp hp with rfl | hp
    · exact ⟨k, [], rfl, Int.le_refl _⟩
    · exact ((plD_from d (ah ++ [(k : Int)])).down.app ((plB_from b (k + 1) ah).mono (Nat.le_succ _))) p hp
theorem plD_from : ∀ (d : Deed) (pl : List Int), From pl 0 (plD d pl)
  | .ifd _ b c, pl => by
    simp only [plD]
    have h1 : From pl 0 (plB b 0 (pl ++ [0])) := From.down (k := 0) (plB_from b 0 (pl ++ [((0 : Nat) : Int)]))
    have h2 : From pl 1 (plB c 0 (pl ++ [1])) := From.down (k := 1) (plB_from c 0 (pl ++ [((1 : Nat) : Int)]))
    exact h1.app (h2.mono (Nat.zero_le _))
  | .whl _ b, pl => by
    simp only [plD]
    exact From.down (k := 0) (plB_from b 0 (pl ++ [((0 : Nat) : Int)]))
  | .tr b cs l, pl => by
    simp only [plD]
    have h1 : From pl 0 (plB b 0 (pl ++ [0])) := From.down (k := 0) (plB_from b 0 (pl ++ [((0 : Nat) : Int)]))
    have h3 : From pl (1 + cs.many) (plB l 0 (pl ++ [((1 + cs.many : Nat) : Int)])) := From.down (plB_from l 0 _)
    exact h1.app (((plC_from cs 1 pl).1.mono (Nat.zero_le _)).app (h3.mono (Nat.zero_le _)))
  | .lt _ _, _ | .give _ _, _ | .on _ _, _ | .note _, _ | .close _, _ | .fin _, _ | .ask _ _ _ _, _ | .cast _ _ _ _ _, _ | .leave, _ | .fault _ _, _ => fun p hp => by simp only [plD, List.not_mem_nil] at hp
theorem plC_from : ∀ (cs : Cts) (k : Nat) (pl : List Int), From pl k (plC cs k pl) ∧ ∀ p ∈ plC cs k pl, ∃ (j : Int) (r : List Int), p = pl ++ j :: r ∧ j < ((k + cs.many : Nat) : Int)
  | .nil, _, _ => ⟨fun p hp => by simp only [plC, List.not_mem_nil] at hp, fun p hp => by simp only [plC, List.not_mem_nil] at hp⟩
  | .cons _ _ b cs, k, pl => by
    have h1 := plB_from b 0 (pl ++ [(k : Int)])
    obtain ⟨h2, h3⟩ := plC_from cs (k + 1) pl
    simp only [plC]
    refine ⟨h1.down.app (h2.mono (Nat.le_succ _)), fun p hp => ?_⟩
    rcases List.mem_append.mp hp with q | q
    · obtain ⟨j, r, e, hj⟩ := h1 p q
      exact ⟨k, j :: r, by rw [e]; simp, by simp only [Cts.many]; omega⟩
    · obtain ⟨j, r, e, hj⟩ := h3 p q
      exact ⟨j, r, e, by simp only [Cts.many]; omega⟩
end
abbrev Inc (l : List (List Int)) : Prop := l.Pairwise fun p q => HT.lexLt p q = true
theorem inc_app {ah : List Int} {k : Nat} {l l' : List (List Int)} (h : Inc l) (h' : Inc l') (hl : ∀ p ∈ l, ∃ (j : Int) (r : List Int), p = ah ++ j :: r ∧ j < (k : Int)) (hl' : From ah k l') : Inc (l ++ l') := by
  rw [Inc, List.pairwise_append]
  refine ⟨h, h', fun p hp q hq => ?_⟩
  obtain ⟨j, r, rfl, hj⟩ := hl p hp
  obtain ⟨i, s, rfl, hi⟩ := hl' q hq
  exact lex_pre ah j i r s (by omega)
theorem from_lt {ah : List Int} {k : Nat} {l : List (List Int)} (h : From (ah ++ [(k : Int)]) 0 l) {k' : Nat} (hk : k < k') : ∀ p ∈ l, ∃ (j : Int) (r : List Int), p = ah ++ j :: r ∧ j < (k' : Int) := fun p hp => by
  obtain ⟨j, r, e, hj⟩ := h p hp
  exact ⟨k, j :: r, by rw [e]; simp, by omega⟩
mutual
theorem plB_inc : ∀ (b : Blk) (k : Nat) (ah : List Int), Inc (plB b k ah)
  | .nil, _, _ => List.Pairwise.nil
  | .cons d b, k, ah => by
    simp only [plB]
    have hd := plD_from d (ah ++ [(k : Int)])
    have hb := plB_from b (k + 1) ah
    refine List.Pairwise.cons (fun p hp => ?_) (inc_app (k := k + 1) (plD_inc d _) (plB_inc b (k + 1) ah) (from_lt hd (Nat.lt_succ_self _)) hb)
    rcases List.mem_append.mp hp with q | q
    · obtain ⟨j, r, rfl, _⟩ := hd p q
      exact lex_self _ _ _
    · obtain ⟨j, r, rfl, hj⟩ := hb p q
      exact lex_pre ah k j [] r (by omega)
theorem plD_inc : ∀ (d : Deed) (pl : List Int), Inc (plD d pl)
  | .ifd _ b c, pl => by
    simp only [plD]
    exact inc_app (ah := pl) (k := 1) (plB_inc b 0 _) (plB_inc c 0 _) (from_lt (k := 0) (plB_from b 0 (pl ++ [((0 : Nat) : Int)])) (by decide)) (From.down (k := 1) (plB_from c 0 (pl ++ [((1 : Nat) : Int)])))
  | .whl _ b, pl => by
    simp only [plD]
    exact plB_inc b 0 _
  | .tr b cs l, pl => by
    simp only [plD]
    have h3 : From pl (1 + cs.many) (plB l 0 (pl ++ [((1 + cs.many : Nat) : Int)])) := From.down (plB_from l 0 _)
    obtain ⟨h4, h5⟩ := plC_from cs 1 pl
    exact inc_app (ah := pl) (k := 1) (plB_inc b 0 _) (inc_app (ah := pl) (plC_inc cs 1 pl) (plB_inc l 0 _) h5 h3) (from_lt (k := 0) (plB_from b 0 (pl ++ [((0 : Nat) : Int)])) (by decide)) (h4.app (h3.mono (by omega)))
  | .lt _ _, _ | .give _ _, _ | .on _ _, _ | .note _, _ | .close _, _ | .fin _, _ | .ask _ _ _ _, _ | .cast _ _ _ _ _, _ | .leave, _ | .fault _ _, _ => List.Pairwise.nil
theorem plC_inc : ∀ (cs : Cts) (k : Nat) (pl : List Int), Inc (plC cs k pl)
  | .nil, _, _ => List.Pairwise.nil
  | .cons _ _ b cs, k, pl => by
    simp only [plC]
    exact inc_app (ah := pl) (k := k + 1) (plB_inc b 0 _) (plC_inc cs (k + 1) pl) (from_lt (plB_from b 0 _) (Nat.lt_succ_self _)) (plC_from cs (k + 1) pl).1
end
end BP

set_option Elab.async false
set_option linter.all false
set_option maxRecDepth 100000
set_option autoImplicit false
/-! BPb: places as values. -/
namespace BP
open PySem PySem.Spec PyProof.Rows L2 Ev BG
/-- short, of small numbers -/
structure Sm (l : Nat) (p : List Int) : Prop where
  len : p.length ≤ l
  i : ∀ x ∈ p, 0 ≤ x ∧ x ≤ 2000
theorem Sm.snoc {l : Nat} {p : List Int} (h : Sm l p) {k : Int} (h0 : 0 ≤ k) (h1 : k ≤ 2000) : Sm (l + 1) (p ++ [k]) :=
  ⟨by have := h.len; simp only [List.length_append, List.length_cons, List.length_nil]; omega, fun x hx => by
    rcases List.mem_append.mp hx with q | q
    · exact h.i x q
    · rw [List.mem_singleton.mp q]; exact ⟨h0, h1⟩⟩
theorem Sm.mono {l l' : Nat} {p : List Int} (h : Sm l p) (hl : l ≤ l') : Sm l' p := ⟨Nat.le_trans h.len hl, h.i⟩
mutual
theorem plB_sm : ∀ (b : Blk) (k l : Nat) (ah : List Int), Sm l ah → k + b.cnt ≤ 2000 → b.ok = true → ∀ p ∈ plB b k ah, Sm (l + 2 * b.nest + 1) p
  | .nil, _, _, _, _, _, _, p, hp => by simp only [plB, List.not_mem_nil] at hp
  | .cons d b, k, l, ah, h, hk, hok, p, hp => by
    have hd := d.cnt_pos
    simp only [Blk.cnt] at hk
    simp only [Blk.ok, Bool.and_eq_true] at hok
    have h1 : Sm (l + 1) (ah ++ [(k : Int)]) := h.snoc (by omega) (by omega)
    simp only [plB] at hp
    simp only [Blk.nest]
    rcases List.mem_cons.mp hp with rfl | hp
    · exact h1.mono (by omega)
    · rcases List.mem_append.mp hp with q | q
      · exact (plD_sm d (l + 1) _ h1 (by omega) hok.1 p q).mono (by omega)
      · exact (plB_sm b (k + 1) l ah h (by omega) hok.2 p q).mono (by omega)
theorem plD_sm : ∀ (d : Deed) (l : Nat) (pl : List Int), Sm l pl → d.cnt ≤ 2000 → d.ok = true → ∀ p ∈ plD d pl, Sm (l + 2 * d.nest) p
  | .ifd _ b c, l, pl, h, hc, hok, p, hp => by
    simp only [Deed.cnt] at hc
    simp only [Deed.ok, Bool.and_eq_true] at hok
    simp only [plD] at hp
    simp only [Deed.nest]
    rcases List.mem_append.mp hp with q | q
    · exact (plB_sm b 0 (l + 1) _ (h.snoc (by decide) (by decide)) (by omega) hok.1.2 p q).mono (by omega)
    · exact (plB_sm c 0 (l + 1) _ (h.snoc (by decide) (by decide)) (by omega) hok.2 p q).mono (by omega)
  | .whl _ b, l, pl, h, hc, hok, p, hp => by
    simp only [Deed.cnt] at hc
    simp only [Deed.ok, Bool.and_eq_true] at hok
    simp only [plD] at hp
    simp only [Deed.nest]
    exact (plB_sm b 0 (l + 1) _ (h.snoc (by decide) (by decide)) (by omega) hok.2 p hp).mono (by omega)
  | .tr b cs lb, l, pl, h, hc, hok, p, hp => by
    simp only [Deed.cnt] at hc
    simp only [Deed.ok, Bool.and_eq_true, decide_eq_true_eq] at hok
    simp only [plD] at hp
    simp only [Deed.nest]
    rcases List.mem_append.mp hp with q | q
    · exact (plB_sm b 0 (l + 1) _ (h.snoc (by decide) (by decide)) (by omega) hok.1.1.1 p q).mono (by omega)
    · rcases List.mem_append.mp q with q | q
      · exact (plC_sm cs 1 l pl h (by omega) (by omega) hok.1.1.2 p q).mono (by omega)
      · exact (plB_sm lb 0 (l + 1) _ (h.snoc (by omega) (by omega)) (by omega) hok.1.2 p q).mono (by omega)
  | .lt _ _, _, _, _, _, _, p, hp | .give _ _, _, _, _, _, _, p, hp | .on _ _, _, _, _, _, _, p, hp | .note _, _, _, _, _, _, p, hp | .close _, _, _, _, _, _, p, hp | .fin _, _, _, _, _, _, p, hp | .ask _ _ _ _, _, _, _, _, _, p, hp | .cast _ _ _ _ _, _, _, _, _, _, p, hp | .leave, _, _, _, _, _, p, hp | .fault _ _, _, _, _, _, _, p, hp => by simp only [plD, List.not_mem_nil] at hp
theorem plC_sm : ∀ (cs : Cts) (k l : Nat) (pl : List Int), Sm l pl → cs.cnt ≤ 2000 → k + cs.many ≤ 100 → cs.ok = true → ∀ p ∈ plC cs k pl, Sm (l + 2 * cs.nest + 2) p
  | .nil, _, _, _, _, _, _, _, p, hp => by simp only [plC, List.not_mem_nil] at hp
  | .cons _ _ b cs, k, l, pl, h, hc, hk, hok, p, hp => by
    simp only [Cts.cnt] at hc
    simp only [Cts.many] at hk
    simp only [Cts.ok, Bool.and_eq_true] at hok
    simp only [plC] at hp
    simp only [Cts.nest]
    rcases List.mem_append.mp hp with q | q
    · exact (plB_sm b 0 (l + 1) _ (h.snoc (by omega) (by omega)) (by omega) hok.1.2 p q).mono (by omega)
    · exact (plC_sm cs (k + 1) l pl h (by omega) (by omega) hok.2 p q).mono (by omega)
end
theorem ints_fac {l : Nat} : ∀ {p : List Int}, (∀ x ∈ p, 0 ≤ x ∧ x ≤ 2000) → FacL (p.map D.int) 0 (154 * p.length)
  | [], _ => FacL.nil
  | x :: p, h => by
    have hx := h x (List.mem_cons_self ..)
    rw [List.map_cons]
    exact FacL.cons' (fac_int (by omega)) (ints_fac (l := l) fun y hy => h y (List.mem_cons_of_mem _ hy)) (by rw [List.length_cons]; omega)
theorem pD_fac {l : Nat} {p : List Int} (h : Sm l p) : Fac (pD p) 1 (154 * l + 3) := by
  have := h.len
  exact (Fac.tup (ints_fac (l := l) h.i)).mono (Nat.le_refl _) (by omega)
theorem pDs_fac {l : Nat} : ∀ {ps : List (List Int)}, (∀ p ∈ ps, Sm l p) → FacL (ps.map pD) 1 ((154 * l + 5) * ps.length)
  | [], _ => FacL.nil.mono (Nat.zero_le _) (Nat.zero_le _)
  | x :: p, h => by
    rw [List.map_cons]
    refine FacL.cons' (pD_fac (h x (List.mem_cons_self ..))) (pDs_fac fun y hy => h y (List.mem_cons_of_mem _ hy)) ?_
    rw [List.length_cons, Nat.mul_add]
    omega
theorem rule_sm {r : Rule} (h : r.Ok) : ∀ p ∈ plB r.b 0 [], Sm 9 p := fun p hp => by
  have := h.c30
  have := h.n4
  exact (plB_sm r.b 0 0 [] ⟨Nat.le_refl _, fun x hx => by cases hx⟩ (by omega) h.b p hp).mono (by omega)
theorem rule_pl {r : Rule} (h : r.Ok) : Sh (.lst ((plB r.b 0 []).map pD)) := by
  have h1 := Fac.lst (pDs_fac (rule_sm h))
  have h2 := plB_len r.b 0 []
  have := h.c30
  exact h1.sh (by decide) (by rw [h2]; omega)
/-- the book's deeds at most -/
theorem deeds_ {m : Mem} {Q : D → Mem → Prop} {XX : XQ} {c : Bool} (k : ∀ n : Int, (n = 8 ∨ n = 30) → Q (.int n) m) : wp (Res.of (opIx (.lst [.int 8, .int 30]) (.int (if c = true then 1 else 0)) m) m) Q XX := by
  cases c
  · exact q_ixL (ex_o rfl (k 8 (.inl rfl)))
  · exact q_ixL (ex_o rfl (k 30 (.inr rfl)))
theorem i_rng2 {i j : Int} {m : Mem} {QA : List D → Mem → Prop} {XX : XQ} (h0 : 0 ≤ i) (h1 : i < 2 ^ 40) (h2 : 0 ≤ j) (h3 : j < 2 ^ 40) (h : QA (upto i (j - i).toNat) m) : wp (Res.of (rng2 [.int i, .int j]) m) QA XX := by
  refine wp_of (a := upto i (j - i).toNat) ?_ h
  show (if small i = true ∧ small j = true then _ else none) = _
  have hs : ∀ k : Int, 0 ≤ k → k < 2 ^ 40 → small k = true := fun k a b => by
    unfold small
    rw [Bool.and_eq_true, decide_eq_true_eq, decide_eq_true_eq]
    omega
  rw [if_pos ⟨hs i h0 h1, hs j h2 h3⟩]
end BP

set_option Elab.async false
set_option linter.all false
set_option maxRecDepth 100000
set_option autoImplicit false
namespace BQ
open PySem PySem.Spec PyProof.Rows L2 Ev BG BP
def c_OUT : D := .tup [.str "out"]
def m_block_at (g_blocks_of : List D → Mem → Res D) : MS :=
    (mSeq (mSet 2 (mOp opIx (mV 0) (mC (.int 2))))
    (mSeq (mFor (mRange rng3 (mCons (mC (.int 0)) (mCons (mCB opLen (mCons (mV 1) mNil)) (mCons (mC (.int 2)) mNil)))) (aName 3) (mSet 2 (mOp opIx (mCall g_blocks_of (mCons (mOp opIx (mV 2) (mOp opIx (mV 1) (mV 3))) mNil)) (mOp opIx (mV 1) (mOp opAdd (mV 3) (mC (.int 1)))))))
    (mRet (mV 2))))
def g_block_at : List D → Mem → Res D := body 2 4 (m_block_at g_blocks_of)
def m_deed_at (g_block_at : List D → Mem → Res D) : MS :=
    (mRet (mOp opIx (mCall g_block_at (mCons (mV 0) (mCons (mSl (mV 1) mPartN (mPart (mO1 opNeg (mC (.int 1))))) mNil))) (mOp opIx (mV 1) (mO1 opNeg (mC (.int 1))))))
def g_deed_at : List D → Mem → Res D := body 2 2 (m_deed_at g_block_at)
def m_around : MS :=
    (mSeq (mSet 1 (mNewL mNil))
    (mSeq (mWhile fuelW (mT (mOp opGt (mCB opLen (mCons (mV 0) mNil)) (mC (.int 1)))) (mSeq (mDrop (mL1 appD (mV 1) (mTup (mCons (mSl (mV 0) mPartN (mPart (mO1 opNeg (mC (.int 2))))) (mCons (mOp opIx (mV 0) (mO1 opNeg (mC (.int 2)))) mNil)))))
    (mSet 0 (mSl (mV 0) mPartN (mPart (mO1 opNeg (mC (.int 2))))))))
    (mSeq (mFrz 1) (mRet (mV 1)))))
def g_around : List D → Mem → Res D := body 1 2 (m_around)
def m_catch_number : MS :=
    (mSeq (mFor (mEnum (mOp opIx (mV 0) (mC (.int 2)))) (aTup 2 (aCons (aName 2) (aCons (aName 3) aNil))) (mIf (mT (mOp opIn (mOp opIx (mV 3) (mC (.int 0))) (mTup (mCons (mV 1) (mCons (mC (.str "any")) mNil))))) (mRet (mV 2)) mSkip))
    (mRet (mC .non)))
def g_catch_number : List D → Mem → Res D := body 2 4 (m_catch_number)
def m_has_lasts : MS :=
    (mRet (mAndV (mOp opEq (mOp opIx (mV 0) (mC (.int 0))) (mC (.str "try"))) (mOp opNe (mOp opIx (mV 0) (mC (.int 3))) (mTup mNil))))
def g_has_lasts : List D → Mem → Res D := body 1 1 (m_has_lasts)
def m_lasts_number : MS :=
    (mRet (mOp opAdd (mC (.int 1)) (mCB opLen (mCons (mOp opIx (mV 0) (mC (.int 2))) mNil))))
def g_lasts_number : List D → Mem → Res D := body 1 1 (m_lasts_number)
def m_is_before_lasts (g_has_lasts : List D → Mem → Res D) (g_lasts_number : List D → Mem → Res D) : MS :=
    (mRet (mAndV (mCall g_has_lasts (mCons (mV 0) mNil)) (mOp opLt (mV 1) (mCall g_lasts_number (mCons (mV 0) mNil)))))
def g_is_before_lasts : List D → Mem → Res D := body 2 2 (m_is_before_lasts g_has_lasts g_lasts_number)
def m_fault_goes (g_around : List D → Mem → Res D) (g_deed_at : List D → Mem → Res D) (g_catch_number : List D → Mem → Res D) (g_is_before_lasts : List D → Mem → Res D) : MS :=
    (mSeq (mFor (mIter (mCall g_around (mCons (mV 1) mNil))) (aTup 2 (aCons (aName 3) (aCons (aName 4) aNil))) (mSeq (mSet 5 (mCall g_deed_at (mCons (mV 0) (mCons (mV 3) mNil))))
    (mSeq (mIf (mAnd (mT (mOp opEq (mOp opIx (mV 5) (mC (.int 0))) (mC (.str "try")))) (mT (mOp opEq (mV 4) (mC (.int 0))))) (mSeq (mSet 6 (mCall g_catch_number (mCons (mV 5) (mCons (mV 2) mNil))))
    (mIf (mT (mNotN (mV 6))) (mRet (mTup (mCons (mC (.str "catch")) (mCons (mV 3) (mCons (mV 6) mNil))))) mSkip)) mSkip)
    (mIf (mT (mCall g_is_before_lasts (mCons (mV 5) (mCons (mV 4) mNil)))) (mRet (mTup (mCons (mC (.str "last")) (mCons (mV 3) mNil)))) mSkip))))
    (mRet (mC c_OUT)))
def g_fault_goes : List D → Mem → Res D := body 3 7 (m_fault_goes g_around g_deed_at g_catch_number g_is_before_lasts)
def m_end_goes (g_around : List D → Mem → Res D) (g_is_before_lasts : List D → Mem → Res D) (g_deed_at : List D → Mem → Res D) : MS :=
    (mSeq (mFor (mIter (mCall g_around (mCons (mV 1) mNil))) (aTup 2 (aCons (aName 2) (aCons (aName 3) aNil))) (mIf (mT (mCall g_is_before_lasts (mCons (mCall g_deed_at (mCons (mV 0) (mCons (mV 2) mNil))) (mCons (mV 3) mNil)))) (mRet (mTup (mCons (mC (.str "last")) (mCons (mV 2) mNil)))) mSkip))
    (mRet (mC c_OUT)))
def g_end_goes : List D → Mem → Res D := body 2 4 (m_end_goes g_around g_is_before_lasts g_deed_at)
def m_leave_goes (g_around : List D → Mem → Res D) (g_deed_at : List D → Mem → Res D) (g_is_before_lasts : List D → Mem → Res D) : MS :=
    (mSeq (mFor (mIter (mCall g_around (mCons (mV 1) mNil))) (aTup 2 (aCons (aName 2) (aCons (aName 3) aNil))) (mSeq (mSet 4 (mCall g_deed_at (mCons (mV 0) (mCons (mV 2) mNil))))
    (mSeq (mIf (mT (mOp opEq (mOp opIx (mV 4) (mC (.int 0))) (mC (.str "while")))) (mRet (mTup (mCons (mC (.str "behind")) (mCons (mV 2) mNil)))) mSkip)
    (mIf (mT (mCall g_is_before_lasts (mCons (mV 4) (mCons (mV 3) mNil)))) (mRet (mTup (mCons (mC (.str "last")) (mCons (mV 2) mNil)))) mSkip))))
    (mRet (mC c_OUT)))
def g_leave_goes : List D → Mem → Res D := body 2 5 (m_leave_goes g_around g_deed_at g_is_before_lasts)
def m_behind_block (g_deed_at : List D → Mem → Res D) (g_is_before_lasts : List D → Mem → Res D) (g_has_lasts : List D → Mem → Res D) : MS :=
    (mSeq (mSet 3 (mCall g_deed_at (mCons (mV 0) (mCons (mV 1) mNil))))
    (mSeq (mIf (mT (mOp opEq (mOp opIx (mV 3) (mC (.int 0))) (mC (.str "while")))) (mRet (mTup (mCons (mC (.str "test")) (mCons (mV 1) mNil)))) mSkip)
    (mSeq (mIf (mT (mCall g_is_before_lasts (mCons (mV 3) (mCons (mV 2) mNil)))) (mRet (mTup (mCons (mC (.str "last")) (mCons (mV 1) mNil)))) mSkip)
    (mSeq (mIf (mT (mCall g_has_lasts (mCons (mV 3) mNil))) (mRet (mTup (mCons (mC (.str "resume")) (mCons (mV 1) mNil)))) mSkip)
    (mRet (mC .non))))))
def g_behind_block : List D → Mem → Res D := body 3 4 (m_behind_block g_deed_at g_is_before_lasts g_has_lasts)
def m_behind (g_block_at : List D → Mem → Res D) (g_behind_block : List D → Mem → Res D) : MS :=
    (mWhile fuelW (mT (mC (.bl true))) (mSeq (mIf (mT (mOp opLt (mOp opAdd (mOp opIx (mV 1) (mO1 opNeg (mC (.int 1)))) (mC (.int 1))) (mCB opLen (mCons (mCall g_block_at (mCons (mV 0) (mCons (mSl (mV 1) mPartN (mPart (mO1 opNeg (mC (.int 1))))) mNil))) mNil)))) (mRet (mTup (mCons (mC (.str "deed")) (mCons (mOp opAdd (mSl (mV 1) mPartN (mPart (mO1 opNeg (mC (.int 1))))) (mTup (mCons (mOp opAdd (mOp opIx (mV 1) (mO1 opNeg (mC (.int 1)))) (mC (.int 1))) mNil))) mNil)))) mSkip)
    (mSeq (mIf (mT (mOp opEq (mCB opLen (mCons (mV 1) mNil)) (mC (.int 1)))) (mRet (mTup (mCons (mC (.str "end")) mNil))) mSkip)
    (mSeq (mSet 2 (mCall g_behind_block (mCons (mV 0) (mCons (mSl (mV 1) mPartN (mPart (mO1 opNeg (mC (.int 2))))) (mCons (mOp opIx (mV 1) (mO1 opNeg (mC (.int 2)))) mNil)))))
    (mSeq (mIf (mT (mNotN (mV 2))) (mRet (mV 2)) mSkip)
    (mSet 1 (mSl (mV 1) mPartN (mPart (mO1 opNeg (mC (.int 2)))))))))))
def g_behind : List D → Mem → Res D := body 2 3 (m_behind g_block_at g_behind_block)
end BQ

set_option Elab.async false
set_option linter.all false
set_option maxRecDepth 100000
set_option autoImplicit false
/-! BQa: deeds at places. -/
namespace BQ
open PySem PySem.Spec PyProof.Rows L2 Ev BG BP
/-- a way through blocks -/
inductive Nav : Blk → List Int → Blk → Prop
  | nil (b : Blk) : Nav b [] b
  | step {b c e : Blk} {d : Deed} {k i : Nat} {r : List Int} : b.l[k]? = some d → (blks d)[i]? = some c → Nav c r e → Nav b ((k : Int) :: (i : Int) :: r) e
theorem Nav.even : ∀ {b e : Blk} {p : List Int}, Nav b p e → ∃ h, p.length = 2 * h
  | _, _, _, .nil _ => ⟨0, rfl⟩
  | _, _, _, .step _ _ n => by
    obtain ⟨h, e⟩ := n.even
    exact ⟨h + 1, by simp only [List.length_cons, e]; omega⟩
theorem blk_get {b : Blk} {k : Nat} {d : Deed} (hb : b.ok = true) (h : b.l[k]? = some d) : d.ok = true ∧ d.nest ≤ b.nest := by
  have hm := List.mem_of_getElem? h
  exact ⟨b.ok_l hb d hm, b.nest_l d hm⟩
theorem blks_get {d : Deed} {i : Nat} {c : Blk} (hd : d.ok = true) (h : (blks d)[i]? = some c) : c.ok = true ∧ c.nest < d.nest := by
  have hm := blks_sub d c (List.mem_of_getElem? h)
  exact ⟨d.ok_inn hd c hm, d.inn_nest c hm⟩
theorem Nav.ok : ∀ {b e : Blk} {p : List Int}, Nav b p e → b.ok = true → e.ok = true ∧ e.nest ≤ b.nest
  | _, _, _, .nil _, h => ⟨h, Nat.le_refl _⟩
  | _, _, _, .step h1 h2 n, h => by
    obtain ⟨a1, a2⟩ := blk_get h h1
    obtain ⟨b1, b2⟩ := blks_get a1 h2
    obtain ⟨c1, c2⟩ := n.ok b1
    exact ⟨c1, by omega⟩
theorem Nav.snoc : ∀ {b c e : Blk} {p : List Int} {d : Deed} {k i : Nat}, Nav b p c → c.l[k]? = some d → (blks d)[i]? = some e → Nav b (p ++ [(k : Int), (i : Int)]) e
  | _, _, _, _, _, _, _, .nil _, h1, h2 => .step h1 h2 (.nil _)
  | _, _, _, _, _, _, _, .step a b n, h1, h2 => .step a b (n.snoc h1 h2)
theorem mem_l {b : Blk} {k : Nat} {d : Deed} (h : b.l[k]? = some d) : b.ds[k]? = some d.d := by
  rw [b.ds_l, List.getElem?_map, h]; rfl
theorem block_at_ {t : Nat} {m : Mem} (r : Rule) (hr : r.Ok) (p : PM t m) {path : List Int} {e : Blk} (n : Nav r.b path e) (hl : path.length < 1000) : wp (g_block_at [r.d, pD path] m) (fun v m' => PM t m' ∧ Ch m m' ∧ v = e.t) noX := by
  have c0 := Ch.refl m
  obtain ⟨h, hh⟩ := n.even
  refine w_body rfl ?_
  unfold m_block_at Rule.d pD
  (repeat' (first | (with_reducible first | refine w_seq ?_ | refine w_set ?_ | refine w_for ?_ | refine v_c ?_ | refine v_op ?_ | refine v_cb ?_ | refine a_nil ?_ | refine a_cons ?_ | refine i_range ?_ | refine q_lenT ?_) | (with_reducible refine v_vx ?_; refine ex_v rfl ?_) | (with_reducible refine q_ixT ?_; refine ex_o rfl ?_) | fail))
  rw [List.length_map, hh]
  refine i_rng3 (by omega) ?_
  refine w_loop (I := fun ds s m1 => ∃ (cur : Blk) (j : Nat) (o3 : Option D), s = [some r.d, some (pD path), some cur.t, o3] ∧ ds = stp ((2 * j : Nat) : Int) 2 (h - j) ∧ j ≤ h ∧ Nav cur (path.drop (2 * j)) e ∧ cur.ok = true ∧ cur.nest ≤ 4 ∧ PM t m1 ∧ Ch m m1) ?_ ?_ ?_
  · exact ⟨r.b, 0, none, rfl, by simp, Nat.zero_le _, n, hr.b, hr.n4, p, c0⟩
  · rintro s m1 ⟨cur, j, o3, rfl, e1, hj, n1, _, _, p1, c1⟩
    have hz : h - j = 0 := by
      cases q : h - j with
      | zero => rfl
      | succ z => rw [q, stp_cons] at e1; cases e1
    have hd : path.drop (2 * j) = [] := List.drop_eq_nil_of_le (by omega)
    rw [hd] at n1
    cases n1
    (repeat' (first | (with_reducible first | refine w_ret ?_) | (with_reducible refine v_vx ?_; refine ex_v rfl ?_) | fail))
    exact ⟨p1, c1, rfl⟩
  · rintro x xs s m1 ⟨cur, j, o3, rfl, e1, hj, n1, cok, cn, p1, c1⟩
    cases q : h - j with
    | zero => rw [q] at e1; unfold stp at e1; simp at e1
    | succ z =>
      rw [q, stp_cons] at e1
      obtain ⟨rfl, rfl⟩ := List.cons.inj e1
      generalize hd : path.drop (2 * j) = pd at n1
      cases n1 with
      | nil =>
        have := congrArg List.length hd
        rw [List.length_drop] at this
        simp only [List.length_nil] at this
        omega
      | @step _ c _ d k i r' h1 h2 n2 =>
        have g1 : path[2 * j]? = some (k : Int) := by
          have := List.getElem?_drop (xs := path) (i := 2 * j) (j := 0)
          rw [hd] at this
          simpa using this.symm
        have g2 : path[2 * j + 1]? = some (i : Int) := by
          have := List.getElem?_drop (xs := path) (i := 2 * j) (j := 1)
          rw [hd] at this
          simpa using this.symm
        have g3 : path.drop (2 * (j + 1)) = r' := by
          rw [show 2 * (j + 1) = 2 * j + 2 by omega, ← List.drop_drop, hd]; rfl
        have f1 : (path.map D.int)[2 * j]? = some (.int (k : Int)) := by rw [List.getElem?_map, g1]; rfl
        have f2 : (path.map D.int)[2 * j + 1]? = some (.int (i : Int)) := by rw [List.getElem?_map, g2]; rfl
        obtain ⟨dok, dn⟩ := blk_get cok h1
        obtain ⟨eok, en⟩ := blks_get dok h2
        refine ⟨_, rfl, ?_⟩
        unfold pD Blk.t
        (repeat' (first | (with_reducible first | refine w_set ?_ | refine v_op ?_ | refine v_call ?_ | refine a_cons ?_) | (with_reducible refine v_vx ?_; refine ex_v rfl ?_) | fail))
        refine q_ixT (ex_o (atI_nat f1) ?_)
        skip
        refine q_ixT (ex_o (atI_nat (mem_l h1)) ?_)
        (repeat' (first | (with_reducible first | refine a_nil ?_) | fail))
        refine wp_imp (blocks_ d dok (by omega) p1) ?_
        rintro _ m2 ⟨p2, c2, rfl⟩
        (repeat' (first | (with_reducible first | refine v_c ?_ | refine v_op ?_ | refine q_add ?_) | (with_reducible refine v_vx ?_; refine ex_v rfl ?_) | fail))
        refine q_ixT (ex_o (z := .int (i : Int)) ?_ ?_)
        · rw [show ((2 * j : Nat) : Int) + 1 = ((2 * j + 1 : Nat) : Int) by push_cast; rfl]
          exact atI_nat f2
        skip
        refine q_ixL (ex_o (z := c.t) (atI_nat (by rw [List.getElem?_map, h2]; rfl)) ?_)
        refine ⟨c, j + 1, _, rfl, ?_, by omega, by rw [g3]; exact n2, eok, by omega, p2, c1.trans c2⟩
        rw [show h - (j + 1) = z by omega]
        push_cast
        congr 1
theorem cut_last (xs : List D) (x : D) : Ev.cutD (xs ++ [x]) none (some (-1)) = xs := by
  unfold Ev.cutD
  have e : HT.sIx (xs ++ [x]).length (xs ++ [x]).length (some (-1)) = xs.length := by
    unfold HT.sIx
    dsimp only
    rw [if_pos (by decide), List.length_append]
    simp only [List.length_cons, List.length_nil]
    omega
  rw [e, HT.sIx_none]
  simp
/-- a place of a deed -/
structure At (b : Blk) (p : List Int) (d : Deed) : Prop where
  ex : ∃ (ah : List Int) (c : Blk) (k : Nat), p = ah ++ [(k : Int)] ∧ Nav b ah c ∧ c.l[k]? = some d
theorem deed_at_ {t : Nat} {m : Mem} (r : Rule) (hr : r.Ok) (p : PM t m) {path : List Int} {d : Deed} (n : At r.b path d) (hl : path.length < 1000) : wp (g_deed_at [r.d, pD path] m) (fun v m' => PM t m' ∧ Ch m m' ∧ v = d.d) noX := by
  obtain ⟨ah, c, k, rfl, n1, hk⟩ := n.ex
  have hl : ah.length < 1000 := by simp at hl; omega
  refine w_body rfl ?_
  unfold m_deed_at pD
  rw [List.map_append]
  (repeat' (first | (with_reducible first | refine w_ret ?_ | refine v_c ?_ | refine v_op ?_ | refine v_o1 ?_ | refine v_call ?_ | refine a_nil ?_ | refine a_cons ?_ | refine v_sl ?_ | refine o_partN ?_ | refine o_part ?_ | refine q_neg ?_ | refine ex_part ?_) | (with_reducible refine v_vx ?_; refine ex_v rfl ?_) | ((fail_if_success (with_reducible refine i_rng ?_ ?_ ?_)); (with_reducible refine wp_ofx ?_; refine ex_o rfl ?_)) | fail))
  rw [List.map_cons, List.map_nil, cut_last]
  refine wp_imp (block_at_ r hr p n1 hl) ?_
  rintro _ m2 ⟨p2, c2, rfl⟩
  unfold Blk.t
  (repeat' (first | (with_reducible first | refine v_c ?_ | refine v_op ?_ | refine v_o1 ?_ | refine q_neg ?_) | (with_reducible refine v_vx ?_; refine ex_v rfl ?_) | fail))
  refine q_ixT (ex_o (atI_last _ _) ?_)
  refine q_ixT (ex_o (atI_nat (mem_l hk)) ?_)
  exact ⟨p2, c2, rfl⟩
/-! places with their deeds -/
mutual
def prB : Blk → Nat → List Int → List (List Int × Deed)
  | .nil, _, _ => []
  | .cons d b, k, ah => (ah ++ [(k : Int)], d) :: (prD d (ah ++ [(k : Int)]) ++ prB b (k + 1) ah)
def prD : Deed → List Int → List (List Int × Deed)
  | .ifd _ b c, pl => prB b 0 (pl ++ [0]) ++ prB c 0 (pl ++ [1])
  | .whl _ b, pl => prB b 0 (pl ++ [0])
  | .tr b cs l, pl => prB b 0 (pl ++ [0]) ++ (prC cs 1 pl ++ prB l 0 (pl ++ [((1 + cs.many : Nat) : Int)]))
  | _, _ => []
def prC : Cts → Nat → List Int → List (List Int × Deed)
  | .nil, _, _ => []
  | .cons _ _ b cs, k, pl => prB b 0 (pl ++ [(k : Int)]) ++ prC cs (k + 1) pl
end
mutual
theorem prB_pl : ∀ (b : Blk) (k : Nat) (ah : List Int), (prB b k ah).map (·.1) = plB b k ah
  | .nil, _, _ => rfl
  | .cons d b, k, ah => by simp only [prB, plB, List.map_cons, List.map_append, prD_pl d, prB_pl b]
theorem prD_pl : ∀ (d : Deed) (pl : List Int), (prD d pl).map (·.1) = plD d pl
  | .ifd _ b c, pl => by simp only [prD, BP.plD, List.map_append, prB_pl b, prB_pl c]
  | .whl _ b, pl => by simp only [prD, BP.plD, prB_pl b]
  | .tr b cs l, pl => by simp only [prD, BP.plD, List.map_append, prB_pl b, prB_pl l, prC_pl cs]
  | .lt _ _, _ | .give _ _, _ | .on _ _, _ | .note _, _ | .close _, _ | .fin _, _ | .ask _ _ _ _, _ | .cast _ _ _ _ _, _ | .leave, _ | .fault _ _, _ => rfl
theorem prC_pl : ∀ (cs : Cts) (k : Nat) (pl : List Int), (prC cs k pl).map (·.1) = plC cs k pl
  | .nil, _, _ => rfl
  | .cons _ _ b cs, k, pl => by simp only [prC, plC, List.map_append, prB_pl b, prC_pl cs]
end
theorem drop_l {α : Type} {xs ys : List α} {k : Nat} {d : α} (h : xs.drop k = d :: ys) : xs[k]? = some d ∧ xs.drop (k + 1) = ys := by
  refine ⟨?_, by rw [← List.drop_drop, h]; rfl⟩
  have := List.getElem?_drop (xs := xs) (i := k) (j := 0)
  rw [h] at this
  simpa using this.symm
theorem snoc2 (pl : List Int) (k i : Int) : pl ++ [k] ++ [i] = pl ++ [k, i] := by simp
/-- d stands in a block that ah leads to -/
def Up (r : Blk) (pl : List Int) (d : Deed) : Prop := ∃ (ah : List Int) (c : Blk) (k : Nat), pl = ah ++ [(k : Int)] ∧ Nav r ah c ∧ c.l[k]? = some d
theorem Up.nav {r : Blk} {pl : List Int} {d : Deed} (h : Up r pl d) {i : Nat} {e : Blk} (he : (blks d)[i]? = some e) : Nav r (pl ++ [(i : Int)]) e := by
  obtain ⟨ah, c, k, rfl, n, hk⟩ := h
  rw [snoc2]
  exact n.snoc hk he
mutual
theorem prB_at : ∀ (r : Blk) (b full : Blk) (k : Nat) (ah : List Int), Nav r ah full → full.l.drop k = b.l → ∀ q ∈ prB b k ah, At r q.1 q.2
  | _, .nil, _, _, _, _, _, q, hq => by simp only [prB, List.not_mem_nil] at hq
  | r, .cons d b, full, k, ah, n, hd, q, hq => by
    simp only [Blk.l] at hd
    obtain ⟨h1, h2⟩ := drop_l hd
    have up : Up r (ah ++ [(k : Int)]) d := ⟨ah, full, k, rfl, n, h1⟩
    simp only [prB] at hq
    rcases List.mem_cons.mp hq with rfl | hq
    · exact ⟨up⟩
    · rcases List.mem_append.mp hq with z | z
      · exact prD_at r d _ up q z
      · exact prB_at r b full (k + 1) ah n h2 q z
theorem prD_at : ∀ (r : Blk) (d : Deed) (pl : List Int), Up r pl d → ∀ q ∈ prD d pl, At r q.1 q.2
  | r, .ifd _ b c, pl, up, q, hq => by
    simp only [prD] at hq
    rcases List.mem_append.mp hq with z | z
    · exact prB_at r b b 0 _ (up.nav (i := 0) rfl) rfl q z
    · exact prB_at r c c 0 _ (up.nav (i := 1) rfl) rfl q z
  | r, .whl _ b, pl, up, q, hq => by
    simp only [prD] at hq
    exact prB_at r b b 0 _ (up.nav (i := 0) rfl) rfl q hq
  | r, .tr b cs l, pl, up, q, hq => by
    simp only [prD] at hq
    rcases List.mem_append.mp hq with z | z
    · exact prB_at r b b 0 _ (up.nav (i := 0) (by simp [blks])) rfl q z
    · rcases List.mem_append.mp z with z | z
      · refine prC_at r cs 1 pl (fun j e he => up.nav (i := 1 + j) ?_) q z
        simp only [blks, List.append_assoc]
        rw [List.getElem?_append_right (by simp)]
        simp only [List.length_cons, List.length_nil]
        rw [show 1 + j - (0 + 1) = j by omega, List.getElem?_append_left (by rw [List.length_map]; exact (List.getElem?_eq_some_iff.mp he).1 |> fun h => by simpa using h)]
        rw [List.getElem?_map]
        simpa using he
      · cases l with
        | nil => simp only [prB, List.not_mem_nil] at z
        | cons d' l' =>
          refine prB_at r (.cons d' l') (.cons d' l') 0 _ (up.nav (i := 1 + cs.many) ?_) rfl q z
          simp only [blks]
          rw [List.getElem?_append_right (by simp [cs.len_many]; omega)]
          simp [cs.len_many]
          rw [show 1 + cs.many - (cs.many + 1) = 0 by omega]
          rfl
  | _, .lt _ _, _, _, q, hq | _, .give _ _, _, _, q, hq | _, .on _ _, _, _, q, hq | _, .note _, _, _, q, hq | _, .close _, _, _, q, hq | _, .fin _, _, _, q, hq | _, .ask _ _ _ _, _, _, q, hq | _, .cast _ _ _ _ _, _, _, q, hq | _, .leave, _, _, q, hq | _, .fault _ _, _, _, q, hq => by simp only [prD, List.not_mem_nil] at hq
theorem prC_at : ∀ (r : Blk) (cs : Cts) (k : Nat) (pl : List Int), (∀ (j : Nat) (e : Blk), (cs.l.map fun p => p.2.2)[j]? = some e → Nav r (pl ++ [((k + j : Nat) : Int)]) e) → ∀ q ∈ prC cs k pl, At r q.1 q.2
  | _, .nil, _, _, _, q, hq => by simp only [prC, List.not_mem_nil] at hq
  | r, .cons w x b cs, k, pl, h, q, hq => by
    simp only [prC] at hq
    rcases List.mem_append.mp hq with z | z
    · exact prB_at r b b 0 _ (h 0 b rfl) rfl q z
    · refine prC_at r cs (k + 1) pl (fun j e he => ?_) q z
      have := h (j + 1) e (by simpa [Cts.l] using he)
      rwa [show k + (j + 1) = k + 1 + j by omega] at this
end
theorem rule_at (r : Rule) : ∀ q ∈ prB r.b 0 [], At r.b q.1 q.2 := prB_at r.b r.b r.b 0 [] (.nil _) rfl
end BQ

set_option Elab.async false
set_option linter.all false
set_option maxRecDepth 100000
set_option autoImplicit false
namespace BR
open PySem PySem.Spec PyProof.Rows L2 Ev BG BP BQ
def m_stands_of (g_places : List D → Mem → Res D) (g_deed_at : List D → Mem → Res D) : MS :=
    (mRet (mNewLc [1] (mIter (mFrzE (mCall g_places (mCons (mV 0) mNil)))) (aName 1) (mT (mOp opIn (mOp opIx (mCall g_deed_at (mCons (mV 0) (mCons (mV 1) mNil))) (mC (.int 0))) (mTup (mCons (mC (.str "give")) (mCons (mC (.str "on")) mNil))))) (mV 1)))
def g_stands_of : List D → Mem → Res D := body 1 2 (m_stands_of g_places g_deed_at)
def m_tries_of (g_places : List D → Mem → Res D) (g_has_lasts : List D → Mem → Res D) (g_deed_at : List D → Mem → Res D) : MS :=
    (mRet (mNewLc [1] (mIter (mFrzE (mCall g_places (mCons (mV 0) mNil)))) (aName 1) (mT (mCall g_has_lasts (mCons (mCall g_deed_at (mCons (mV 0) (mCons (mV 1) mNil))) mNil))) (mV 1)))
def g_tries_of : List D → Mem → Res D := body 1 2 (m_tries_of g_places g_has_lasts g_deed_at)
end BR

set_option Elab.async false
set_option linter.all false
set_option maxRecDepth 100000
set_option autoImplicit false
/-! BRa: stands, tries. -/
namespace BR
open PySem PySem.Spec PyProof.Rows L2 Ev BG BP BQ
def last : Deed → Bool
  | .tr _ _ (.cons _ _) => true
  | _ => false
def stays : Deed → Bool
  | .give _ _ => true
  | .on _ _ => true
  | _ => false
theorem has_lasts_ {m : Mem} (d : Deed) (hd : d.ok = true) (h5 : d.nest ≤ 5) : wp (g_has_lasts [d.d] m) (fun v m' => v = .bl (last d) ∧ m' = m) noX := by
  refine w_body rfl ?_
  unfold m_has_lasts
  cases d
  case tr b cs l =>
    simp only [Deed.ok, Bool.and_eq_true, decide_eq_true_eq] at hd
    simp only [Deed.nest] at h5
    have hlb : Pl (D.tup l.ds) := (Fac.tup (l.fac hd.1.2)).ple (by omega)
    simp only [Deed.d]
    (repeat' (first | (with_reducible first | refine w_ret ?_ | refine v_c ?_ | refine v_op ?_ | refine a_nil ?_ | refine v_tup ?_ | refine v_and ?_ | refine ex_bl ?_ | refine q_es ?_) | (with_reducible refine v_vx ?_; refine ex_v rfl ?_) | (with_reducible refine q_ixT ?_; refine ex_o rfl ?_) | (with_reducible refine len_ok (by simp [sizeLine_eq]) ?_) | (with_reducible refine pick_dT (by decide +kernel) ?_) | fail))
    refine q_ne hlb ⟨by decide, by decide⟩ ?_
    refine ⟨?_, rfl⟩
    cases l <;> rfl
  all_goals
    simp only [Deed.d]
    (repeat' (first | (with_reducible first | refine w_ret ?_ | refine v_c ?_ | refine v_op ?_ | refine v_and ?_ | refine ex_bl ?_ | refine q_es ?_) | (with_reducible refine v_vx ?_; refine ex_v rfl ?_) | (with_reducible refine q_ixT ?_; refine ex_o rfl ?_) | (with_reducible refine pick_dF (by decide +kernel) ?_) | fail))
    exact ⟨rfl, rfl⟩
theorem tag_in {s : Str} (h : okS s = true) {m : Mem} {Q : D → Mem → Prop} (k : Q (.bl (s == "give" || s == "on")) m) : wp (Res.of (opIn (.str s) (.tup [.str "give", .str "on"]) m) m) Q noX := by
  have hp : PyData.strOk s = true := by unfold okS at h; rw [Bool.and_eq_true] at h; exact h.1
  refine q_inT (pl_str hp) ⟨by decide +kernel, by decide +kernel⟩ ?_
  have e : din (.str s) [.str "give", .str "on"] = (s == "give" || s == "on") := by
    simp only [din, List.any_cons, List.any_nil, deq, Bool.or_false]
    rw [Bool.beq_comm (a := ("give" : Str)), Bool.beq_comm (a := ("on" : Str))]
  rw [e]; exact k
def tag : Deed → Str
  | .lt _ _ => "let"
  | .give _ _ => "give"
  | .on _ _ => "on"
  | .note _ => "note"
  | .close _ => "close"
  | .fin _ => "end"
  | .ask _ _ _ _ => "ask"
  | .cast _ _ _ _ _ => "cast"
  | .leave => "leave"
  | .fault _ _ => "fault"
  | .ifd _ _ _ => "if"
  | .whl _ _ => "while"
  | .tr _ _ _ => "try"
theorem q_tag {m : Mem} {Q : D → Mem → Prop} {XX : XQ} {d : Deed} (h : Q (.str (tag d)) m) : wp (Res.of (opIx d.d (.int 0) m) m) Q XX := by
  cases d <;> exact q_ixT (ex_o rfl h)
theorem tag_ok (d : Deed) : okS (tag d) = true := by cases d <;> simp only [tag] <;> decide +kernel
theorem tag_stays (d : Deed) : (tag d == "give" || tag d == "on") = stays d := by cases d <;> simp only [tag, stays] <;> decide +kernel
/-- what is read of a rule's places: those that have deeds of a kind -/
theorem kept_len {f : List Int × Deed → Bool} (r : Rule) {xs : List (List Int × Deed)} (h : ∃ ys, prB r.b 0 [] = ys ++ xs) : xs.length ≤ r.b.cnt := by
  obtain ⟨ys, e⟩ := h
  have := congrArg List.length (prB_pl r.b 0 [])
  rw [List.length_map, plB_len, e, List.length_append] at this
  omega
theorem at_ok {r : Rule} (hr : r.Ok) {p : List Int} {d : Deed} (h : At r.b p d) : d.ok = true ∧ d.nest ≤ 4 := by
  obtain ⟨ah, c, k, rfl, n, hk⟩ := h.ex
  obtain ⟨a1, a2⟩ := n.ok hr.b
  obtain ⟨b1, b2⟩ := blk_get a1 hk
  have := hr.n4
  exact ⟨b1, by omega⟩
theorem rule_len {r : Rule} (hr : r.Ok) {q : List Int × Deed} (h : q ∈ prB r.b 0 []) : q.1.length < 1000 := by
  have := (rule_sm hr q.1 (by rw [← prB_pl]; exact List.mem_map_of_mem h)).len
  omega
theorem pr_len (r : Rule) : (prB r.b 0 []).length = r.b.cnt := by
  rw [← plB_len r.b 0 [], ← prB_pl, List.length_map]
def pick1 (f : Deed → Bool) (r : Rule) : List (List Int) := ((prB r.b 0 []).filter fun q => f q.2).map (·.1)
theorem filt0 {α : Type} {p : α → Bool} {xs : List α} {x : α} (h : p x = false) : (xs ++ [x]).filter p = xs.filter p := by
  rw [List.filter_append, List.filter_cons_of_neg (by rw [h]; decide)]; simp
theorem filt1 {α : Type} {p : α → Bool} {xs : List α} {x : α} (h : p x = true) : (xs ++ [x]).filter p = xs.filter p ++ [x] := by
  rw [List.filter_append, List.filter_cons_of_pos h]; simp
theorem stands_ (r : Rule) (hr : r.Ok) {t : Nat} {m : Mem} (p : PM t m) : wp (g_stands_of [r.d] m) (fun v m' => PM t m' ∧ Ch m m' ∧ ∃ j, v = .ref j ∧ m.nx ≤ j ∧ m'.ob j = some (.lst ((pick1 stays r).map pD))) noX := by
  have c0 := Ch.refl m
  refine w_body rfl ?_
  unfold m_stands_of
  (repeat' (first | (with_reducible first | refine w_ret ?_ | refine v_call ?_ | refine a_nil ?_ | refine a_cons ?_ | refine i_iter ?_ | refine v_newLc ?_ | refine v_frzE ?_) | (with_reducible refine v_vx ?_; refine ex_v rfl ?_) | fail))
  refine wp_imp (places_ r hr p) ?_
  rintro _ m1 ⟨p1, c1, j, rfl, hj, ho⟩
  refine q_frz ho ?_
  (repeat' (first | (with_reducible first | refine q_itL ?_) | fail))
  refine v_loopC (I := fun ds acc m2 => PM t m2 ∧ Ch m m2 ∧ ∃ done todo, prB r.b 0 [] = done ++ todo ∧ ds = (todo.map (·.1)).map pD ∧ acc = ((done.filter fun q => stays q.2).map (·.1)).map pD) ?_ ?_ ?_
  · exact ⟨p1.killO (by have := p.nx; omega), c1.killO hj, [], prB r.b 0 [], rfl, by rw [prB_pl], rfl⟩
  · rintro acc m2 ⟨p2, c2, done, todo, e1, e2, rfl⟩
    cases todo with
    | cons _ _ => cases e2
    | nil =>
      rw [List.append_nil] at e1
      refine ⟨p2.addO _, c2.addO _, _, rfl, c2.nx, ?_⟩
      rw [add_ob]
      unfold pick1
      rw [e1]
  · rintro x xs acc m2 ⟨p2, c2, done, todo, e1, e2, rfl⟩
    cases todo with
    | nil => cases e2
    | cons q todo =>
      obtain ⟨rfl, rfl⟩ := List.cons.inj e2
      have hq : q ∈ prB r.b 0 [] := by rw [e1]; simp
      have hat := rule_at r q hq
      have hl := pr_len r
      have hc := hr.c30
      rw [e1] at hl
      simp only [List.length_append, List.length_cons] at hl
      refine ⟨_, rfl, ?_⟩
      (repeat' (first | (with_reducible first | refine v_op ?_ | refine v_call ?_ | refine a_nil ?_ | refine a_cons ?_ | refine t_t ?_) | (with_reducible refine v_vx ?_; refine ex_v rfl ?_) | fail))
      refine wp_imp (deed_at_ r hr p2 hat (rule_len hr hq)) ?_
      rintro _ m3 ⟨p3, c3, rfl⟩
      refine q_tag ?_
      (repeat' (first | (with_reducible first | refine v_c ?_ | refine a_nil ?_ | refine a_cons ?_ | refine v_tup ?_) | (with_reducible refine len_ok (by simp [sizeLine_eq]) ?_) | fail))
      refine tag_in (tag_ok q.2) ?_
      rw [tag_stays]
      refine ex_bl ?_
      have c3 := c2.trans c3
      cases hs : stays q.2
      · refine pick_f rfl ⟨p3, c3, done ++ [q], todo, by rw [e1]; simp, rfl, ?_⟩
        rw [filt0 (p := fun q : List Int × Deed => stays q.2) hs]
      · refine pick_t rfl ?_
        (repeat' (first | (with_reducible refine v_vx ?_; refine ex_v rfl ?_) | fail))
        have hle := List.length_filter_le (fun q => stays q.2) done
        refine ⟨by rw [List.length_map, List.length_map, sizeLine_eq]; omega, p3, c3, done ++ [q], todo, by rw [e1]; simp, rfl, ?_⟩
        rw [filt1 (p := fun q : List Int × Deed => stays q.2) hs]
        simp
theorem tries_ (r : Rule) (hr : r.Ok) {t : Nat} {m : Mem} (p : PM t m) : wp (g_tries_of [r.d] m) (fun v m' => PM t m' ∧ Ch m m' ∧ ∃ j, v = .ref j ∧ m.nx ≤ j ∧ m'.ob j = some (.lst ((pick1 last r).map pD))) noX := by
  have c0 := Ch.refl m
  refine w_body rfl ?_
  unfold m_tries_of
  (repeat' (first | (with_reducible first | refine w_ret ?_ | refine v_call ?_ | refine a_nil ?_ | refine a_cons ?_ | refine i_iter ?_ | refine v_newLc ?_ | refine v_frzE ?_) | (with_reducible refine v_vx ?_; refine ex_v rfl ?_) | fail))
  refine wp_imp (places_ r hr p) ?_
  rintro _ m1 ⟨p1, c1, j, rfl, hj, ho⟩
  refine q_frz ho ?_
  (repeat' (first | (with_reducible first | refine q_itL ?_) | fail))
  refine v_loopC (I := fun ds acc m2 => PM t m2 ∧ Ch m m2 ∧ ∃ done todo, prB r.b 0 [] = done ++ todo ∧ ds = (todo.map (·.1)).map pD ∧ acc = ((done.filter fun q => last q.2).map (·.1)).map pD) ?_ ?_ ?_
  · exact ⟨p1.killO (by have := p.nx; omega), c1.killO hj, [], prB r.b 0 [], rfl, by rw [prB_pl], rfl⟩
  · rintro acc m2 ⟨p2, c2, done, todo, e1, e2, rfl⟩
    cases todo with
    | cons _ _ => cases e2
    | nil =>
      rw [List.append_nil] at e1
      refine ⟨p2.addO _, c2.addO _, _, rfl, c2.nx, ?_⟩
      rw [add_ob]
      unfold pick1
      rw [e1]
  · rintro x xs acc m2 ⟨p2, c2, done, todo, e1, e2, rfl⟩
    cases todo with
    | nil => cases e2
    | cons q todo =>
      obtain ⟨rfl, rfl⟩ := List.cons.inj e2
      have hq : q ∈ prB r.b 0 [] := by rw [e1]; simp
      have hat := rule_at r q hq
      obtain ⟨qok, qn⟩ := at_ok hr hat
      have hl := pr_len r
      have hc := hr.c30
      rw [e1] at hl
      simp only [List.length_append, List.length_cons] at hl
      refine ⟨_, rfl, ?_⟩
      (repeat' (first | (with_reducible first | refine v_call ?_ | refine a_nil ?_ | refine a_cons ?_ | refine t_t ?_) | (with_reducible refine v_vx ?_; refine ex_v rfl ?_) | fail))
      refine wp_imp (deed_at_ r hr p2 hat (rule_len hr hq)) ?_
      rintro _ m3 ⟨p3, c3, rfl⟩
      have c3 := c2.trans c3
      (repeat' (first | (with_reducible first | refine a_nil ?_) | fail))
      refine wp_imp (has_lasts_ q.2 qok (by omega)) ?_
      rintro _ m3 ⟨rfl, rfl⟩
      refine ex_bl ?_
      cases hs : last q.2
      · refine pick_f rfl ⟨p3, c3, done ++ [q], todo, by rw [e1]; simp, rfl, ?_⟩
        rw [filt0 (p := fun q : List Int × Deed => last q.2) hs]
      · refine pick_t rfl ?_
        (repeat' (first | (with_reducible refine v_vx ?_; refine ex_v rfl ?_) | fail))
        have hle := List.length_filter_le (fun q => last q.2) done
        refine ⟨by rw [List.length_map, List.length_map, sizeLine_eq]; omega, p3, c3, done ++ [q], todo, by rw [e1]; simp, rfl, ?_⟩
        rw [filt1 (p := fun q : List Int × Deed => last q.2) hs]
        simp
theorem q_rule0 {r : Rule} {m : Mem} {Q : D → Mem → Prop} {XX : XQ} (h : Q (.str r.f) m) : wp (Res.of (opIx r.d (.int 0) m) m) Q XX := by
  unfold Rule.d; exact q_ixT (ex_o rfl h)
theorem q_rule1 {r : Rule} {m : Mem} {Q : D → Mem → Prop} {XX : XQ} (h : Q (.tup (r.ps.map D.str)) m) : wp (Res.of (opIx r.d (.int 1) m) m) Q XX := by
  unfold Rule.d; exact q_ixT (ex_o rfl h)
theorem q_rule2 {r : Rule} {m : Mem} {Q : D → Mem → Prop} {XX : XQ} (h : Q r.b.t m) : wp (Res.of (opIx r.d (.int 2) m) m) Q XX := by
  unfold Rule.d; exact q_ixT (ex_o rfl h)
theorem cut_mem {α : Type} {xs : List α} {lo hi : Option Int} {x : α} (h : x ∈ Ev.cutD xs lo hi) : x ∈ xs := by
  unfold Ev.cutD at h
  exact List.mem_of_mem_drop (List.mem_of_mem_take h)
theorem cut_len {α : Type} (xs : List α) (lo hi : Option Int) : (Ev.cutD xs lo hi).length ≤ xs.length := by
  unfold Ev.cutD
  rw [List.length_take, List.length_drop]
  omega
theorem deed_sh {d : Deed} (h : d.ok = true) (hn : d.nest ≤ 4) (hc : d.cnt ≤ 100) : Sh d.d := (d.fac h).sh (by omega) (by omega)
theorem l_cnt : ∀ {b : Blk} {d : Deed}, d ∈ b.l → d.cnt ≤ b.cnt
  | .nil, d, h => by simp only [Blk.l, List.not_mem_nil] at h
  | .cons e b, d, h => by
    simp only [Blk.l] at h
    simp only [Blk.cnt]
    rcases List.mem_cons.mp h with rfl | h
    · omega
    · have := l_cnt h; omega
theorem nav_cnt : ∀ {b e : Blk} {p : List Int}, Nav b p e → e.cnt ≤ b.cnt
  | _, _, _, .nil _ => Nat.le_refl _
  | _, _, _, .step (d := d) (c := c) h1 h2 n => by
    have a1 := l_cnt (List.mem_of_getElem? h1)
    have a2 : c.cnt ≤ (d.inn.map Blk.cnt).sum := mem_sum Blk.cnt _ _ (blks_sub d c (List.mem_of_getElem? h2))
    have a3 := d.inn_cnt
    have a4 := nav_cnt n
    omega
theorem at_cnt {b : Blk} {p : List Int} {d : Deed} (h : At b p d) : d.cnt ≤ b.cnt := by
  obtain ⟨ah, c, k, rfl, n, hk⟩ := h.ex
  exact Nat.le_trans (l_cnt (List.mem_of_getElem? hk)) (nav_cnt n)
theorem at_sh {r : Rule} (hr : r.Ok) {p : List Int} {d : Deed} (h : At r.b p d) : Sh d.d := by
  obtain ⟨a, b⟩ := at_ok hr h
  have := at_cnt h
  have := hr.c30
  exact deed_sh a b (by omega)
def qD (q : List Int × Deed) : D := .tup [pD q.1, q.2.d]
def prI : List Blk → Nat → List Int → List (List Int × Deed)
  | [], _, _ => []
  | b :: bs, k, pl => prB b 0 (pl ++ [(k : Int)]) ++ prI bs (k + 1) pl
theorem prI_app : ∀ (as bs : List Blk) (k : Nat) (pl : List Int), prI (as ++ bs) k pl = prI as k pl ++ prI bs (k + as.length) pl
  | [], bs, k, pl => by simp only [List.nil_append, prI, List.length_nil, Nat.add_zero]
  | a :: as, bs, k, pl => by
    simp only [List.cons_append, prI, prI_app as bs (k + 1) pl, List.length_cons, List.append_assoc]
    rw [show k + 1 + as.length = k + (as.length + 1) by omega]
theorem prI_cts : ∀ (cs : Cts) (k : Nat) (pl : List Int), prI (cs.l.map fun p => p.2.2) k pl = prC cs k pl
  | .nil, k, pl => by simp only [Cts.l, List.map_nil, prI, prC]
  | .cons w x b cs, k, pl => by simp only [Cts.l, List.map_cons, prI, prC, prI_cts cs (k + 1) pl]
theorem prD_inn : ∀ (d : Deed) (pl : List Int), prI d.inn 0 pl = prD d pl
  | .ifd _ b c, pl => by simp only [Deed.inn, prI, BQ.prD, List.append_nil]; rfl
  | .whl _ b, pl => by simp only [Deed.inn, prI, BQ.prD, List.append_nil]; rfl
  | .tr b cs l, pl => by
    simp only [Deed.inn, prI_app, prI, BQ.prD, List.append_nil, prI_cts, List.length_append, List.length_map, List.length_cons, List.length_nil, cs.len_many, List.append_assoc]
    simp only [Nat.zero_add]
    rfl
  | .lt _ _, _ | .give _ _, _ | .on _ _, _ | .note _, _ | .close _, _ | .fin _, _ | .ask _ _ _ _, _ | .cast _ _ _ _ _, _ | .leave, _ | .fault _ _, _ => rfl
theorem prB_len (b : Blk) (k : Nat) (ah : List Int) : (prB b k ah).length = b.cnt := by
  rw [← plB_len b k ah, ← prB_pl, List.length_map]
theorem prD_len (d : Deed) (pl : List Int) : (prD d pl).length + 1 = d.cnt := by
  rw [← plD_len d pl, ← prD_pl, List.length_map]
theorem drop_cons {b b2 : List D} {k : Nat} {d : D} (h : b.drop k = d :: b2) : b[k]? = some d ∧ b.drop (k + 1) = b2 ∧ b.length - k = b2.length + 1 := by
  refine ⟨?_, ?_, ?_⟩
  · have := List.getElem?_drop (xs := b) (i := k) (j := 0)
    rw [h] at this
    simpa using this.symm
  · rw [← List.drop_drop, h]; rfl
  · have := congrArg List.length h
    rw [List.length_drop] at this
    simpa using this
end BR

set_option Elab.async false
set_option linter.all false
set_option maxRecDepth 100000
set_option autoImplicit false
namespace K10
open PySem PySem.Spec PyProof.Rows L2 Ev BG BP BQ BR
/-! ### the text -/
def topS (i : Nat) : Stmt := PySem.Challenge.pw_handedon_k10_variables_of_rules.main.body.getD i (.Pass ⟨0, 0, 0, 0⟩)
/-! ### inner_expressions -/
abbrev s_inner_expressions : Stmt := topS 1
theorem sc_inner_expressions : FnScope ["expression"] ["expression"] (defScope s_inner_expressions) := ⟨rfl, rfl, rfl, by decide +kernel, rfl, by decide +kernel, by decide +kernel⟩
def m_inner_expressions : MS :=
    (mSeq (mIf (mT (mOp opEq (mOp opIx (mV 0) (mC (.int 0))) (mC (.str "op")))) (mRet (mCB opList (mCons (mSl (mV 0) (mPart (mC (.int 2))) mPartN) mNil))) mSkip)
    (mSeq (mIf (mT (mOp opEq (mOp opIx (mV 0) (mC (.int 0))) (mC (.str "make")))) (mRet (mCB opList (mCons (mOp opIx (mV 0) (mC (.int 2))) mNil))) mSkip)
    (mRet (mLst mNil))))
set_option maxHeartbeats 2000000 in
theorem ok_inner_expressions {P : Program} {w : World} {K : PySem.W.Frag} {mg : Str → Option Value} {base : Heap} {k : Nat} {f : Addr} {fd : FuncData} (A : DefAt K mg "inner_expressions" s_inner_expressions ["expression"] f fd) (B_list : mg "list" = none) :
    DefG P w K mg base (k + 1) "inner_expressions" 1 (body 1 1 (m_inner_expressions)) :=
  fn_body A sc_inner_expressions fun cdv A outer s H E hh => 
    (d_scons (d_if (d_tcmp (o_eq hh.hu) (d_ix hh (d_v 0) d_int) d_str) (d_sone (d_ret (d_ct c_list rfl B_list boot_list (d_cons (d_sl (d_v 0) (d_po d_int) d_poN) d_nil)))) d_snil)
    (d_scons (d_if (d_tcmp (o_eq hh.hu) (d_ix hh (d_v 0) d_int) d_str) (d_sone (d_ret (d_ct c_list rfl B_list boot_list (d_cons (d_ix hh (d_v 0) d_int) d_nil)))) d_snil)
    (d_sone (d_ret (d_lst d_nil)))))
/-! ### expressions_of -/
abbrev s_expressions_of : Stmt := topS 2
theorem sc_expressions_of : FnScope ["deed", "word"] ["deed"] (defScope s_expressions_of) := ⟨rfl, rfl, rfl, by decide +kernel, rfl, by decide +kernel, by decide +kernel⟩
def m_expressions_of : MS :=
    (mSeq (mSet 1 (mOp opIx (mV 0) (mC (.int 0))))
    (mSeq (mIf (mT (mOp opIn (mV 1) (mTup (mCons (mC (.str "let")) (mCons (mC (.str "give")) (mCons (mC (.str "on")) (mCons (mC (.str "fault")) mNil))))))) (mRet (mLst (mCons (mOp opIx (mV 0) (mC (.int 2))) mNil))) mSkip)
    (mSeq (mIf (mT (mOp opIn (mV 1) (mTup (mCons (mC (.str "note")) (mCons (mC (.str "close")) (mCons (mC (.str "end")) (mCons (mC (.str "if")) (mCons (mC (.str "while")) mNil)))))))) (mRet (mLst (mCons (mOp opIx (mV 0) (mC (.int 1))) mNil))) mSkip)
    (mSeq (mIf (mT (mOp opEq (mV 1) (mC (.str "ask")))) (mRet (mLst (mCons (mOp opIx (mV 0) (mC (.int 3))) (mCons (mOp opIx (mV 0) (mC (.int 4))) mNil)))) mSkip)
    (mSeq (mIf (mT (mOp opEq (mV 1) (mC (.str "cast")))) (mRet (mLst (mCons (mOp opIx (mV 0) (mC (.int 3))) (mCons (mOp opIx (mV 0) (mC (.int 5))) mNil)))) mSkip)
    (mRet (mLst mNil)))))))
set_option maxHeartbeats 2000000 in
theorem ok_expressions_of {P : Program} {w : World} {K : PySem.W.Frag} {mg : Str → Option Value} {base : Heap} {k : Nat} {f : Addr} {fd : FuncData} (A : DefAt K mg "expressions_of" s_expressions_of ["deed"] f fd) :
    DefG P w K mg base (k + 1) "expressions_of" 1 (body 1 2 (m_expressions_of)) :=
  fn_body A sc_expressions_of fun cdv A outer s H E hh => 
    (d_scons (d_set (i := 1) hh (d_ix hh (d_v 0) d_int))
    (d_scons (d_if (d_tcmp (o_in hh.hu) (d_v 1) (d_tup (d_cons d_str (d_cons d_str (d_cons d_str (d_cons d_str d_nil)))))) (d_sone (d_ret (d_lst (d_cons (d_ix hh (d_v 0) d_int) d_nil)))) d_snil)
    (d_scons (d_if (d_tcmp (o_in hh.hu) (d_v 1) (d_tup (d_cons d_str (d_cons d_str (d_cons d_str (d_cons d_str (d_cons d_str d_nil))))))) (d_sone (d_ret (d_lst (d_cons (d_ix hh (d_v 0) d_int) d_nil)))) d_snil)
    (d_scons (d_if (d_tcmp (o_eq hh.hu) (d_v 1) d_str) (d_sone (d_ret (d_lst (d_cons (d_ix hh (d_v 0) d_int) (d_cons (d_ix hh (d_v 0) d_int) d_nil))))) d_snil)
    (d_scons (d_if (d_tcmp (o_eq hh.hu) (d_v 1) d_str) (d_sone (d_ret (d_lst (d_cons (d_ix hh (d_v 0) d_int) (d_cons (d_ix hh (d_v 0) d_int) d_nil))))) d_snil)
    (d_sone (d_ret (d_lst d_nil))))))))
/-! ### targets_of -/
abbrev s_targets_of : Stmt := topS 3
theorem sc_targets_of : FnScope ["deed", "word", "caught"] ["deed"] (defScope s_targets_of) := ⟨rfl, rfl, rfl, by decide +kernel, rfl, by decide +kernel, by decide +kernel⟩
def m_targets_of : MS :=
    (mSeq (mSet 1 (mOp opIx (mV 0) (mC (.int 0))))
    (mSeq (mIf (mT (mOp opIn (mV 1) (mTup (mCons (mC (.str "let")) (mCons (mC (.str "give")) (mCons (mC (.str "on")) mNil)))))) (mRet (mLst (mCons (mOp opIx (mV 0) (mC (.int 1))) mNil))) mSkip)
    (mSeq (mIf (mT (mOp opIn (mV 1) (mTup (mCons (mC (.str "ask")) (mCons (mC (.str "cast")) mNil))))) (mRet (mLst (mCons (mOp opIx (mV 0) (mC (.int 1))) (mCons (mOp opIx (mV 0) (mC (.int 2))) mNil)))) mSkip)
    (mSeq (mIf (mT (mOp opEq (mV 1) (mC (.str "try")))) (mRet (mLc [2] (mIter (mOp opIx (mV 0) (mC (.int 2)))) (aName 2) mYes (mOp opIx (mV 2) (mC (.int 1))))) mSkip)
    (mRet (mLst mNil))))))
set_option maxHeartbeats 2000000 in
theorem ok_targets_of {P : Program} {w : World} {K : PySem.W.Frag} {mg : Str → Option Value} {base : Heap} {k : Nat} {f : Addr} {fd : FuncData} (A : DefAt K mg "targets_of" s_targets_of ["deed"] f fd) :
    DefG P w K mg base (k + 1) "targets_of" 1 (body 1 3 (m_targets_of)) :=
  fn_body A sc_targets_of fun cdv A outer s H E hh => 
    (d_scons (d_set (i := 1) hh (d_ix hh (d_v 0) d_int))
    (d_scons (d_if (d_tcmp (o_in hh.hu) (d_v 1) (d_tup (d_cons d_str (d_cons d_str (d_cons d_str d_nil))))) (d_sone (d_ret (d_lst (d_cons (d_ix hh (d_v 0) d_int) d_nil)))) d_snil)
    (d_scons (d_if (d_tcmp (o_in hh.hu) (d_v 1) (d_tup (d_cons d_str (d_cons d_str d_nil)))) (d_sone (d_ret (d_lst (d_cons (d_ix hh (d_v 0) d_int) (d_cons (d_ix hh (d_v 0) d_int) d_nil))))) d_snil)
    (d_scons (d_if (d_tcmp (o_eq hh.hu) (d_v 1) d_str) (d_sone (d_ret (d_lc (own := [("caught", 2)]) hh (d_iter (d_ix hh (d_v 0) d_int)) (blkOk_by (by rfl)) (fun s H C cl fp hb1 => (d_gname (i := 2) hb1.nd)) (fun s H C cl fp hb1 => d_if0) (fun s H C cl fp hb1 => (d_ix hb1 (d_v 2) d_int))))) d_snil)
    (d_sone (d_ret (d_lst d_nil)))))))
/-! ### blocks_of -/
abbrev s_blocks_of : Stmt := topS 4
theorem sc_blocks_of : FnScope ["deed", "found", "caught"] ["deed"] (defScope s_blocks_of) := ⟨rfl, rfl, rfl, by decide +kernel, rfl, by decide +kernel, by decide +kernel⟩
set_option maxHeartbeats 2000000 in
theorem ok_blocks_of {P : Program} {w : World} {K : PySem.W.Frag} {mg : Str → Option Value} {base : Heap} {k : Nat} {f : Addr} {fd : FuncData} (A : DefAt K mg "blocks_of" s_blocks_of ["deed"] f fd) :
    DefG P w K mg base (k + 1) "blocks_of" 1 (body 1 3 (m_blocks_of)) :=
  fn_body A sc_blocks_of fun cdv A outer s H E hh => 
    (d_scons (d_if (d_tcmp (o_eq hh.hu) (d_ix hh (d_v 0) d_int) d_str) (d_sone (d_ret (d_lst (d_cons (d_ix hh (d_v 0) d_int) (d_cons (d_ix hh (d_v 0) d_int) d_nil))))) d_snil)
    (d_scons (d_if (d_tcmp (o_eq hh.hu) (d_ix hh (d_v 0) d_int) d_str) (d_sone (d_ret (d_lst (d_cons (d_ix hh (d_v 0) d_int) d_nil)))) d_snil)
    (d_scons (d_if (d_tcmp (o_ne hh.hu) (d_ix hh (d_v 0) d_int) d_str) (d_sone (d_ret (d_lst d_nil))) d_snil)
    (d_scons (d_set (i := 1) hh (d_newAdd (d_lst (d_cons (d_ix hh (d_v 0) d_int) d_nil)) (d_lc (own := [("caught", 2)]) hh (d_iter (d_ix hh (d_v 0) d_int)) (blkOk_by (by rfl)) (fun s H C cl fp hb1 => (d_gname (i := 2) hb1.nd)) (fun s H C cl fp hb1 => d_if0) (fun s H C cl fp hb1 => (d_ix hb1 (d_v 2) d_int)))))
    (d_scons (d_if (d_tcmp (o_ne hh.hu) (d_ix hh (d_v 0) d_int) (d_tup d_nil)) (d_sone (d_drop (d_append (d_v 1) (d_ix hh (d_v 0) d_int)))) d_snil)
    (d_sone (d_frz (i := 1) (d_ret (d_v 1)))))))))
/-! ### deeds_in -/
abbrev s_deeds_in : Stmt := topS 5
theorem sc_deeds_in : FnScope ["block", "found", "deed", "inner"] ["block"] (defScope s_deeds_in) := ⟨rfl, rfl, rfl, by decide +kernel, rfl, by decide +kernel, by decide +kernel⟩
def m_deeds_in (g_blocks_of : List D → Mem → Res D) (g_deeds_in : List D → Mem → Res D) : MS :=
    (mSeq (mSet 1 (mNewL mNil))
    (mSeq (mFor (mIter (mV 0)) (aName 2) (mSeq (mDrop (mL1 appD (mV 1) (mV 2)))
    (mFor (mIter (mCall g_blocks_of (mCons (mV 2) mNil))) (aName 3) (mDrop (mL1 extD (mV 1) (mCall g_deeds_in (mCons (mV 3) mNil)))))))
    (mSeq (mFrz 1) (mRet (mV 1)))))
set_option maxHeartbeats 2000000 in
theorem ok_deeds_in {P : Program} {w : World} {K : PySem.W.Frag} {mg : Str → Option Value} {base : Heap} {k : Nat} {f : Addr} {fd : FuncData} (A : DefAt K mg "deeds_in" s_deeds_in ["block"] f fd) {g_blocks_of : List D → Mem → Res D} (D_blocks_of : DefG P w K mg base k "blocks_of" 1 g_blocks_of) {g_deeds_in : List D → Mem → Res D} (D_deeds_in : DefG P w K mg base k "deeds_in" 1 g_deeds_in) :
    DefG P w K mg base (k + 1) "deeds_in" 1 (body 1 4 (m_deeds_in g_blocks_of g_deeds_in)) :=
  fn_body A sc_deeds_in fun cdv A outer s H E hh => 
    (d_scons (d_set (i := 1) hh (d_newL d_nil))
    (d_scons (d_for hh (d_iter (d_v 0)) (d_gname (i := 2) hh.nd) (d_scons (d_drop (d_append (d_v 1) (d_v 2)))
    (d_sone (d_for hh (d_iter (d_call hh D_blocks_of rfl (d_cons (d_v 2) d_nil))) (d_gname (i := 3) hh.nd) (d_sone (d_drop (d_extend (d_v 1) (d_call hh D_deeds_in rfl (d_cons (d_v 3) d_nil)))))))))
    (d_sone (d_frz (i := 1) (d_ret (d_v 1))))))
/-! ### names_in -/
abbrev s_names_in : Stmt := topS 6
theorem sc_names_in : FnScope ["expression", "found", "part"] ["expression"] (defScope s_names_in) := ⟨rfl, rfl, rfl, by decide +kernel, rfl, by decide +kernel, by decide +kernel⟩
def m_names_in (g_inner_expressions : List D → Mem → Res D) (g_names_in : List D → Mem → Res D) : MS :=
    (mSeq (mIf (mT (mOp opEq (mOp opIx (mV 0) (mC (.int 0))) (mC (.str "var")))) (mRet (mLst (mCons (mOp opIx (mV 0) (mC (.int 1))) mNil))) mSkip)
    (mSeq (mSet 1 (mNewL mNil))
    (mSeq (mFor (mIter (mCall g_inner_expressions (mCons (mV 0) mNil))) (aName 2) (mDrop (mL1 extD (mV 1) (mCall g_names_in (mCons (mV 2) mNil)))))
    (mSeq (mFrz 1) (mRet (mV 1))))))
set_option maxHeartbeats 2000000 in
theorem ok_names_in {P : Program} {w : World} {K : PySem.W.Frag} {mg : Str → Option Value} {base : Heap} {k : Nat} {f : Addr} {fd : FuncData} (A : DefAt K mg "names_in" s_names_in ["expression"] f fd) {g_inner_expressions : List D → Mem → Res D} (D_inner_expressions : DefG P w K mg base k "inner_expressions" 1 g_inner_expressions) {g_names_in : List D → Mem → Res D} (D_names_in : DefG P w K mg base k "names_in" 1 g_names_in) :
    DefG P w K mg base (k + 1) "names_in" 1 (body 1 3 (m_names_in g_inner_expressions g_names_in)) :=
  fn_body A sc_names_in fun cdv A outer s H E hh => 
    (d_scons (d_if (d_tcmp (o_eq hh.hu) (d_ix hh (d_v 0) d_int) d_str) (d_sone (d_ret (d_lst (d_cons (d_ix hh (d_v 0) d_int) d_nil)))) d_snil)
    (d_scons (d_set (i := 1) hh (d_newL d_nil))
    (d_scons (d_for hh (d_iter (d_call hh D_inner_expressions rfl (d_cons (d_v 0) d_nil))) (d_gname (i := 2) hh.nd) (d_sone (d_drop (d_extend (d_v 1) (d_call hh D_names_in rfl (d_cons (d_v 2) d_nil))))))
    (d_sone (d_frz (i := 1) (d_ret (d_v 1)))))))
/-! ### variables -/
abbrev s_variables : Stmt := topS 7
theorem sc_variables : FnScope ["rule", "found", "deed", "name", "expression"] ["rule"] (defScope s_variables) := ⟨rfl, rfl, rfl, by decide +kernel, rfl, by decide +kernel, by decide +kernel⟩
def m_variables (g_deeds_in : List D → Mem → Res D) (g_targets_of : List D → Mem → Res D) (g_expressions_of : List D → Mem → Res D) (g_names_in : List D → Mem → Res D) : MS :=
    (mSeq (mSet 1 mNewK)
    (mSeq (mFor (mIter (mCall g_deeds_in (mCons (mOp opIx (mV 0) (mC (.int 2))) mNil))) (aName 2) (mSeq (mFor (mIter (mCall g_targets_of (mCons (mV 2) mNil))) (aName 3) (mDPut (mV 1) (mV 3) (mC (.bl true))))
    (mFor (mIter (mCall g_expressions_of (mCons (mV 2) mNil))) (aName 4) (mFor (mIter (mCall g_names_in (mCons (mV 4) mNil))) (aName 3) (mDPut (mV 1) (mV 3) (mC (.bl true)))))))
    (mRet (mOp opAdd (mOp opIx (mV 0) (mC (.int 1))) (mCB opTuple (mCons (mLc [3] (mIter (mCB opSortD (mCons (mV 1) mNil))) (aName 3) (mT (mOp opNotIn (mV 3) (mOp opIx (mV 0) (mC (.int 1))))) (mV 3)) mNil))))))
set_option maxHeartbeats 2000000 in
theorem ok_variables {P : Program} {w : World} {K : PySem.W.Frag} {mg : Str → Option Value} {base : Heap} {k : Nat} {f : Addr} {fd : FuncData} (A : DefAt K mg "variables" s_variables ["rule"] f fd) (B_tuple : mg "tuple" = none) (B_sorted : mg "sorted" = none) {g_deeds_in : List D → Mem → Res D} (D_deeds_in : DefG P w K mg base k "deeds_in" 1 g_deeds_in) {g_targets_of : List D → Mem → Res D} (D_targets_of : DefG P w K mg base k "targets_of" 1 g_targets_of) {g_expressions_of : List D → Mem → Res D} (D_expressions_of : DefG P w K mg base k "expressions_of" 1 g_expressions_of) {g_names_in : List D → Mem → Res D} (D_names_in : DefG P w K mg base k "names_in" 1 g_names_in) :
    DefG P w K mg base (k + 1) "variables" 1 (body 1 5 (m_variables g_deeds_in g_targets_of g_expressions_of g_names_in)) :=
  fn_body A sc_variables fun cdv A outer s H E hh => 
    (d_scons (d_set (i := 1) hh d_newK)
    (d_scons (d_for hh (d_iter (d_call hh D_deeds_in rfl (d_cons (d_ix hh (d_v 0) d_int) d_nil))) (d_gname (i := 2) hh.nd) (d_scons (d_for hh (d_iter (d_call hh D_targets_of rfl (d_cons (d_v 2) d_nil))) (d_gname (i := 3) hh.nd) (d_sone (d_dput hh (d_v 1) (d_v 3) d_bl)))
    (d_sone (d_for hh (d_iter (d_call hh D_expressions_of rfl (d_cons (d_v 2) d_nil))) (d_gname (i := 4) hh.nd) (d_sone (d_for hh (d_iter (d_call hh D_names_in rfl (d_cons (d_v 4) d_nil))) (d_gname (i := 3) hh.nd) (d_sone (d_dput hh (d_v 1) (d_v 3) d_bl))))))))
    (d_sone (d_ret (d_bin o_add (d_ix hh (d_v 0) d_int) (d_ct c_tuple rfl B_tuple boot_tuple (d_cons (d_lc (own := [("name", 3)]) hh (d_iter (d_cb (c_sortD hh) rfl B_sorted boot_sorted (d_cons (d_v 1) d_nil))) (blkOk_by (by rfl)) (fun s H C cl fp hb1 => (d_gname (i := 3) hb1.nd)) (fun s H C cl fp hb1 => (d_if1B (d_tcmp (o_notIn hb1.hu) (d_v 3) (d_ix hb1 (d_v 0) d_int)))) (fun s H C cl fp hb1 => (d_v 3))) d_nil)))))))
/-! ### _law_pen -/
abbrev s__law_pen : Stmt := topS 9
theorem sc__law_pen : FnScope ["_law_script"] ["_law_script"] (defScope s__law_pen) := ⟨rfl, rfl, rfl, by decide +kernel, rfl, by decide +kernel, by decide +kernel⟩
set_option maxHeartbeats 2000000 in
theorem ok__law_pen {P : Program} {w : World} {K : PySem.W.Frag} {mg : Str → Option Value} {base : Heap} {k : Nat} {f : Addr} {fd : FuncData} (A : DefAt K mg "_law_pen" s__law_pen ["_law_script"] f fd) (B_list : mg "list" = none) :
    DefG P w K mg base (k + 1) "_law_pen" 1 (body 1 1 (m__law_pen)) :=
  fn_body A sc__law_pen fun cdv A outer s H E hh => 
    (d_sone (d_ret (d_newD (d_pc d_str (d_ct c_list rfl B_list boot_list (d_cons (d_sl (d_v 0) d_poN (d_po d_int)) d_nil)) (d_pc d_str d_int (d_pc d_str d_int d_pn))))))
/-! ### _law_draw -/
abbrev s__law_draw : Stmt := topS 10
theorem sc__law_draw : FnScope ["_law_pen_here", "_law_many", "_law_digit", "_law_cells", "_law_at", "_law_cell", "_law_number"] ["_law_pen_here", "_law_many"] (defScope s__law_draw) := ⟨rfl, rfl, rfl, by decide +kernel, rfl, by decide +kernel, by decide +kernel⟩
set_option maxHeartbeats 2000000 in
theorem ok__law_draw {P : Program} {w : World} {K : PySem.W.Frag} {mg : Str → Option Value} {base : Heap} {k : Nat} {f : Addr} {fd : FuncData} (A : DefAt K mg "_law_draw" s__law_draw ["_law_pen_here", "_law_many"] f fd) (B_len : mg "len" = none) (B_abs : mg "abs" = none) :
    DefG P w K mg base (k + 1) "_law_draw" 2 (body 2 7 (m__law_draw)) :=
  fn_body A sc__law_draw fun cdv A outer s H E hh => 
    (d_scons (d_if (d_tcmp o_gt (d_ix hh (d_v 0) d_str) d_int) (d_scons (d_set (i := 2) hh (d_bin o_mod (d_ix hh (d_v 0) d_str) (d_v 1)))
    (d_scons (d_dput hh (d_v 0) d_str (d_bin o_div (d_ix hh (d_v 0) d_str) (d_v 1)))
    (d_sone (d_ret (d_v 2))))) d_snil)
    (d_scons (d_set (i := 3) hh (d_ix hh (d_v 0) d_str))
    (d_scons (d_set (i := 4) hh (d_ix hh (d_v 0) d_str))
    (d_scons (d_dput hh (d_v 0) d_str (d_bin o_add (d_v 4) d_int))
    (d_scons (d_set (i := 5) hh (d_bin o_add (d_bin o_mul d_int (d_v 4)) d_int))
    (d_scons (d_if (d_tcmp (o_ne hh.hu) (d_v 3) (d_lst d_nil)) (d_sone (d_set (i := 5) hh (d_ix hh (d_v 3) (d_bin o_mod (d_v 4) (d_cb c_len rfl B_len PySem.boot_len (d_cons (d_v 3) d_nil)))))) d_snil)
    (d_scons (d_if (d_pw (d_wand (d_tcmp o_lt (d_v 4) (d_cb c_len rfl B_len PySem.boot_len (d_cons (d_v 3) d_nil))) (d_wand1 (d_tcmp o_ge (d_cb c_abs rfl B_abs boot_abs (d_cons (d_v 5) d_nil)) (d_bin o_pow d_int d_int))))) (d_scons (d_dput hh (d_v 0) d_str (d_bin o_div (d_cb c_abs rfl B_abs boot_abs (d_cons (d_v 5) d_nil)) (d_v 1)))
    (d_sone (d_ret (d_bin o_mod (d_cb c_abs rfl B_abs boot_abs (d_cons (d_v 5) d_nil)) (d_v 1))))) d_snil)
    (d_scons (d_set (i := 6) hh (d_bin o_mod (d_bin o_pow (d_bin o_add (d_bin o_add (d_bin o_mod (d_v 5) d_int) (d_bin o_mul d_int (d_v 4))) d_int) d_int) d_int))
    (d_scons (d_set (i := 6) hh (d_bin o_mod (d_bin o_pow (d_bin o_add (d_bin o_mul (d_v 6) (d_bin o_add (d_bin o_mul d_int (d_v 4)) d_int)) d_int) d_int) d_int))
    (d_sone (d_ret (d_bin o_mod (d_bin o_div (d_v 6) d_int) (d_v 1)))))))))))))
/-! ### _law_letters -/
abbrev s__law_letters : Stmt := topS 11
theorem sc__law_letters : FnScope ["_law_pen_here", "_law_size", "_law_k"] ["_law_pen_here", "_law_size"] (defScope s__law_letters) := ⟨rfl, rfl, rfl, by decide +kernel, rfl, by decide +kernel, by decide +kernel⟩
set_option maxHeartbeats 2000000 in
theorem ok__law_letters {P : Program} {w : World} {K : PySem.W.Frag} {mg : Str → Option Value} {base : Heap} {k : Nat} {f : Addr} {fd : FuncData} (A : DefAt K mg "_law_letters" s__law_letters ["_law_pen_here", "_law_size"] f fd) (B_range : mg "range" = none) {g__law_draw : List D → Mem → Res D} (D__law_draw : DefG P w K mg base k "_law_draw" 2 g__law_draw) :
    DefG P w K mg base (k + 1) "_law_letters" 2 (body 2 3 (m__law_letters g__law_draw)) :=
  fn_body A sc__law_letters fun cdv A outer s H E hh => 
    (d_sone (d_ret (d_m_join1 hh d_str (d_lc (own := [("_law_k", 2)]) hh (d_range1 rfl B_range (d_cons (d_v 1) d_nil)) (blkOk_by (by rfl)) (fun s H C cl fp hb1 => (d_gname (i := 2) hb1.nd)) (fun s H C cl fp hb1 => d_if0) (fun s H C cl fp hb1 => (d_ix hb1 d_str (d_call hb1 D__law_draw rfl (d_cons (d_v 0) (d_cons d_int d_nil)))))))))
/-! ### _law_fresh -/
abbrev s__law_fresh : Stmt := topS 12
theorem sc__law_fresh : FnScope ["_law_pen_here", "_law_taken", "_law_shut", "_law_some", "_law_word_here"] ["_law_pen_here", "_law_taken"] (defScope s__law_fresh) := ⟨rfl, rfl, rfl, by decide +kernel, rfl, by decide +kernel, by decide +kernel⟩
set_option maxHeartbeats 2000000 in
theorem ok__law_fresh {P : Program} {w : World} {K : PySem.W.Frag} {mg : Str → Option Value} {base : Heap} {k : Nat} {f : Addr} {fd : FuncData} (A : DefAt K mg "_law_fresh" s__law_fresh ["_law_pen_here", "_law_taken"] f fd) (B_len : mg "len" = none) {g__law_draw : List D → Mem → Res D} (D__law_draw : DefG P w K mg base k "_law_draw" 2 g__law_draw) {g__law_letters : List D → Mem → Res D} (D__law_letters : DefG P w K mg base k "_law_letters" 2 g__law_letters) :
    DefG P w K mg base (k + 1) "_law_fresh" 2 (body 2 5 (m__law_fresh g__law_draw g__law_letters)) :=
  fn_body A sc__law_fresh fun cdv A outer s H E hh => 
    (d_scons (d_set (i := 2) hh d_str)
    (d_scons (d_set (i := 3) hh (d_lst (d_cons d_str (d_cons d_str (d_cons d_str (d_cons d_str (d_cons d_str (d_cons d_str (d_cons d_str (d_cons d_str d_nil))))))))))
    (d_scons (d_set (i := 4) hh (d_ix hh (d_lst (d_cons (d_call hh D__law_letters rfl (d_cons (d_v 0) (d_cons (d_bin o_add d_int (d_call hh D__law_draw rfl (d_cons (d_v 0) (d_cons d_int d_nil)))) d_nil))) (d_cons (d_ix hh (d_v 3) (d_call hh D__law_draw rfl (d_cons (d_v 0) (d_cons d_int d_nil)))) d_nil))) (d_call hh D__law_draw rfl (d_cons (d_v 0) (d_cons d_int d_nil)))))
    (d_scons (d_if (d_pw (d_wor (d_tcmp (o_in hh.hu) (d_v 4) (d_v 1)) (d_wor (d_tcmp (o_in hh.hu) (d_v 4) (d_m_split1 hh (d_v 2) d_str)) (d_wor1 (d_tcmp (o_eq hh.hu) (d_call hh D__law_draw rfl (d_cons (d_v 0) (d_cons d_int d_nil))) d_int))))) (d_sone (d_ret (d_bin o_add d_str (d_ix hh d_str (d_cb c_len rfl B_len PySem.boot_len (d_cons (d_v 1) d_nil)))))) d_snil)
    (d_sone (d_ret (d_v 4)))))))
/-! ### _law_names -/
abbrev s__law_names : Stmt := topS 13
theorem sc__law_names : FnScope ["_law_pen_here", "_law_many", "_law_found", "_law_k"] ["_law_pen_here", "_law_many"] (defScope s__law_names) := ⟨rfl, rfl, rfl, by decide +kernel, rfl, by decide +kernel, by decide +kernel⟩
set_option maxHeartbeats 2000000 in
theorem ok__law_names {P : Program} {w : World} {K : PySem.W.Frag} {mg : Str → Option Value} {base : Heap} {k : Nat} {f : Addr} {fd : FuncData} (A : DefAt K mg "_law_names" s__law_names ["_law_pen_here", "_law_many"] f fd) (B_range : mg "range" = none) {g__law_fresh : List D → Mem → Res D} (D__law_fresh : DefG P w K mg base k "_law_fresh" 2 g__law_fresh) :
    DefG P w K mg base (k + 1) "_law_names" 2 (body 2 4 (m__law_names g__law_fresh)) :=
  fn_body A sc__law_names fun cdv A outer s H E hh => 
    (d_scons (d_set (i := 2) hh (d_newL d_nil))
    (d_scons (d_for hh (d_range1 rfl B_range (d_cons (d_v 1) d_nil)) (d_gname (i := 3) hh.nd) (d_sone (d_drop (d_append (d_v 2) (d_call hh D__law_fresh rfl (d_cons (d_v 0) (d_cons (d_v 2) d_nil)))))))
    (d_sone (d_frz (i := 2) (d_ret (d_v 2))))))
/-! ### _law_word -/
abbrev s__law_word : Stmt := topS 14
theorem sc__law_word : FnScope ["_law_pen_here", "_law_some", "_law_word_here"] ["_law_pen_here"] (defScope s__law_word) := ⟨rfl, rfl, rfl, by decide +kernel, rfl, by decide +kernel, by decide +kernel⟩
set_option maxHeartbeats 2000000 in
theorem ok__law_word {P : Program} {w : World} {K : PySem.W.Frag} {mg : Str → Option Value} {base : Heap} {k : Nat} {f : Addr} {fd : FuncData} (A : DefAt K mg "_law_word" s__law_word ["_law_pen_here"] f fd) (B_int : mg "int" = none) {g__law_letters : List D → Mem → Res D} (D__law_letters : DefG P w K mg base k "_law_letters" 2 g__law_letters) {g__law_draw : List D → Mem → Res D} (D__law_draw : DefG P w K mg base k "_law_draw" 2 g__law_draw) :
    DefG P w K mg base (k + 1) "_law_word" 1 (body 1 3 (m__law_word g__law_letters g__law_draw)) :=
  fn_body A sc__law_word fun cdv A outer s H E hh => 
    (d_scons (d_set (i := 1) hh (d_lst (d_cons d_str (d_cons d_str (d_cons d_str (d_cons d_str (d_cons d_str (d_cons d_str (d_cons d_str (d_cons d_str d_nil))))))))))
    (d_scons (d_set (i := 2) hh (d_ix hh (d_lst (d_cons (d_ix hh (d_v 1) (d_call hh D__law_draw rfl (d_cons (d_v 0) (d_cons d_int d_nil)))) (d_cons (d_call hh D__law_letters rfl (d_cons (d_v 0) (d_cons (d_bin o_add d_int (d_call hh D__law_draw rfl (d_cons (d_v 0) (d_cons d_int d_nil)))) d_nil))) d_nil))) (d_call hh D__law_draw rfl (d_cons (d_v 0) (d_cons d_int d_nil)))))
    (d_sone (d_ret (d_ix hh (d_lst (d_cons (d_v 2) (d_cons d_str d_nil))) (d_ct c_int rfl B_int boot_int (d_cons (d_cmp (o_eq hh.hu) (d_v 2) d_str) d_nil)))))))
/-! ### _law_leaf -/
abbrev s__law_leaf : Stmt := topS 15
theorem sc__law_leaf : FnScope ["_law_pen_here", "_law_env", "_law_way", "_law_bare", "_law_some", "_law_name", "_law_params"] ["_law_pen_here", "_law_env"] (defScope s__law_leaf) := ⟨rfl, rfl, rfl, by decide +kernel, rfl, by decide +kernel, by decide +kernel⟩
set_option maxHeartbeats 2000000 in
theorem ok__law_leaf {P : Program} {w : World} {K : PySem.W.Frag} {mg : Str → Option Value} {base : Heap} {k : Nat} {f : Addr} {fd : FuncData} (A : DefAt K mg "_law_leaf" s__law_leaf ["_law_pen_here", "_law_env"] f fd) (B_len : mg "len" = none) {g__law_draw : List D → Mem → Res D} (D__law_draw : DefG P w K mg base k "_law_draw" 2 g__law_draw) :
    DefG P w K mg base (k + 1) "_law_leaf" 2 (body 2 7 (m__law_leaf g__law_draw)) :=
  fn_body A sc__law_leaf fun cdv A outer s H E hh => 
    (d_scons (d_set (i := 2) hh (d_call hh D__law_draw rfl (d_cons (d_v 0) (d_cons d_int d_nil))))
    (d_scons (d_setLc (i := 3) (own := [("_law_name", 5), ("_law_params", 6)]) hh (d_iter (d_ix hh (d_v 1) d_str)) (blkOk_by (by rfl)) (fun s H C cl fp hb1 => (d_gtupB hb1.calm (d_gcons (d_gname (i := 5) hb1.nd) (d_gcons (d_gname (i := 6) hb1.nd) d_gnil)))) (fun s H C cl fp hb1 => (d_if1B (d_tcmp (o_eq hb1.hu) (d_v 6) (d_tup d_nil)))) (fun s H C cl fp hb1 => (d_v 5)))
    (d_scons (d_if (d_tcmp (o_eq hh.hu) (d_v 2) d_int) (d_sone (d_ret (d_tup (d_cons d_str d_nil)))) d_snil)
    (d_scons (d_if (d_pw (d_wand (d_tcmp (o_eq hh.hu) (d_v 2) d_int) (d_wand1 (d_tcmp (o_ne hh.hu) (d_v 3) (d_lst d_nil))))) (d_sone (d_ret (d_tup (d_cons d_str (d_cons (d_ix hh (d_v 3) (d_call hh D__law_draw rfl (d_cons (d_v 0) (d_cons (d_cb c_len rfl B_len PySem.boot_len (d_cons (d_v 3) d_nil)) d_nil)))) (d_cons (d_tup d_nil) d_nil)))))) d_snil)
    (d_scons (d_if (d_tcmp o_lt (d_v 2) d_int) (d_scons (d_set (i := 4) hh (d_lst (d_cons (d_call hh D__law_draw rfl (d_cons (d_v 0) (d_cons d_int d_nil))) (d_cons (d_bin o_sub (d_call hh D__law_draw rfl (d_cons (d_v 0) (d_cons d_int d_nil))) d_int) (d_cons (d_bin o_sub (d_bin o_pow d_int d_int) d_int) (d_cons (d_bin o_add (d_un u_neg (d_bin o_pow d_int d_int)) d_int) (d_cons (d_call hh D__law_draw rfl (d_cons (d_v 0) (d_cons (d_bin o_pow d_int d_int) d_nil))) d_nil)))))))
    (d_sone (d_ret (d_tup (d_cons d_str (d_cons (d_ix hh (d_v 4) (d_call hh D__law_draw rfl (d_cons (d_v 0) (d_cons d_int d_nil)))) d_nil)))))) d_snil)
    (d_sone (d_ret (d_tup (d_cons d_str (d_cons (d_ix hh (d_ix hh (d_v 1) d_str) (d_call hh D__law_draw rfl (d_cons (d_v 0) (d_cons (d_cb c_len rfl B_len PySem.boot_len (d_cons (d_ix hh (d_v 1) d_str) d_nil)) d_nil)))) d_nil))))))))))
/-! ### _law_expression -/
abbrev s__law_expression : Stmt := topS 16
theorem sc__law_expression : FnScope ["_law_pen_here", "_law_env", "_law_room", "_law_deep", "_law_way", "_law_own", "_law_a", "_law_name", "_law_params", "_law_left", "_law_args", "_law_k"] ["_law_pen_here", "_law_env", "_law_room", "_law_deep"] (defScope s__law_expression) := ⟨rfl, rfl, rfl, by decide +kernel, rfl, by decide +kernel, by decide +kernel⟩
set_option maxHeartbeats 2000000 in
theorem ok__law_expression {P : Program} {w : World} {K : PySem.W.Frag} {mg : Str → Option Value} {base : Heap} {k : Nat} {f : Addr} {fd : FuncData} (A : DefAt K mg "_law_expression" s__law_expression ["_law_pen_here", "_law_env", "_law_room", "_law_deep"] f fd) (B_len : mg "len" = none) (B_range : mg "range" = none) (B_tuple : mg "tuple" = none) {g__law_draw : List D → Mem → Res D} (D__law_draw : DefG P w K mg base k "_law_draw" 2 g__law_draw) {g__law_leaf : List D → Mem → Res D} (D__law_leaf : DefG P w K mg base k "_law_leaf" 2 g__law_leaf) {g__law_expression : List D → Mem → Res D} (D__law_expression : DefG P w K mg base k "_law_expression" 4 g__law_expression) :
    DefG P w K mg base (k + 1) "_law_expression" 4 (body 4 12 (m__law_expression g__law_draw g__law_leaf g__law_expression)) :=
  fn_body A sc__law_expression fun cdv A outer s H E hh => 
    (d_scons (d_set (i := 4) hh (d_call hh D__law_draw rfl (d_cons (d_v 0) (d_cons d_int d_nil))))
    (d_scons (d_if (d_pw (d_wor (d_tcmp o_lt (d_v 2) d_int) (d_wor (d_tcmp o_lt (d_v 3) d_int) (d_wor1 (d_tcmp o_lt (d_v 4) d_int))))) (d_sone (d_ret (d_call hh D__law_leaf rfl (d_cons (d_v 0) (d_cons (d_v 1) d_nil))))) d_snil)
    (d_scons (d_if (d_tcmp o_lt (d_v 4) d_int) (d_scons (d_set (i := 5) hh (d_bin o_add d_int (d_call hh D__law_draw rfl (d_cons (d_v 0) (d_cons (d_bin o_sub (d_v 2) d_int) d_nil)))))
    (d_scons (d_set (i := 6) hh (d_call hh D__law_expression rfl (d_cons (d_v 0) (d_cons (d_v 1) (d_cons (d_v 5) (d_cons (d_bin o_sub (d_v 3) d_int) d_nil))))))
    (d_sone (d_ret (d_tup (d_cons d_str (d_cons (d_ix hh d_str (d_call hh D__law_draw rfl (d_cons (d_v 0) (d_cons d_int d_nil)))) (d_cons (d_v 6) (d_cons (d_call hh D__law_expression rfl (d_cons (d_v 0) (d_cons (d_v 1) (d_cons (d_bin o_sub (d_bin o_sub (d_v 2) d_int) (d_v 5)) (d_cons (d_bin o_sub (d_v 3) d_int) d_nil))))) d_nil))))))))) d_snil)
    (d_scons (d_asg (d_gtup hh.calm (d_gcons (d_gname (i := 7) hh.nd) (d_gcons (d_gname (i := 8) hh.nd) d_gnil))) (d_ix hh (d_ix hh (d_v 1) d_str) (d_call hh D__law_draw rfl (d_cons (d_v 0) (d_cons (d_cb c_len rfl B_len PySem.boot_len (d_cons (d_ix hh (d_v 1) d_str) d_nil)) d_nil)))))
    (d_scons (d_set (i := 9) hh (d_bin o_sub (d_v 2) d_int))
    (d_scons (d_if (d_tcmp o_gt (d_cb c_len rfl B_len PySem.boot_len (d_cons (d_v 8) d_nil)) (d_v 9)) (d_sone (d_ret (d_call hh D__law_leaf rfl (d_cons (d_v 0) (d_cons (d_v 1) d_nil))))) d_snil)
    (d_scons (d_set (i := 10) hh (d_newL d_nil))
    (d_scons (d_for hh (d_range1 rfl B_range (d_cons (d_cb c_len rfl B_len PySem.boot_len (d_cons (d_v 8) d_nil)) d_nil)) (d_gname (i := 11) hh.nd) (d_scons (d_set (i := 5) hh (d_bin o_add d_int (d_call hh D__law_draw rfl (d_cons (d_v 0) (d_cons (d_bin o_add (d_bin o_sub (d_v 9) (d_bin o_sub (d_cb c_len rfl B_len PySem.boot_len (d_cons (d_v 8) d_nil)) (d_v 11))) d_int) d_nil)))))
    (d_scons (d_drop (d_append (d_v 10) (d_call hh D__law_expression rfl (d_cons (d_v 0) (d_cons (d_v 1) (d_cons (d_v 5) (d_cons (d_bin o_sub (d_v 3) d_int) d_nil)))))))
    (d_sone (d_set (i := 9) hh (d_bin o_sub (d_v 9) (d_v 5)))))))
    (d_sone (d_ret (d_tup (d_cons d_str (d_cons (d_v 7) (d_cons (d_ct c_tuple rfl B_tuple boot_tuple (d_cons (d_v 10) d_nil)) d_nil))))))))))))))
/-! ### _law_simple -/
abbrev s__law_simple : Stmt := topS 17
theorem sc__law_simple : FnScope ["_law_pen_here", "_law_env", "_law_in_while", "_law_way", "_law_x", "_law_y", "_law_e", "_law_k"] ["_law_pen_here", "_law_env", "_law_in_while"] (defScope s__law_simple) := ⟨rfl, rfl, rfl, by decide +kernel, rfl, by decide +kernel, by decide +kernel⟩
set_option maxHeartbeats 2000000 in
theorem ok__law_simple {P : Program} {w : World} {K : PySem.W.Frag} {mg : Str → Option Value} {base : Heap} {k : Nat} {f : Addr} {fd : FuncData} (A : DefAt K mg "_law_simple" s__law_simple ["_law_pen_here", "_law_env", "_law_in_while"] f fd) (B_int : mg "int" = none) (B_range : mg "range" = none) (B_len : mg "len" = none) {g__law_draw : List D → Mem → Res D} (D__law_draw : DefG P w K mg base k "_law_draw" 2 g__law_draw) {g__law_expression : List D → Mem → Res D} (D__law_expression : DefG P w K mg base k "_law_expression" 4 g__law_expression) {g__law_word : List D → Mem → Res D} (D__law_word : DefG P w K mg base k "_law_word" 1 g__law_word) :
    DefG P w K mg base (k + 1) "_law_simple" 3 (body 3 8 (m__law_simple g__law_draw g__law_expression g__law_word)) :=
  fn_body A sc__law_simple fun cdv A outer s H E hh => 
    (d_scons (d_set (i := 3) hh (d_call hh D__law_draw rfl (d_cons (d_v 0) (d_cons (d_bin o_add d_int (d_ct c_int rfl B_int boot_int (d_cons (d_v 2) d_nil))) d_nil))))
    (d_scons (d_asg (d_glst hh.calm (d_gcons (d_gname (i := 4) hh.nd) (d_gcons (d_gname (i := 5) hh.nd) d_gnil))) (d_lc (own := [("_law_k", 7)]) hh (d_range1 rfl B_range (d_cons d_int d_nil)) (blkOk_by (by rfl)) (fun s H C cl fp hb1 => (d_gname (i := 7) hb1.nd)) (fun s H C cl fp hb1 => d_if0) (fun s H C cl fp hb1 => (d_ix hb1 (d_ix hb1 (d_v 1) d_str) (d_call hb1 D__law_draw rfl (d_cons (d_v 0) (d_cons (d_cb c_len rfl B_len PySem.boot_len (d_cons (d_ix hb1 (d_v 1) d_str) d_nil)) d_nil)))))))
    (d_scons (d_set (i := 6) hh (d_call hh D__law_expression rfl (d_cons (d_v 0) (d_cons (d_v 1) (d_cons d_int (d_cons d_int d_nil))))))
    (d_scons (d_if (d_tcmp o_lt (d_v 3) d_int) (d_sone (d_ret (d_tup (d_cons (d_ix hh (d_lst (d_cons d_str (d_cons d_str (d_cons d_str d_nil)))) (d_v 3)) (d_cons (d_v 4) (d_cons (d_v 6) d_nil)))))) d_snil)
    (d_scons (d_if (d_tcmp o_lt (d_v 3) d_int) (d_sone (d_ret (d_tup (d_cons (d_ix hh (d_lst (d_cons d_str (d_cons d_str (d_cons d_str d_nil)))) (d_bin o_sub (d_v 3) d_int)) (d_cons (d_v 6) d_nil))))) d_snil)
    (d_scons (d_if (d_tcmp (o_eq hh.hu) (d_v 3) d_int) (d_sone (d_ret (d_tup (d_cons d_str (d_cons (d_v 4) (d_cons (d_v 5) (d_cons (d_call hh D__law_expression rfl (d_cons (d_v 0) (d_cons (d_v 1) (d_cons d_int (d_cons d_int d_nil))))) (d_cons (d_v 6) d_nil)))))))) d_snil)
    (d_scons (d_if (d_tcmp (o_eq hh.hu) (d_v 3) d_int) (d_sone (d_ret (d_tup (d_cons d_str (d_cons (d_v 4) (d_cons (d_v 5) (d_cons (d_call hh D__law_expression rfl (d_cons (d_v 0) (d_cons (d_v 1) (d_cons d_int (d_cons d_int d_nil))))) (d_cons (d_call hh D__law_word rfl (d_cons (d_v 0) d_nil)) (d_cons (d_v 6) d_nil))))))))) d_snil)
    (d_scons (d_if (d_tcmp (o_eq hh.hu) (d_v 3) d_int) (d_sone (d_ret (d_tup (d_cons d_str d_nil)))) d_snil)
    (d_sone (d_ret (d_ix hh (d_lst (d_cons (d_tup (d_cons d_str (d_cons (d_call hh D__law_word rfl (d_cons (d_v 0) d_nil)) (d_cons (d_v 6) d_nil)))) (d_cons (d_tup (d_cons d_str (d_cons (d_v 4) (d_cons (d_v 6) d_nil)))) d_nil))) (d_bin o_sub (d_v 3) d_int))))))))))))
/-! ### _law_inner -/
abbrev s__law_inner : Stmt := topS 18
theorem sc__law_inner : FnScope ["_law_deed_here", "_law_caught"] ["_law_deed_here"] (defScope s__law_inner) := ⟨rfl, rfl, rfl, by decide +kernel, rfl, by decide +kernel, by decide +kernel⟩
set_option maxHeartbeats 2000000 in
theorem ok__law_inner {P : Program} {w : World} {K : PySem.W.Frag} {mg : Str → Option Value} {base : Heap} {k : Nat} {f : Addr} {fd : FuncData} (A : DefAt K mg "_law_inner" s__law_inner ["_law_deed_here"] f fd) :
    DefG P w K mg base (k + 1) "_law_inner" 1 (body 1 2 (m__law_inner)) :=
  fn_body A sc__law_inner fun cdv A outer s H E hh => 
    (d_scons (d_if (d_tcmp (o_eq hh.hu) (d_ix hh (d_v 0) d_int) d_str) (d_sone (d_ret (d_lst (d_cons (d_ix hh (d_v 0) d_int) (d_cons (d_ix hh (d_v 0) d_int) d_nil))))) d_snil)
    (d_scons (d_if (d_tcmp (o_eq hh.hu) (d_ix hh (d_v 0) d_int) d_str) (d_sone (d_ret (d_lst (d_cons (d_ix hh (d_v 0) d_int) d_nil)))) d_snil)
    (d_scons (d_if (d_tcmp (o_eq hh.hu) (d_ix hh (d_v 0) d_int) d_str) (d_sone (d_ret (d_bin o_add (d_bin o_add (d_lst (d_cons (d_ix hh (d_v 0) d_int) d_nil)) (d_lc (own := [("_law_caught", 1)]) hh (d_iter (d_ix hh (d_v 0) d_int)) (blkOk_by (by rfl)) (fun s H C cl fp hb1 => (d_gname (i := 1) hb1.nd)) (fun s H C cl fp hb1 => d_if0) (fun s H C cl fp hb1 => (d_ix hb1 (d_v 1) d_int)))) (d_lst (d_cons (d_ix hh (d_v 0) d_int) d_nil))))) d_snil)
    (d_sone (d_ret (d_lst d_nil))))))
/-! ### _law_count -/
abbrev s__law_count : Stmt := topS 19
theorem sc__law_count : FnScope ["_law_block_here", "_law_deed_here", "_law_inner_here"] ["_law_block_here"] (defScope s__law_count) := ⟨rfl, rfl, rfl, by decide +kernel, rfl, by decide +kernel, by decide +kernel⟩
set_option maxHeartbeats 2000000 in
theorem ok__law_count {P : Program} {w : World} {K : PySem.W.Frag} {mg : Str → Option Value} {base : Heap} {k : Nat} {f : Addr} {fd : FuncData} (A : DefAt K mg "_law_count" s__law_count ["_law_block_here"] f fd) (B_sum : mg "sum" = none) {g__law_inner : List D → Mem → Res D} (D__law_inner : DefG P w K mg base k "_law_inner" 1 g__law_inner) {g__law_count : List D → Mem → Res D} (D__law_count : DefG P w K mg base k "_law_count" 1 g__law_count) :
    DefG P w K mg base (k + 1) "_law_count" 1 (body 1 3 (m__law_count g__law_inner g__law_count)) :=
  fn_body A sc__law_count fun cdv A outer s H E hh => 
    (d_sone (d_ret (d_cb (c_sum hh) rfl B_sum boot_sum (d_cons (d_lc (own := [("_law_deed_here", 1)]) hh (d_iter (d_v 0)) (blkOk_by (by rfl)) (fun s H C cl fp hb1 => (d_gname (i := 1) hb1.nd)) (fun s H C cl fp hb1 => d_if0) (fun s H C cl fp hb1 => (d_bin o_add d_int (d_cb (c_sum hb1) rfl B_sum boot_sum (d_cons (d_lc (own := [("_law_inner_here", 2)]) hb1 (d_iter (d_call hb1 D__law_inner rfl (d_cons (d_v 1) d_nil))) (blkOk_by (by rfl)) (fun s H C cl fp hb2 => (d_gname (i := 2) hb2.nd)) (fun s H C cl fp hb2 => d_if0) (fun s H C cl fp hb2 => (d_call hb2 D__law_count rfl (d_cons (d_v 2) d_nil)))) d_nil))))) d_nil))))
/-! ### _law_try -/
abbrev s__law_try : Stmt := topS 20
theorem sc__law_try : FnScope ["_law_pen_here", "_law_env", "_law_deep", "_law_in_while", "_law_left", "_law_one", "_law_body", "_law_rest", "_law_many", "_law_catches", "_law_k", "_law_own", "_law_word_here", "_law_x", "_law_lasts"] ["_law_pen_here", "_law_env", "_law_deep", "_law_in_while", "_law_left"] (defScope s__law_try) := ⟨rfl, rfl, rfl, by decide +kernel, rfl, by decide +kernel, by decide +kernel⟩
set_option maxHeartbeats 2000000 in
theorem ok__law_try {P : Program} {w : World} {K : PySem.W.Frag} {mg : Str → Option Value} {base : Heap} {k : Nat} {f : Addr} {fd : FuncData} (A : DefAt K mg "_law_try" s__law_try ["_law_pen_here", "_law_env", "_law_deep", "_law_in_while", "_law_left"] f fd) (B_min : mg "min" = none) (B_range : mg "range" = none) (B_len : mg "len" = none) (B_tuple : mg "tuple" = none) {g__law_draw : List D → Mem → Res D} (D__law_draw : DefG P w K mg base k "_law_draw" 2 g__law_draw) {g__law_block : List D → Mem → Res D} (D__law_block : DefG P w K mg base k "_law_block" 5 g__law_block) {g__law_word : List D → Mem → Res D} (D__law_word : DefG P w K mg base k "_law_word" 1 g__law_word) :
    DefG P w K mg base (k + 1) "_law_try" 5 (body 5 15 (m__law_try g__law_draw g__law_block g__law_word)) :=
  fn_body A sc__law_try fun cdv A outer s H E hh => 
    (d_scons (d_set (i := 5) hh (d_bin o_add d_int (d_call hh D__law_draw rfl (d_cons (d_v 0) (d_cons (d_bin o_sub (d_v 4) d_int) d_nil)))))
    (d_scons (d_set (i := 6) hh (d_call hh D__law_block rfl (d_cons (d_v 0) (d_cons (d_v 1) (d_cons (d_bin o_add (d_v 2) d_int) (d_cons (d_v 3) (d_cons (d_v 5) d_nil)))))))
    (d_scons (d_set (i := 7) hh (d_bin o_sub (d_bin o_sub (d_v 4) d_int) (d_v 5)))
    (d_scons (d_set (i := 8) hh (d_cb (c_min hh) rfl B_min boot_min (d_cons (d_call hh D__law_draw rfl (d_cons (d_v 0) (d_cons d_int d_nil))) (d_cons (d_bin o_sub (d_v 7) d_int) d_nil))))
    (d_scons (d_set (i := 9) hh (d_newL d_nil))
    (d_scons (d_for hh (d_range1 rfl B_range (d_cons (d_v 8) d_nil)) (d_gname (i := 10) hh.nd) (d_scons (d_set (i := 11) hh (d_bin o_add d_int (d_call hh D__law_draw rfl (d_cons (d_v 0) (d_cons (d_bin o_sub (d_v 7) (d_bin o_sub (d_v 8) (d_v 10))) d_nil)))))
    (d_scons (d_set (i := 12) hh (d_ix hh (d_lst (d_cons (d_call hh D__law_word rfl (d_cons (d_v 0) d_nil)) (d_cons d_str d_nil))) (d_call hh D__law_draw rfl (d_cons (d_v 0) (d_cons d_int d_nil)))))
    (d_scons (d_set (i := 13) hh (d_ix hh (d_ix hh (d_v 1) d_str) (d_call hh D__law_draw rfl (d_cons (d_v 0) (d_cons (d_cb c_len rfl B_len PySem.boot_len (d_cons (d_ix hh (d_v 1) d_str) d_nil)) d_nil)))))
    (d_scons (d_drop (d_append (d_v 9) (d_tup (d_cons (d_v 12) (d_cons (d_v 13) (d_cons (d_call hh D__law_block rfl (d_cons (d_v 0) (d_cons (d_v 1) (d_cons (d_bin o_add (d_v 2) d_int) (d_cons (d_v 3) (d_cons (d_v 11) d_nil)))))) d_nil))))))
    (d_sone (d_set (i := 7) hh (d_bin o_sub (d_v 7) (d_v 11)))))))))
    (d_scons (d_set (i := 14) hh (d_tup d_nil))
    (d_scons (d_if (d_pw (d_wor (d_tcmp (o_eq hh.hu) (d_v 8) d_int) (d_wor1 (d_tcmp (o_eq hh.hu) (d_call hh D__law_draw rfl (d_cons (d_v 0) (d_cons d_int d_nil))) d_int)))) (d_sone (d_set (i := 14) hh (d_call hh D__law_block rfl (d_cons (d_v 0) (d_cons (d_v 1) (d_cons (d_bin o_add (d_v 2) d_int) (d_cons (d_v 3) (d_cons (d_bin o_add d_int (d_call hh D__law_draw rfl (d_cons (d_v 0) (d_cons (d_v 7) d_nil)))) d_nil)))))))) d_snil)
    (d_sone (d_ret (d_tup (d_cons d_str (d_cons (d_v 6) (d_cons (d_ct c_tuple rfl B_tuple boot_tuple (d_cons (d_v 9) d_nil)) (d_cons (d_v 14) d_nil)))))))))))))))
/-! ### _law_deed -/
abbrev s__law_deed : Stmt := topS 21
theorem sc__law_deed : FnScope ["_law_pen_here", "_law_env", "_law_deep", "_law_in_while", "_law_left", "_law_way", "_law_e", "_law_one", "_law_block_here", "_law_elses"] ["_law_pen_here", "_law_env", "_law_deep", "_law_in_while", "_law_left"] (defScope s__law_deed) := ⟨rfl, rfl, rfl, by decide +kernel, rfl, by decide +kernel, by decide +kernel⟩
set_option maxHeartbeats 2000000 in
theorem ok__law_deed {P : Program} {w : World} {K : PySem.W.Frag} {mg : Str → Option Value} {base : Heap} {k : Nat} {f : Addr} {fd : FuncData} (A : DefAt K mg "_law_deed" s__law_deed ["_law_pen_here", "_law_env", "_law_deep", "_law_in_while", "_law_left"] f fd) {g__law_draw : List D → Mem → Res D} (D__law_draw : DefG P w K mg base k "_law_draw" 2 g__law_draw) {g__law_simple : List D → Mem → Res D} (D__law_simple : DefG P w K mg base k "_law_simple" 3 g__law_simple) {g__law_try : List D → Mem → Res D} (D__law_try : DefG P w K mg base k "_law_try" 5 g__law_try) {g__law_expression : List D → Mem → Res D} (D__law_expression : DefG P w K mg base k "_law_expression" 4 g__law_expression) {g__law_block : List D → Mem → Res D} (D__law_block : DefG P w K mg base k "_law_block" 5 g__law_block) :
    DefG P w K mg base (k + 1) "_law_deed" 5 (body 5 10 (m__law_deed g__law_draw g__law_simple g__law_try g__law_expression g__law_block)) :=
  fn_body A sc__law_deed fun cdv A outer s H E hh => 
    (d_scons (d_set (i := 5) hh (d_call hh D__law_draw rfl (d_cons (d_v 0) (d_cons d_int d_nil))))
    (d_scons (d_if (d_pw (d_wor (d_tcmp o_ge (d_v 2) d_int) (d_wor (d_tcmp o_lt (d_v 4) d_int) (d_wor1 (d_tcmp o_lt (d_v 5) d_int))))) (d_sone (d_ret (d_call hh D__law_simple rfl (d_cons (d_v 0) (d_cons (d_v 1) (d_cons (d_v 3) d_nil)))))) d_snil)
    (d_scons (d_if (d_tcmp (o_eq hh.hu) (d_v 5) d_int) (d_sone (d_ret (d_call hh D__law_try rfl (d_cons (d_v 0) (d_cons (d_v 1) (d_cons (d_v 2) (d_cons (d_v 3) (d_cons (d_v 4) d_nil)))))))) d_snil)
    (d_scons (d_set (i := 6) hh (d_call hh D__law_expression rfl (d_cons (d_v 0) (d_cons (d_v 1) (d_cons d_int (d_cons d_int d_nil))))))
    (d_scons (d_set (i := 7) hh (d_bin o_add d_int (d_call hh D__law_draw rfl (d_cons (d_v 0) (d_cons (d_bin o_sub (d_v 4) d_int) d_nil)))))
    (d_scons (d_set (i := 8) hh (d_call hh D__law_block rfl (d_cons (d_v 0) (d_cons (d_v 1) (d_cons (d_bin o_add (d_v 2) d_int) (d_cons (d_or (d_v 3) (d_one (d_cmp (o_eq hh.hu) (d_v 5) d_int))) (d_cons (d_v 7) d_nil)))))))
    (d_scons (d_if (d_tcmp (o_eq hh.hu) (d_v 5) d_int) (d_sone (d_ret (d_tup (d_cons d_str (d_cons (d_v 6) (d_cons (d_v 8) d_nil)))))) d_snil)
    (d_scons (d_set (i := 9) hh (d_tup d_nil))
    (d_scons (d_if (d_tcmp (o_eq hh.hu) (d_call hh D__law_draw rfl (d_cons (d_v 0) (d_cons d_int d_nil))) d_int) (d_sone (d_set (i := 9) hh (d_call hh D__law_block rfl (d_cons (d_v 0) (d_cons (d_v 1) (d_cons (d_bin o_add (d_v 2) d_int) (d_cons (d_v 3) (d_cons (d_bin o_sub (d_bin o_sub (d_v 4) d_int) (d_v 7)) d_nil)))))))) d_snil)
    (d_sone (d_ret (d_tup (d_cons d_str (d_cons (d_v 6) (d_cons (d_v 8) (d_cons (d_v 9) d_nil))))))))))))))))
/-! ### _law_block -/
abbrev s__law_block : Stmt := topS 22
theorem sc__law_block : FnScope ["_law_pen_here", "_law_env", "_law_deep", "_law_in_while", "_law_left", "_law_found", "_law_most", "_law_deed_here"] ["_law_pen_here", "_law_env", "_law_deep", "_law_in_while", "_law_left"] (defScope s__law_block) := ⟨rfl, rfl, rfl, by decide +kernel, rfl, by decide +kernel, by decide +kernel⟩
set_option maxHeartbeats 2000000 in
theorem ok__law_block {P : Program} {w : World} {K : PySem.W.Frag} {mg : Str → Option Value} {base : Heap} {k : Nat} {f : Addr} {fd : FuncData} (A : DefAt K mg "_law_block" s__law_block ["_law_pen_here", "_law_env", "_law_deep", "_law_in_while", "_law_left"] f fd) (B_len : mg "len" = none) (B_tuple : mg "tuple" = none) {g__law_draw : List D → Mem → Res D} (D__law_draw : DefG P w K mg base k "_law_draw" 2 g__law_draw) {g__law_deed : List D → Mem → Res D} (D__law_deed : DefG P w K mg base k "_law_deed" 5 g__law_deed) {g__law_count : List D → Mem → Res D} (D__law_count : DefG P w K mg base k "_law_count" 1 g__law_count) :
    DefG P w K mg base (k + 1) "_law_block" 5 (body 5 8 (m__law_block g__law_draw g__law_deed g__law_count)) :=
  fn_body A sc__law_block fun cdv A outer s H E hh => 
    (d_scons (d_set (i := 5) hh (d_newL d_nil))
    (d_scons (d_set (i := 6) hh (d_bin o_add d_int (d_call hh D__law_draw rfl (d_cons (d_v 0) (d_cons d_int d_nil)))))
    (d_scons (d_while hh (d_pw (d_wand (d_tcmp o_gt (d_v 4) d_int) (d_wand1 (d_tcmp o_lt (d_cb c_len rfl B_len PySem.boot_len (d_cons (d_v 5) d_nil)) (d_v 6))))) (d_scons (d_set (i := 7) hh (d_call hh D__law_deed rfl (d_cons (d_v 0) (d_cons (d_v 1) (d_cons (d_v 2) (d_cons (d_v 3) (d_cons (d_v 4) d_nil)))))))
    (d_scons (d_drop (d_append (d_v 5) (d_v 7)))
    (d_sone (d_set (i := 4) hh (d_bin o_sub (d_v 4) (d_call hh D__law_count rfl (d_cons (d_tup (d_cons (d_v 7) d_nil)) d_nil))))))))
    (d_sone (d_ret (d_ct c_tuple rfl B_tuple boot_tuple (d_cons (d_v 5) d_nil)))))))
/-! ### _law_book -/
abbrev s__law_book : Stmt := topS 23
theorem sc__law_book : FnScope ["_law_pen_here", "_law_rules", "_law_deeds", "_law_names_here", "_law_heads", "_law_book_here", "_law_name", "_law_params", "_law_pool", "_law_k", "_law_env"] ["_law_pen_here", "_law_rules", "_law_deeds"] (defScope s__law_book) := ⟨rfl, rfl, rfl, by decide +kernel, rfl, by decide +kernel, by decide +kernel⟩
set_option maxHeartbeats 2000000 in
theorem ok__law_book {P : Program} {w : World} {K : PySem.W.Frag} {mg : Str → Option Value} {base : Heap} {k : Nat} {f : Addr} {fd : FuncData} (A : DefAt K mg "_law_book" s__law_book ["_law_pen_here", "_law_rules", "_law_deeds"] f fd) (B_tuple : mg "tuple" = none) (B_list : mg "list" = none) (B_range : mg "range" = none) (B_len : mg "len" = none) {g__law_names : List D → Mem → Res D} (D__law_names : DefG P w K mg base k "_law_names" 2 g__law_names) {g__law_draw : List D → Mem → Res D} (D__law_draw : DefG P w K mg base k "_law_draw" 2 g__law_draw) {g__law_fresh : List D → Mem → Res D} (D__law_fresh : DefG P w K mg base k "_law_fresh" 2 g__law_fresh) {g__law_block : List D → Mem → Res D} (D__law_block : DefG P w K mg base k "_law_block" 5 g__law_block) :
    DefG P w K mg base (k + 1) "_law_book" 3 (body 3 11 (m__law_book g__law_names g__law_draw g__law_fresh g__law_block)) :=
  fn_body A sc__law_book fun cdv A outer s H E hh => 
    (d_scons (d_set (i := 3) hh (d_call hh D__law_names rfl (d_cons (d_v 0) (d_cons (d_bin o_add d_int (d_call hh D__law_draw rfl (d_cons (d_v 0) (d_cons (d_v 1) d_nil)))) d_nil))))
    (d_scons (d_setLc (i := 4) (own := [("_law_name", 6)]) hh (d_iter (d_v 3)) (blkOk_by (by rfl)) (fun s H C cl fp hb1 => (d_gname (i := 6) hb1.nd)) (fun s H C cl fp hb1 => d_if0) (fun s H C cl fp hb1 => (d_tup (d_cons (d_v 6) (d_cons (d_ct c_tuple rfl B_tuple boot_tuple (d_cons (d_call hb1 D__law_names rfl (d_cons (d_v 0) (d_cons (d_call hb1 D__law_draw rfl (d_cons (d_v 0) (d_cons d_int d_nil))) d_nil))) d_nil)) d_nil)))))
    (d_scons (d_set (i := 5) hh (d_newL d_nil))
    (d_scons (d_for hh (d_iter (d_v 4)) (d_gtup hh.calm (d_gcons (d_gname (i := 6) hh.nd) (d_gcons (d_gname (i := 7) hh.nd) d_gnil))) (d_scons (d_set (i := 8) hh (d_newList hh rfl B_list (d_v 7)))
    (d_scons (d_for hh (d_range1 rfl B_range (d_cons (d_bin o_add d_int (d_call hh D__law_draw rfl (d_cons (d_v 0) (d_cons (d_bin o_sub d_int (d_cb c_len rfl B_len PySem.boot_len (d_cons (d_v 7) d_nil))) d_nil)))) d_nil)) (d_gname (i := 9) hh.nd) (d_sone (d_drop (d_append (d_v 8) (d_call hh D__law_fresh rfl (d_cons (d_v 0) (d_cons (d_v 8) d_nil)))))))
    (d_scons (d_frz (i := 8) (d_set (i := 10) hh (d_dict (d_pc d_str (d_v 4) (d_pc d_str (d_v 8) d_pn)))))
    (d_sone (d_drop (d_append (d_v 5) (d_tup (d_cons (d_v 6) (d_cons (d_v 7) (d_cons (d_call hh D__law_block rfl (d_cons (d_v 0) (d_cons (d_v 10) (d_cons d_int (d_cons d_bl (d_cons (d_bin o_add d_int (d_call hh D__law_draw rfl (d_cons (d_v 0) (d_cons (d_v 2) d_nil)))) d_nil)))))) d_nil)))))))))))
    (d_sone (d_ret (d_ct c_tuple rfl B_tuple boot_tuple (d_cons (d_v 5) d_nil))))))))
/-! ### _law_vars -/
abbrev s__law_vars : Stmt := topS 24
theorem sc__law_vars : FnScope ["_law_expression_here", "_law_found", "_law_parts", "_law_part"] ["_law_expression_here"] (defScope s__law_vars) := ⟨rfl, rfl, rfl, by decide +kernel, rfl, by decide +kernel, by decide +kernel⟩
def m__law_vars (g__law_vars : List D → Mem → Res D) : MS :=
    (mSeq (mIf (mT (mOp opEq (mOp opIx (mV 0) (mC (.int 0))) (mC (.str "var")))) (mRet (mLst (mCons (mOp opIx (mV 0) (mC (.int 1))) mNil))) mSkip)
    (mSeq (mSet 1 (mNewL mNil))
    (mSeq (mSet 2 (mLst mNil))
    (mSeq (mIf (mT (mOp opEq (mOp opIx (mV 0) (mC (.int 0))) (mC (.str "op")))) (mSet 2 (mSl (mV 0) (mPart (mC (.int 2))) mPartN)) mSkip)
    (mSeq (mIf (mT (mOp opEq (mOp opIx (mV 0) (mC (.int 0))) (mC (.str "make")))) (mSet 2 (mOp opIx (mV 0) (mC (.int 2)))) mSkip)
    (mSeq (mFor (mIter (mV 2)) (aName 3) (mDrop (mL1 extD (mV 1) (mCall g__law_vars (mCons (mV 3) mNil)))))
    (mSeq (mFrz 1) (mRet (mV 1)))))))))
set_option maxHeartbeats 2000000 in
theorem ok__law_vars {P : Program} {w : World} {K : PySem.W.Frag} {mg : Str → Option Value} {base : Heap} {k : Nat} {f : Addr} {fd : FuncData} (A : DefAt K mg "_law_vars" s__law_vars ["_law_expression_here"] f fd) {g__law_vars : List D → Mem → Res D} (D__law_vars : DefG P w K mg base k "_law_vars" 1 g__law_vars) :
    DefG P w K mg base (k + 1) "_law_vars" 1 (body 1 4 (m__law_vars g__law_vars)) :=
  fn_body A sc__law_vars fun cdv A outer s H E hh => 
    (d_scons (d_if (d_tcmp (o_eq hh.hu) (d_ix hh (d_v 0) d_int) d_str) (d_sone (d_ret (d_lst (d_cons (d_ix hh (d_v 0) d_int) d_nil)))) d_snil)
    (d_scons (d_set (i := 1) hh (d_newL d_nil))
    (d_scons (d_set (i := 2) hh (d_lst d_nil))
    (d_scons (d_if (d_tcmp (o_eq hh.hu) (d_ix hh (d_v 0) d_int) d_str) (d_sone (d_set (i := 2) hh (d_sl (d_v 0) (d_po d_int) d_poN))) d_snil)
    (d_scons (d_if (d_tcmp (o_eq hh.hu) (d_ix hh (d_v 0) d_int) d_str) (d_sone (d_set (i := 2) hh (d_ix hh (d_v 0) d_int))) d_snil)
    (d_scons (d_for hh (d_iter (d_v 2)) (d_gname (i := 3) hh.nd) (d_sone (d_drop (d_extend (d_v 1) (d_call hh D__law_vars rfl (d_cons (d_v 3) d_nil))))))
    (d_sone (d_frz (i := 1) (d_ret (d_v 1))))))))))
/-! ### _law_own_names -/
abbrev s__law_own_names : Stmt := topS 25
theorem sc__law_own_names : FnScope ["_law_deed_here", "_law_word_here", "_law_found", "_law_caught"] ["_law_deed_here"] (defScope s__law_own_names) := ⟨rfl, rfl, rfl, by decide +kernel, rfl, by decide +kernel, by decide +kernel⟩
def m__law_own_names (g__law_vars : List D → Mem → Res D) : MS :=
    (mSeq (mSet 1 (mOp opIx (mV 0) (mC (.int 0))))
    (mSeq (mSet 2 (mNewL mNil))
    (mSeq (mIf (mT (mOp opIn (mV 1) (mTup (mCons (mC (.str "let")) (mCons (mC (.str "give")) (mCons (mC (.str "on")) (mCons (mC (.str "ask")) (mCons (mC (.str "cast")) mNil)))))))) (mDrop (mL1 appD (mV 2) (mOp opIx (mV 0) (mC (.int 1))))) mSkip)
    (mSeq (mIf (mT (mOp opIn (mV 1) (mTup (mCons (mC (.str "ask")) (mCons (mC (.str "cast")) mNil))))) (mDrop (mL1 appD (mV 2) (mOp opIx (mV 0) (mC (.int 2))))) mSkip)
    (mSeq (mIf (mT (mOp opEq (mV 1) (mC (.str "try")))) (mRet (mLc [3] (mIter (mOp opIx (mV 0) (mC (.int 2)))) (aName 3) mYes (mOp opIx (mV 3) (mC (.int 1))))) mSkip)
    (mSeq (mIf (mT (mOp opIn (mV 1) (mTup (mCons (mC (.str "note")) (mCons (mC (.str "close")) (mCons (mC (.str "end")) (mCons (mC (.str "if")) (mCons (mC (.str "while")) mNil)))))))) (mDrop (mL1 extD (mV 2) (mCall g__law_vars (mCons (mOp opIx (mV 0) (mC (.int 1))) mNil)))) mSkip)
    (mSeq (mIf (mT (mOp opIn (mV 1) (mTup (mCons (mC (.str "let")) (mCons (mC (.str "give")) (mCons (mC (.str "on")) (mCons (mC (.str "fault")) mNil))))))) (mDrop (mL1 extD (mV 2) (mCall g__law_vars (mCons (mOp opIx (mV 0) (mC (.int 2))) mNil)))) mSkip)
    (mSeq (mIf (mT (mOp opIn (mV 1) (mTup (mCons (mC (.str "ask")) (mCons (mC (.str "cast")) mNil))))) (mDrop (mL1 extD (mV 2) (mOp opAdd (mCall g__law_vars (mCons (mOp opIx (mV 0) (mC (.int 3))) mNil)) (mCall g__law_vars (mCons (mOp opIx (mV 0) (mO1 opNeg (mC (.int 1)))) mNil))))) mSkip)
    (mSeq (mFrz 2) (mRet (mV 2)))))))))))
set_option maxHeartbeats 2000000 in
theorem ok__law_own_names {P : Program} {w : World} {K : PySem.W.Frag} {mg : Str → Option Value} {base : Heap} {k : Nat} {f : Addr} {fd : FuncData} (A : DefAt K mg "_law_own_names" s__law_own_names ["_law_deed_here"] f fd) {g__law_vars : List D → Mem → Res D} (D__law_vars : DefG P w K mg base k "_law_vars" 1 g__law_vars) :
    DefG P w K mg base (k + 1) "_law_own_names" 1 (body 1 4 (m__law_own_names g__law_vars)) :=
  fn_body A sc__law_own_names fun cdv A outer s H E hh => 
    (d_scons (d_set (i := 1) hh (d_ix hh (d_v 0) d_int))
    (d_scons (d_set (i := 2) hh (d_newL d_nil))
    (d_scons (d_if (d_tcmp (o_in hh.hu) (d_v 1) (d_tup (d_cons d_str (d_cons d_str (d_cons d_str (d_cons d_str (d_cons d_str d_nil))))))) (d_sone (d_drop (d_append (d_v 2) (d_ix hh (d_v 0) d_int)))) d_snil)
    (d_scons (d_if (d_tcmp (o_in hh.hu) (d_v 1) (d_tup (d_cons d_str (d_cons d_str d_nil)))) (d_sone (d_drop (d_append (d_v 2) (d_ix hh (d_v 0) d_int)))) d_snil)
    (d_scons (d_if (d_tcmp (o_eq hh.hu) (d_v 1) d_str) (d_sone (d_ret (d_lc (own := [("_law_caught", 3)]) hh (d_iter (d_ix hh (d_v 0) d_int)) (blkOk_by (by rfl)) (fun s H C cl fp hb1 => (d_gname (i := 3) hb1.nd)) (fun s H C cl fp hb1 => d_if0) (fun s H C cl fp hb1 => (d_ix hb1 (d_v 3) d_int))))) d_snil)
    (d_scons (d_if (d_tcmp (o_in hh.hu) (d_v 1) (d_tup (d_cons d_str (d_cons d_str (d_cons d_str (d_cons d_str (d_cons d_str d_nil))))))) (d_sone (d_drop (d_extend (d_v 2) (d_call hh D__law_vars rfl (d_cons (d_ix hh (d_v 0) d_int) d_nil))))) d_snil)
    (d_scons (d_if (d_tcmp (o_in hh.hu) (d_v 1) (d_tup (d_cons d_str (d_cons d_str (d_cons d_str (d_cons d_str d_nil)))))) (d_sone (d_drop (d_extend (d_v 2) (d_call hh D__law_vars rfl (d_cons (d_ix hh (d_v 0) d_int) d_nil))))) d_snil)
    (d_scons (d_if (d_tcmp (o_in hh.hu) (d_v 1) (d_tup (d_cons d_str (d_cons d_str d_nil)))) (d_sone (d_drop (d_extend (d_v 2) (d_bin o_add (d_call hh D__law_vars rfl (d_cons (d_ix hh (d_v 0) d_int) d_nil)) (d_call hh D__law_vars rfl (d_cons (d_ix hh (d_v 0) (d_un u_neg d_int)) d_nil)))))) d_snil)
    (d_sone (d_frz (i := 2) (d_ret (d_v 2))))))))))))
/-! ### _law_all_names -/
abbrev s__law_all_names : Stmt := topS 26
theorem sc__law_all_names : FnScope ["_law_block_here", "_law_found", "_law_deed_here", "_law_inner_here"] ["_law_block_here"] (defScope s__law_all_names) := ⟨rfl, rfl, rfl, by decide +kernel, rfl, by decide +kernel, by decide +kernel⟩
def m__law_all_names (g__law_own_names : List D → Mem → Res D) (g__law_inner : List D → Mem → Res D) (g__law_all_names : List D → Mem → Res D) : MS :=
    (mSeq (mSet 1 (mNewL mNil))
    (mSeq (mFor (mIter (mV 0)) (aName 2) (mSeq (mDrop (mL1 extD (mV 1) (mCall g__law_own_names (mCons (mV 2) mNil))))
    (mFor (mIter (mCall g__law_inner (mCons (mV 2) mNil))) (aName 3) (mDrop (mL1 extD (mV 1) (mCall g__law_all_names (mCons (mV 3) mNil)))))))
    (mSeq (mFrz 1) (mRet (mV 1)))))
set_option maxHeartbeats 2000000 in
theorem ok__law_all_names {P : Program} {w : World} {K : PySem.W.Frag} {mg : Str → Option Value} {base : Heap} {k : Nat} {f : Addr} {fd : FuncData} (A : DefAt K mg "_law_all_names" s__law_all_names ["_law_block_here"] f fd) {g__law_own_names : List D → Mem → Res D} (D__law_own_names : DefG P w K mg base k "_law_own_names" 1 g__law_own_names) {g__law_inner : List D → Mem → Res D} (D__law_inner : DefG P w K mg base k "_law_inner" 1 g__law_inner) {g__law_all_names : List D → Mem → Res D} (D__law_all_names : DefG P w K mg base k "_law_all_names" 1 g__law_all_names) :
    DefG P w K mg base (k + 1) "_law_all_names" 1 (body 1 4 (m__law_all_names g__law_own_names g__law_inner g__law_all_names)) :=
  fn_body A sc__law_all_names fun cdv A outer s H E hh => 
    (d_scons (d_set (i := 1) hh (d_newL d_nil))
    (d_scons (d_for hh (d_iter (d_v 0)) (d_gname (i := 2) hh.nd) (d_scons (d_drop (d_extend (d_v 1) (d_call hh D__law_own_names rfl (d_cons (d_v 2) d_nil))))
    (d_sone (d_for hh (d_iter (d_call hh D__law_inner rfl (d_cons (d_v 2) d_nil))) (d_gname (i := 3) hh.nd) (d_sone (d_drop (d_extend (d_v 1) (d_call hh D__law_all_names rfl (d_cons (d_v 3) d_nil)))))))))
    (d_sone (d_frz (i := 1) (d_ret (d_v 1))))))
/-! ### law -/
abbrev s_law : Stmt := topS 27
theorem sc_law : FnScope ["_law_script", "_law_pen_here", "_law_deeds", "_law_book_here", "_law_shown", "_law_rule", "_law_others", "_law_name"] ["_law_script"] (defScope s_law) := ⟨rfl, rfl, rfl, by decide +kernel, rfl, by decide +kernel, by decide +kernel⟩
def m_law (g__law_pen : List D → Mem → Res D) (g__law_draw : List D → Mem → Res D) (g__law_book : List D → Mem → Res D) (g__law_all_names : List D → Mem → Res D) (g_variables : List D → Mem → Res D) : MS :=
    (mSeq (mSet 1 (mCall g__law_pen (mCons (mV 0) mNil)))
    (mSeq (mSet 2 (mOp opIx (mLst (mCons (mC (.int 8)) (mCons (mC (.int 30)) mNil))) (mCB opInt1 (mCons (mOp opEq (mCall g__law_draw (mCons (mV 1) (mCons (mC (.int 6)) mNil))) (mC (.int 5))) mNil))))
    (mSeq (mSet 3 (mCall g__law_book (mCons (mV 1) (mCons (mC (.int 3)) (mCons (mV 2) mNil)))))
    (mSeq (mSet 4 (mCB opRepr (mCons (mV 3) mNil)))
    (mSeq (mFor (mIter (mOp opAdd (mV 3) (mV 3))) (aName 5) (mSeq (mSet 6 (mLc [7] (mIter (mO1 opSortSet (mCall g__law_all_names (mCons (mOp opIx (mV 5) (mC (.int 2))) mNil)))) (aName 7) (mT (mOp opNotIn (mV 7) (mOp opIx (mV 5) (mC (.int 1))))) (mV 7)))
    (mIf (mT (mOp opNe (mCB opRepr (mCons (mCall g_variables (mCons (mV 5) mNil)) mNil)) (mCB opRepr (mCons (mOp opAdd (mOp opIx (mV 5) (mC (.int 1))) (mCB opTuple (mCons (mV 6) mNil))) mNil)))) (mRet (mC (.bl false))) mSkip)))
    (mRet (mOp opEq (mCB opRepr (mCons (mV 3) mNil)) (mV 4))))))))
set_option maxHeartbeats 2000000 in
theorem ok_law {P : Program} {w : World} {K : PySem.W.Frag} {mg : Str → Option Value} {base : Heap} {k : Nat} {f : Addr} {fd : FuncData} (A : DefAt K mg "law" s_law ["_law_script"] f fd) (B_int : mg "int" = none) (B_repr : mg "repr" = none) (B_sorted : mg "sorted" = none) (B_set : mg "set" = none) (B_tuple : mg "tuple" = none) {g__law_pen : List D → Mem → Res D} (D__law_pen : DefG P w K mg base k "_law_pen" 1 g__law_pen) {g__law_draw : List D → Mem → Res D} (D__law_draw : DefG P w K mg base k "_law_draw" 2 g__law_draw) {g__law_book : List D → Mem → Res D} (D__law_book : DefG P w K mg base k "_law_book" 3 g__law_book) {g__law_all_names : List D → Mem → Res D} (D__law_all_names : DefG P w K mg base k "_law_all_names" 1 g__law_all_names) {g_variables : List D → Mem → Res D} (D_variables : DefG P w K mg base k "variables" 1 g_variables) :
    DefG P w K mg base (k + 1) "law" 1 (body 1 8 (m_law g__law_pen g__law_draw g__law_book g__law_all_names g_variables)) :=
  fn_body A sc_law fun cdv A outer s H E hh => 
    (d_scons (d_set (i := 1) hh (d_call hh D__law_pen rfl (d_cons (d_v 0) d_nil)))
    (d_scons (d_set (i := 2) hh (d_ix hh (d_lst (d_cons d_int (d_cons d_int d_nil))) (d_ct c_int rfl B_int boot_int (d_cons (d_cmp (o_eq hh.hu) (d_call hh D__law_draw rfl (d_cons (d_v 1) (d_cons d_int d_nil))) d_int) d_nil))))
    (d_scons (d_set (i := 3) hh (d_call hh D__law_book rfl (d_cons (d_v 1) (d_cons d_int (d_cons (d_v 2) d_nil)))))
    (d_scons (d_set (i := 4) hh (d_cb (c_repr hh) rfl B_repr boot_repr (d_cons (d_v 3) d_nil)))
    (d_scons (d_for hh (d_iter (d_bin o_add (d_v 3) (d_v 3))) (d_gname (i := 5) hh.nd) (d_scons (d_setLc (i := 6) (own := [("_law_name", 7)]) hh (d_iter (d_sortSet hh rfl B_sorted rfl B_set (d_call hh D__law_all_names rfl (d_cons (d_ix hh (d_v 5) d_int) d_nil)))) (blkOk_by (by rfl)) (fun s H C cl fp hb1 => (d_gname (i := 7) hb1.nd)) (fun s H C cl fp hb1 => (d_if1B (d_tcmp (o_notIn hb1.hu) (d_v 7) (d_ix hb1 (d_v 5) d_int)))) (fun s H C cl fp hb1 => (d_v 7)))
    (d_sone (d_if (d_tcmp (o_ne hh.hu) (d_cb (c_repr hh) rfl B_repr boot_repr (d_cons (d_call hh D_variables rfl (d_cons (d_v 5) d_nil)) d_nil)) (d_cb (c_repr hh) rfl B_repr boot_repr (d_cons (d_bin o_add (d_ix hh (d_v 5) d_int) (d_ct c_tuple rfl B_tuple boot_tuple (d_cons (d_v 6) d_nil))) d_nil))) (d_sone (d_ret d_bl)) d_snil))))
    (d_sone (d_ret (d_cmp (o_eq hh.hu) (d_cb (c_repr hh) rfl B_repr boot_repr (d_cons (d_v 3) d_nil)) (d_v 4)))))))))
set_option maxHeartbeats 2000000 in
theorem okX_law {P : Program} {w : World} {K : PySem.W.Frag} {mg : Str → Option Value} {base : Heap} {k : Nat} {f : Addr} {fd : FuncData} (A : DefAt K mg "law" s_law ["_law_script"] f fd) (B_int : mg "int" = none) (B_repr : mg "repr" = none) (B_sorted : mg "sorted" = none) (B_set : mg "set" = none) (B_tuple : mg "tuple" = none) {g__law_pen : List D → Mem → Res D} (D__law_pen : DefG P w K mg base k "_law_pen" 1 g__law_pen) {g__law_draw : List D → Mem → Res D} (D__law_draw : DefG P w K mg base k "_law_draw" 2 g__law_draw) {g__law_book : List D → Mem → Res D} (D__law_book : DefG P w K mg base k "_law_book" 3 g__law_book) {g__law_all_names : List D → Mem → Res D} (D__law_all_names : DefG P w K mg base k "_law_all_names" 1 g__law_all_names) {g_variables : List D → Mem → Res D} (D_variables : DefG P w K mg base k "variables" 1 g_variables) :
    FnG P w K mg base (k + 1) f fd ["_law_script"] (spM ⟨K, mg⟩ 1 (body 1 8 (m_law g__law_pen g__law_draw g__law_book g__law_all_names g_variables))) :=
  fn_bodyX A.U sc_law fun cdv A outer s H E hh => 
    (d_scons (d_set (i := 1) hh (d_call hh D__law_pen rfl (d_cons (d_v 0) d_nil)))
    (d_scons (d_set (i := 2) hh (d_ix hh (d_lst (d_cons d_int (d_cons d_int d_nil))) (d_ct c_int rfl B_int boot_int (d_cons (d_cmp (o_eq hh.hu) (d_call hh D__law_draw rfl (d_cons (d_v 1) (d_cons d_int d_nil))) d_int) d_nil))))
    (d_scons (d_set (i := 3) hh (d_call hh D__law_book rfl (d_cons (d_v 1) (d_cons d_int (d_cons (d_v 2) d_nil)))))
    (d_scons (d_set (i := 4) hh (d_cb (c_repr hh) rfl B_repr boot_repr (d_cons (d_v 3) d_nil)))
    (d_scons (d_for hh (d_iter (d_bin o_add (d_v 3) (d_v 3))) (d_gname (i := 5) hh.nd) (d_scons (d_setLc (i := 6) (own := [("_law_name", 7)]) hh (d_iter (d_sortSet hh rfl B_sorted rfl B_set (d_call hh D__law_all_names rfl (d_cons (d_ix hh (d_v 5) d_int) d_nil)))) (blkOk_by (by rfl)) (fun s H C cl fp hb1 => (d_gname (i := 7) hb1.nd)) (fun s H C cl fp hb1 => (d_if1B (d_tcmp (o_notIn hb1.hu) (d_v 7) (d_ix hb1 (d_v 5) d_int)))) (fun s H C cl fp hb1 => (d_v 7)))
    (d_sone (d_if (d_tcmp (o_ne hh.hu) (d_cb (c_repr hh) rfl B_repr boot_repr (d_cons (d_call hh D_variables rfl (d_cons (d_v 5) d_nil)) d_nil)) (d_cb (c_repr hh) rfl B_repr boot_repr (d_cons (d_bin o_add (d_ix hh (d_v 5) d_int) (d_ct c_tuple rfl B_tuple boot_tuple (d_cons (d_v 6) d_nil))) d_nil))) (d_sone (d_ret d_bl)) d_snil))))
    (d_sone (d_ret (d_cmp (o_eq hh.hu) (d_cb (c_repr hh) rfl B_repr boot_repr (d_cons (d_v 3) d_nil)) (d_v 4)))))))))
/-! ### together -/
def r__law_vars : Nat → List D → Mem → Res D
  | 0 => fun _ _ => .bad
  | n + 1 => body 1 4 (m__law_vars (r__law_vars n))
def g__law_vars : List D → Mem → Res D := r__law_vars 40
def g__law_own_names : List D → Mem → Res D := body 1 4 (m__law_own_names g__law_vars)
def r__law_all_names : Nat → List D → Mem → Res D
  | 0 => fun _ _ => .bad
  | n + 1 => body 1 4 (m__law_all_names g__law_own_names g__law_inner (r__law_all_names n))
def g__law_all_names : List D → Mem → Res D := r__law_all_names 40
def r_deeds_in : Nat → List D → Mem → Res D
  | 0 => fun _ _ => .bad
  | n + 1 => body 1 4 (m_deeds_in g_blocks_of (r_deeds_in n))
def g_deeds_in : List D → Mem → Res D := r_deeds_in 40
def g_targets_of : List D → Mem → Res D := body 1 3 (m_targets_of)
def g_expressions_of : List D → Mem → Res D := body 1 2 (m_expressions_of)
def g_inner_expressions : List D → Mem → Res D := body 1 1 (m_inner_expressions)
def r_names_in : Nat → List D → Mem → Res D
  | 0 => fun _ _ => .bad
  | n + 1 => body 1 3 (m_names_in g_inner_expressions (r_names_in n))
def g_names_in : List D → Mem → Res D := r_names_in 40
def g_variables : List D → Mem → Res D := body 1 5 (m_variables g_deeds_in g_targets_of g_expressions_of g_names_in)
def g_law : List D → Mem → Res D := body 1 8 (m_law g__law_pen g__law_draw g__law_book g__law_all_names g_variables)
set_option maxHeartbeats 8000000 in
theorem all_mk {P : Program} {w : World} {K : PySem.W.Frag} {h : Heap} {mg : Str → Option Value} {fa : Addr} (X : K.In h) (G : h.Ns mainGlobals mg) (hfa : mg "law" = some (.ref fa))
    {f0 : Addr} {od0 an0 : Option Addr} {sl0 : Array (Option Value)} {oc0 kV0 dc0 pm0 cd0 ct0 : Value}
    {f1 : Addr} {od1 an1 : Option Addr} {sl1 : Array (Option Value)} {oc1 kV1 dc1 pm1 cd1 ct1 : Value}
    {f2 : Addr} {od2 an2 : Option Addr} {sl2 : Array (Option Value)} {oc2 kV2 dc2 pm2 cd2 ct2 : Value}
    {f3 : Addr} {od3 an3 : Option Addr} {sl3 : Array (Option Value)} {oc3 kV3 dc3 pm3 cd3 ct3 : Value}
    {f4 : Addr} {od4 an4 : Option Addr} {sl4 : Array (Option Value)} {oc4 kV4 dc4 pm4 cd4 ct4 : Value}
    {f5 : Addr} {od5 an5 : Option Addr} {sl5 : Array (Option Value)} {oc5 kV5 dc5 pm5 cd5 ct5 : Value}
    {f6 : Addr} {od6 an6 : Option Addr} {sl6 : Array (Option Value)} {oc6 kV6 dc6 pm6 cd6 ct6 : Value}
    {f7 : Addr} {od7 an7 : Option Addr} {sl7 : Array (Option Value)} {oc7 kV7 dc7 pm7 cd7 ct7 : Value}
    {f8 : Addr} {od8 an8 : Option Addr} {sl8 : Array (Option Value)} {oc8 kV8 dc8 pm8 cd8 ct8 : Value}
    {f9 : Addr} {od9 an9 : Option Addr} {sl9 : Array (Option Value)} {oc9 kV9 dc9 pm9 cd9 ct9 : Value}
    {f10 : Addr} {od10 an10 : Option Addr} {sl10 : Array (Option Value)} {oc10 kV10 dc10 pm10 cd10 ct10 : Value}
    {f11 : Addr} {od11 an11 : Option Addr} {sl11 : Array (Option Value)} {oc11 kV11 dc11 pm11 cd11 ct11 : Value}
    {f12 : Addr} {od12 an12 : Option Addr} {sl12 : Array (Option Value)} {oc12 kV12 dc12 pm12 cd12 ct12 : Value}
    {f13 : Addr} {od13 an13 : Option Addr} {sl13 : Array (Option Value)} {oc13 kV13 dc13 pm13 cd13 ct13 : Value}
    {f14 : Addr} {od14 an14 : Option Addr} {sl14 : Array (Option Value)} {oc14 kV14 dc14 pm14 cd14 ct14 : Value}
    {f15 : Addr} {od15 an15 : Option Addr} {sl15 : Array (Option Value)} {oc15 kV15 dc15 pm15 cd15 ct15 : Value}
    {f16 : Addr} {od16 an16 : Option Addr} {sl16 : Array (Option Value)} {oc16 kV16 dc16 pm16 cd16 ct16 : Value}
    {f17 : Addr} {od17 an17 : Option Addr} {sl17 : Array (Option Value)} {oc17 kV17 dc17 pm17 cd17 ct17 : Value}
    {f18 : Addr} {od18 an18 : Option Addr} {sl18 : Array (Option Value)} {oc18 kV18 dc18 pm18 cd18 ct18 : Value}
    {f19 : Addr} {od19 an19 : Option Addr} {sl19 : Array (Option Value)} {oc19 kV19 dc19 pm19 cd19 ct19 : Value}
    {f20 : Addr} {od20 an20 : Option Addr} {sl20 : Array (Option Value)} {oc20 kV20 dc20 pm20 cd20 ct20 : Value}
    {f21 : Addr} {od21 an21 : Option Addr} {sl21 : Array (Option Value)} {oc21 kV21 dc21 pm21 cd21 ct21 : Value}
    {f22 : Addr} {od22 an22 : Option Addr} {sl22 : Array (Option Value)} {oc22 kV22 dc22 pm22 cd22 ct22 : Value}
    {f23 : Addr} {od23 an23 : Option Addr} {sl23 : Array (Option Value)} {oc23 kV23 dc23 pm23 cd23 ct23 : Value}
    {f24 : Addr} {od24 an24 : Option Addr} {sl24 : Array (Option Value)} {oc24 kV24 dc24 pm24 cd24 ct24 : Value}
    {f25 : Addr} {od25 an25 : Option Addr} {sl25 : Array (Option Value)} {oc25 kV25 dc25 pm25 cd25 ct25 : Value}
    (a0 : PySem.W.nsIn K mainGlobals "_law_pen" = some (some (.ref f0)))
    (l0 : K.lookup f0 = some ⟨oc0, od0, .func (PySem.W.fnOf "_law_pen" "_law_pen" (defArgs s__law_pen) (defBody s__law_pen) (defScope s__law_pen) .none kV0 dc0 pm0 an0 cd0 ct0), sl0⟩)
    (c0 : PySem.W.codeIn K cd0 "_law_pen" = true)
    (k0 : PySem.W.keepIn K (.ref f0) = true)
    (a1 : PySem.W.nsIn K mainGlobals "_law_draw" = some (some (.ref f1)))
    (l1 : K.lookup f1 = some ⟨oc1, od1, .func (PySem.W.fnOf "_law_draw" "_law_draw" (defArgs s__law_draw) (defBody s__law_draw) (defScope s__law_draw) .none kV1 dc1 pm1 an1 cd1 ct1), sl1⟩)
    (c1 : PySem.W.codeIn K cd1 "_law_draw" = true)
    (k1 : PySem.W.keepIn K (.ref f1) = true)
    (a2 : PySem.W.nsIn K mainGlobals "_law_letters" = some (some (.ref f2)))
    (l2 : K.lookup f2 = some ⟨oc2, od2, .func (PySem.W.fnOf "_law_letters" "_law_letters" (defArgs s__law_letters) (defBody s__law_letters) (defScope s__law_letters) .none kV2 dc2 pm2 an2 cd2 ct2), sl2⟩)
    (c2 : PySem.W.codeIn K cd2 "_law_letters" = true)
    (k2 : PySem.W.keepIn K (.ref f2) = true)
    (a3 : PySem.W.nsIn K mainGlobals "_law_fresh" = some (some (.ref f3)))
    (l3 : K.lookup f3 = some ⟨oc3, od3, .func (PySem.W.fnOf "_law_fresh" "_law_fresh" (defArgs s__law_fresh) (defBody s__law_fresh) (defScope s__law_fresh) .none kV3 dc3 pm3 an3 cd3 ct3), sl3⟩)
    (c3 : PySem.W.codeIn K cd3 "_law_fresh" = true)
    (k3 : PySem.W.keepIn K (.ref f3) = true)
    (a4 : PySem.W.nsIn K mainGlobals "_law_names" = some (some (.ref f4)))
    (l4 : K.lookup f4 = some ⟨oc4, od4, .func (PySem.W.fnOf "_law_names" "_law_names" (defArgs s__law_names) (defBody s__law_names) (defScope s__law_names) .none kV4 dc4 pm4 an4 cd4 ct4), sl4⟩)
    (c4 : PySem.W.codeIn K cd4 "_law_names" = true)
    (k4 : PySem.W.keepIn K (.ref f4) = true)
    (a5 : PySem.W.nsIn K mainGlobals "_law_leaf" = some (some (.ref f5)))
    (l5 : K.lookup f5 = some ⟨oc5, od5, .func (PySem.W.fnOf "_law_leaf" "_law_leaf" (defArgs s__law_leaf) (defBody s__law_leaf) (defScope s__law_leaf) .none kV5 dc5 pm5 an5 cd5 ct5), sl5⟩)
    (c5 : PySem.W.codeIn K cd5 "_law_leaf" = true)
    (k5 : PySem.W.keepIn K (.ref f5) = true)
    (a6 : PySem.W.nsIn K mainGlobals "_law_expression" = some (some (.ref f6)))
    (l6 : K.lookup f6 = some ⟨oc6, od6, .func (PySem.W.fnOf "_law_expression" "_law_expression" (defArgs s__law_expression) (defBody s__law_expression) (defScope s__law_expression) .none kV6 dc6 pm6 an6 cd6 ct6), sl6⟩)
    (c6 : PySem.W.codeIn K cd6 "_law_expression" = true)
    (k6 : PySem.W.keepIn K (.ref f6) = true)
    (a7 : PySem.W.nsIn K mainGlobals "_law_word" = some (some (.ref f7)))
    (l7 : K.lookup f7 = some ⟨oc7, od7, .func (PySem.W.fnOf "_law_word" "_law_word" (defArgs s__law_word) (defBody s__law_word) (defScope s__law_word) .none kV7 dc7 pm7 an7 cd7 ct7), sl7⟩)
    (c7 : PySem.W.codeIn K cd7 "_law_word" = true)
    (k7 : PySem.W.keepIn K (.ref f7) = true)
    (a8 : PySem.W.nsIn K mainGlobals "_law_simple" = some (some (.ref f8)))
    (l8 : K.lookup f8 = some ⟨oc8, od8, .func (PySem.W.fnOf "_law_simple" "_law_simple" (defArgs s__law_simple) (defBody s__law_simple) (defScope s__law_simple) .none kV8 dc8 pm8 an8 cd8 ct8), sl8⟩)
    (c8 : PySem.W.codeIn K cd8 "_law_simple" = true)
    (k8 : PySem.W.keepIn K (.ref f8) = true)
    (a9 : PySem.W.nsIn K mainGlobals "_law_inner" = some (some (.ref f9)))
    (l9 : K.lookup f9 = some ⟨oc9, od9, .func (PySem.W.fnOf "_law_inner" "_law_inner" (defArgs s__law_inner) (defBody s__law_inner) (defScope s__law_inner) .none kV9 dc9 pm9 an9 cd9 ct9), sl9⟩)
    (c9 : PySem.W.codeIn K cd9 "_law_inner" = true)
    (k9 : PySem.W.keepIn K (.ref f9) = true)
    (a10 : PySem.W.nsIn K mainGlobals "_law_count" = some (some (.ref f10)))
    (l10 : K.lookup f10 = some ⟨oc10, od10, .func (PySem.W.fnOf "_law_count" "_law_count" (defArgs s__law_count) (defBody s__law_count) (defScope s__law_count) .none kV10 dc10 pm10 an10 cd10 ct10), sl10⟩)
    (c10 : PySem.W.codeIn K cd10 "_law_count" = true)
    (k10 : PySem.W.keepIn K (.ref f10) = true)
    (a11 : PySem.W.nsIn K mainGlobals "_law_try" = some (some (.ref f11)))
    (l11 : K.lookup f11 = some ⟨oc11, od11, .func (PySem.W.fnOf "_law_try" "_law_try" (defArgs s__law_try) (defBody s__law_try) (defScope s__law_try) .none kV11 dc11 pm11 an11 cd11 ct11), sl11⟩)
    (c11 : PySem.W.codeIn K cd11 "_law_try" = true)
    (k11 : PySem.W.keepIn K (.ref f11) = true)
    (a12 : PySem.W.nsIn K mainGlobals "_law_deed" = some (some (.ref f12)))
    (l12 : K.lookup f12 = some ⟨oc12, od12, .func (PySem.W.fnOf "_law_deed" "_law_deed" (defArgs s__law_deed) (defBody s__law_deed) (defScope s__law_deed) .none kV12 dc12 pm12 an12 cd12 ct12), sl12⟩)
    (c12 : PySem.W.codeIn K cd12 "_law_deed" = true)
    (k12 : PySem.W.keepIn K (.ref f12) = true)
    (a13 : PySem.W.nsIn K mainGlobals "_law_block" = some (some (.ref f13)))
    (l13 : K.lookup f13 = some ⟨oc13, od13, .func (PySem.W.fnOf "_law_block" "_law_block" (defArgs s__law_block) (defBody s__law_block) (defScope s__law_block) .none kV13 dc13 pm13 an13 cd13 ct13), sl13⟩)
    (c13 : PySem.W.codeIn K cd13 "_law_block" = true)
    (k13 : PySem.W.keepIn K (.ref f13) = true)
    (a14 : PySem.W.nsIn K mainGlobals "_law_book" = some (some (.ref f14)))
    (l14 : K.lookup f14 = some ⟨oc14, od14, .func (PySem.W.fnOf "_law_book" "_law_book" (defArgs s__law_book) (defBody s__law_book) (defScope s__law_book) .none kV14 dc14 pm14 an14 cd14 ct14), sl14⟩)
    (c14 : PySem.W.codeIn K cd14 "_law_book" = true)
    (k14 : PySem.W.keepIn K (.ref f14) = true)
    (a15 : PySem.W.nsIn K mainGlobals "_law_vars" = some (some (.ref f15)))
    (l15 : K.lookup f15 = some ⟨oc15, od15, .func (PySem.W.fnOf "_law_vars" "_law_vars" (defArgs s__law_vars) (defBody s__law_vars) (defScope s__law_vars) .none kV15 dc15 pm15 an15 cd15 ct15), sl15⟩)
    (c15 : PySem.W.codeIn K cd15 "_law_vars" = true)
    (k15 : PySem.W.keepIn K (.ref f15) = true)
    (a16 : PySem.W.nsIn K mainGlobals "_law_own_names" = some (some (.ref f16)))
    (l16 : K.lookup f16 = some ⟨oc16, od16, .func (PySem.W.fnOf "_law_own_names" "_law_own_names" (defArgs s__law_own_names) (defBody s__law_own_names) (defScope s__law_own_names) .none kV16 dc16 pm16 an16 cd16 ct16), sl16⟩)
    (c16 : PySem.W.codeIn K cd16 "_law_own_names" = true)
    (k16 : PySem.W.keepIn K (.ref f16) = true)
    (a17 : PySem.W.nsIn K mainGlobals "_law_all_names" = some (some (.ref f17)))
    (l17 : K.lookup f17 = some ⟨oc17, od17, .func (PySem.W.fnOf "_law_all_names" "_law_all_names" (defArgs s__law_all_names) (defBody s__law_all_names) (defScope s__law_all_names) .none kV17 dc17 pm17 an17 cd17 ct17), sl17⟩)
    (c17 : PySem.W.codeIn K cd17 "_law_all_names" = true)
    (k17 : PySem.W.keepIn K (.ref f17) = true)
    (a18 : PySem.W.nsIn K mainGlobals "blocks_of" = some (some (.ref f18)))
    (l18 : K.lookup f18 = some ⟨oc18, od18, .func (PySem.W.fnOf "blocks_of" "blocks_of" (defArgs s_blocks_of) (defBody s_blocks_of) (defScope s_blocks_of) .none kV18 dc18 pm18 an18 cd18 ct18), sl18⟩)
    (c18 : PySem.W.codeIn K cd18 "blocks_of" = true)
    (k18 : PySem.W.keepIn K (.ref f18) = true)
    (a19 : PySem.W.nsIn K mainGlobals "deeds_in" = some (some (.ref f19)))
    (l19 : K.lookup f19 = some ⟨oc19, od19, .func (PySem.W.fnOf "deeds_in" "deeds_in" (defArgs s_deeds_in) (defBody s_deeds_in) (defScope s_deeds_in) .none kV19 dc19 pm19 an19 cd19 ct19), sl19⟩)
    (c19 : PySem.W.codeIn K cd19 "deeds_in" = true)
    (k19 : PySem.W.keepIn K (.ref f19) = true)
    (a20 : PySem.W.nsIn K mainGlobals "targets_of" = some (some (.ref f20)))
    (l20 : K.lookup f20 = some ⟨oc20, od20, .func (PySem.W.fnOf "targets_of" "targets_of" (defArgs s_targets_of) (defBody s_targets_of) (defScope s_targets_of) .none kV20 dc20 pm20 an20 cd20 ct20), sl20⟩)
    (c20 : PySem.W.codeIn K cd20 "targets_of" = true)
    (k20 : PySem.W.keepIn K (.ref f20) = true)
    (a21 : PySem.W.nsIn K mainGlobals "expressions_of" = some (some (.ref f21)))
    (l21 : K.lookup f21 = some ⟨oc21, od21, .func (PySem.W.fnOf "expressions_of" "expressions_of" (defArgs s_expressions_of) (defBody s_expressions_of) (defScope s_expressions_of) .none kV21 dc21 pm21 an21 cd21 ct21), sl21⟩)
    (c21 : PySem.W.codeIn K cd21 "expressions_of" = true)
    (k21 : PySem.W.keepIn K (.ref f21) = true)
    (a22 : PySem.W.nsIn K mainGlobals "inner_expressions" = some (some (.ref f22)))
    (l22 : K.lookup f22 = some ⟨oc22, od22, .func (PySem.W.fnOf "inner_expressions" "inner_expressions" (defArgs s_inner_expressions) (defBody s_inner_expressions) (defScope s_inner_expressions) .none kV22 dc22 pm22 an22 cd22 ct22), sl22⟩)
    (c22 : PySem.W.codeIn K cd22 "inner_expressions" = true)
    (k22 : PySem.W.keepIn K (.ref f22) = true)
    (a23 : PySem.W.nsIn K mainGlobals "names_in" = some (some (.ref f23)))
    (l23 : K.lookup f23 = some ⟨oc23, od23, .func (PySem.W.fnOf "names_in" "names_in" (defArgs s_names_in) (defBody s_names_in) (defScope s_names_in) .none kV23 dc23 pm23 an23 cd23 ct23), sl23⟩)
    (c23 : PySem.W.codeIn K cd23 "names_in" = true)
    (k23 : PySem.W.keepIn K (.ref f23) = true)
    (a24 : PySem.W.nsIn K mainGlobals "variables" = some (some (.ref f24)))
    (l24 : K.lookup f24 = some ⟨oc24, od24, .func (PySem.W.fnOf "variables" "variables" (defArgs s_variables) (defBody s_variables) (defScope s_variables) .none kV24 dc24 pm24 an24 cd24 ct24), sl24⟩)
    (c24 : PySem.W.codeIn K cd24 "variables" = true)
    (k24 : PySem.W.keepIn K (.ref f24) = true)
    (a25 : PySem.W.nsIn K mainGlobals "law" = some (some (.ref f25)))
    (l25 : K.lookup f25 = some ⟨oc25, od25, .func (PySem.W.fnOf "law" "law" (defArgs s_law) (defBody s_law) (defScope s_law) .none kV25 dc25 pm25 an25 cd25 ct25), sl25⟩)
    (c25 : PySem.W.codeIn K cd25 "law" = true)
    (k25 : PySem.W.keepIn K (.ref f25) = true)
    (z_list : PySem.W.nsIn K mainGlobals "list" = some none)
    (z_len : PySem.W.nsIn K mainGlobals "len" = some none)
    (z_abs : PySem.W.nsIn K mainGlobals "abs" = some none)
    (z_range : PySem.W.nsIn K mainGlobals "range" = some none)
    (z_tuple : PySem.W.nsIn K mainGlobals "tuple" = some none)
    (z_int : PySem.W.nsIn K mainGlobals "int" = some none)
    (z_sum : PySem.W.nsIn K mainGlobals "sum" = some none)
    (z_min : PySem.W.nsIn K mainGlobals "min" = some none)
    (z_sorted : PySem.W.nsIn K mainGlobals "sorted" = some none)
    (z_repr : PySem.W.nsIn K mainGlobals "repr" = some none)
    (z_set : PySem.W.nsIn K mainGlobals "set" = some none) :
    ∃ fd : FuncData, (∀ (s : Shared) (v : Value), BindsTo s fd ⟨[v], []⟩ [("_law_script", v)]) ∧ ∀ base : Heap, K.In base → base.Ns mainGlobals mg → FnG P w K mg base 85 fa fd ["_law_script"] (spM ⟨K, mg⟩ 1 g_law) := by
  cases hfa.symm.trans (PySem.W.mg_of X G a25)
  have B_list := PySem.W.mg_none_of X G z_list
  have B_len := PySem.W.mg_none_of X G z_len
  have B_abs := PySem.W.mg_none_of X G z_abs
  have B_range := PySem.W.mg_none_of X G z_range
  have B_tuple := PySem.W.mg_none_of X G z_tuple
  have B_int := PySem.W.mg_none_of X G z_int
  have B_sum := PySem.W.mg_none_of X G z_sum
  have B_min := PySem.W.mg_none_of X G z_min
  have B_sorted := PySem.W.mg_none_of X G z_sorted
  have B_repr := PySem.W.mg_none_of X G z_repr
  have B_set := PySem.W.mg_none_of X G z_set
  have A__law_pen := defAt_mk (st := s__law_pen) (ps := ["_law_script"]) X G a0 l0 c0 k0 fun _ _ _ _ _ _ us hl => match us, hl with | [_], _ => rfl
  have A__law_draw := defAt_mk (st := s__law_draw) (ps := ["_law_pen_here", "_law_many"]) X G a1 l1 c1 k1 fun _ _ _ _ _ _ us hl => match us, hl with | [_, _], _ => rfl
  have A__law_letters := defAt_mk (st := s__law_letters) (ps := ["_law_pen_here", "_law_size"]) X G a2 l2 c2 k2 fun _ _ _ _ _ _ us hl => match us, hl with | [_, _], _ => rfl
  have A__law_fresh := defAt_mk (st := s__law_fresh) (ps := ["_law_pen_here", "_law_taken"]) X G a3 l3 c3 k3 fun _ _ _ _ _ _ us hl => match us, hl with | [_, _], _ => rfl
  have A__law_names := defAt_mk (st := s__law_names) (ps := ["_law_pen_here", "_law_many"]) X G a4 l4 c4 k4 fun _ _ _ _ _ _ us hl => match us, hl with | [_, _], _ => rfl
  have A__law_leaf := defAt_mk (st := s__law_leaf) (ps := ["_law_pen_here", "_law_env"]) X G a5 l5 c5 k5 fun _ _ _ _ _ _ us hl => match us, hl with | [_, _], _ => rfl
  have A__law_expression := defAt_mk (st := s__law_expression) (ps := ["_law_pen_here", "_law_env", "_law_room", "_law_deep"]) X G a6 l6 c6 k6 fun _ _ _ _ _ _ us hl => match us, hl with | [_, _, _, _], _ => rfl
  have A__law_word := defAt_mk (st := s__law_word) (ps := ["_law_pen_here"]) X G a7 l7 c7 k7 fun _ _ _ _ _ _ us hl => match us, hl with | [_], _ => rfl
  have A__law_simple := defAt_mk (st := s__law_simple) (ps := ["_law_pen_here", "_law_env", "_law_in_while"]) X G a8 l8 c8 k8 fun _ _ _ _ _ _ us hl => match us, hl with | [_, _, _], _ => rfl
  have A__law_inner := defAt_mk (st := s__law_inner) (ps := ["_law_deed_here"]) X G a9 l9 c9 k9 fun _ _ _ _ _ _ us hl => match us, hl with | [_], _ => rfl
  have A__law_count := defAt_mk (st := s__law_count) (ps := ["_law_block_here"]) X G a10 l10 c10 k10 fun _ _ _ _ _ _ us hl => match us, hl with | [_], _ => rfl
  have A__law_try := defAt_mk (st := s__law_try) (ps := ["_law_pen_here", "_law_env", "_law_deep", "_law_in_while", "_law_left"]) X G a11 l11 c11 k11 fun _ _ _ _ _ _ us hl => match us, hl with | [_, _, _, _, _], _ => rfl
  have A__law_deed := defAt_mk (st := s__law_deed) (ps := ["_law_pen_here", "_law_env", "_law_deep", "_law_in_while", "_law_left"]) X G a12 l12 c12 k12 fun _ _ _ _ _ _ us hl => match us, hl with | [_, _, _, _, _], _ => rfl
  have A__law_block := defAt_mk (st := s__law_block) (ps := ["_law_pen_here", "_law_env", "_law_deep", "_law_in_while", "_law_left"]) X G a13 l13 c13 k13 fun _ _ _ _ _ _ us hl => match us, hl with | [_, _, _, _, _], _ => rfl
  have A__law_book := defAt_mk (st := s__law_book) (ps := ["_law_pen_here", "_law_rules", "_law_deeds"]) X G a14 l14 c14 k14 fun _ _ _ _ _ _ us hl => match us, hl with | [_, _, _], _ => rfl
  have A__law_vars := defAt_mk (st := s__law_vars) (ps := ["_law_expression_here"]) X G a15 l15 c15 k15 fun _ _ _ _ _ _ us hl => match us, hl with | [_], _ => rfl
  have A__law_own_names := defAt_mk (st := s__law_own_names) (ps := ["_law_deed_here"]) X G a16 l16 c16 k16 fun _ _ _ _ _ _ us hl => match us, hl with | [_], _ => rfl
  have A__law_all_names := defAt_mk (st := s__law_all_names) (ps := ["_law_block_here"]) X G a17 l17 c17 k17 fun _ _ _ _ _ _ us hl => match us, hl with | [_], _ => rfl
  have A_blocks_of := defAt_mk (st := s_blocks_of) (ps := ["deed"]) X G a18 l18 c18 k18 fun _ _ _ _ _ _ us hl => match us, hl with | [_], _ => rfl
  have A_deeds_in := defAt_mk (st := s_deeds_in) (ps := ["block"]) X G a19 l19 c19 k19 fun _ _ _ _ _ _ us hl => match us, hl with | [_], _ => rfl
  have A_targets_of := defAt_mk (st := s_targets_of) (ps := ["deed"]) X G a20 l20 c20 k20 fun _ _ _ _ _ _ us hl => match us, hl with | [_], _ => rfl
  have A_expressions_of := defAt_mk (st := s_expressions_of) (ps := ["deed"]) X G a21 l21 c21 k21 fun _ _ _ _ _ _ us hl => match us, hl with | [_], _ => rfl
  have A_inner_expressions := defAt_mk (st := s_inner_expressions) (ps := ["expression"]) X G a22 l22 c22 k22 fun _ _ _ _ _ _ us hl => match us, hl with | [_], _ => rfl
  have A_names_in := defAt_mk (st := s_names_in) (ps := ["expression"]) X G a23 l23 c23 k23 fun _ _ _ _ _ _ us hl => match us, hl with | [_], _ => rfl
  have A_variables := defAt_mk (st := s_variables) (ps := ["rule"]) X G a24 l24 c24 k24 fun _ _ _ _ _ _ us hl => match us, hl with | [_], _ => rfl
  have A_law := defAt_mk (st := s_law) (ps := ["_law_script"]) X G a25 l25 c25 k25 fun _ _ _ _ _ _ us hl => match us, hl with | [_], _ => rfl
  refine ⟨PySem.W.fnOf "law" "law" (defArgs s_law) (defBody s_law) (defScope s_law) .none kV25 dc25 pm25 an25 cd25 ct25, fun s v => .of_eq rfl, fun base _ _ => ?_⟩
  have D__law_pen : DefG P w K mg base 1 "_law_pen" 1 g__law_pen := ok__law_pen (k := 0) A__law_pen B_list
  have D__law_draw : DefG P w K mg base 1 "_law_draw" 2 g__law_draw := ok__law_draw (k := 0) A__law_draw B_len B_abs
  have D__law_letters : DefG P w K mg base 2 "_law_letters" 2 g__law_letters := ok__law_letters (k := 1) A__law_letters B_range (D__law_draw.mono (by decide))
  have D__law_fresh : DefG P w K mg base 3 "_law_fresh" 2 g__law_fresh := ok__law_fresh (k := 2) A__law_fresh B_len (D__law_draw.mono (by decide)) (D__law_letters.mono (by decide))
  have D__law_names : DefG P w K mg base 4 "_law_names" 2 g__law_names := ok__law_names (k := 3) A__law_names B_range (D__law_fresh.mono (by decide))
  have D__law_leaf : DefG P w K mg base 2 "_law_leaf" 2 g__law_leaf := ok__law_leaf (k := 1) A__law_leaf B_len (D__law_draw.mono (by decide))
  have R__law_expression : ∀ n : Nat, DefG P w K mg base (2 + n) "_law_expression" 4 (r__law_expression n) := by
    intro n
    induction n with
    | zero => exact (defG_bad A__law_expression).mono (Nat.zero_le _)
    | succ n ih =>
      have I__law_expression := ih
      exact ok__law_expression (k := 2 + n) A__law_expression B_len B_range B_tuple (D__law_draw.mono (Nat.le_trans (by decide) (Nat.le_add_right _ _))) (D__law_leaf.mono (Nat.le_trans (by decide) (Nat.le_add_right _ _))) I__law_expression
  have D__law_expression : DefG P w K mg base 42 "_law_expression" 4 g__law_expression := R__law_expression 40
  have D__law_word : DefG P w K mg base 3 "_law_word" 1 g__law_word := ok__law_word (k := 2) A__law_word B_int (D__law_letters.mono (by decide)) (D__law_draw.mono (by decide))
  have D__law_simple : DefG P w K mg base 43 "_law_simple" 3 g__law_simple := ok__law_simple (k := 42) A__law_simple B_int B_range B_len (D__law_draw.mono (by decide)) (D__law_expression.mono (by decide)) (D__law_word.mono (by decide))
  have D__law_inner : DefG P w K mg base 1 "_law_inner" 1 g__law_inner := ok__law_inner (k := 0) A__law_inner
  have R__law_count : ∀ n : Nat, DefG P w K mg base (1 + n) "_law_count" 1 (r__law_count n) := by
    intro n
    induction n with
    | zero => exact (defG_bad A__law_count).mono (Nat.zero_le _)
    | succ n ih =>
      have I__law_count := ih
      exact ok__law_count (k := 1 + n) A__law_count B_sum (D__law_inner.mono (Nat.le_trans (by decide) (Nat.le_add_right _ _))) I__law_count
  have D__law_count : DefG P w K mg base 41 "_law_count" 1 g__law_count := R__law_count 40
  have R__law_try : ∀ n : Nat, DefG P w K mg base (43 + n) "_law_try" 5 (r__law_try n) ∧ DefG P w K mg base (43 + n) "_law_deed" 5 (r__law_deed n) ∧ DefG P w K mg base (43 + n) "_law_block" 5 (r__law_block n) := by
    intro n
    induction n with
    | zero => exact ⟨(defG_bad A__law_try).mono (Nat.zero_le _), (defG_bad A__law_deed).mono (Nat.zero_le _), (defG_bad A__law_block).mono (Nat.zero_le _)⟩
    | succ n ih =>
      obtain ⟨I__law_try, I__law_deed, I__law_block⟩ := ih
      exact ⟨ok__law_try (k := 43 + n) A__law_try B_min B_range B_len B_tuple (D__law_draw.mono (Nat.le_trans (by decide) (Nat.le_add_right _ _))) I__law_block (D__law_word.mono (Nat.le_trans (by decide) (Nat.le_add_right _ _))),
        ok__law_deed (k := 43 + n) A__law_deed (D__law_draw.mono (Nat.le_trans (by decide) (Nat.le_add_right _ _))) (D__law_simple.mono (Nat.le_trans (by decide) (Nat.le_add_right _ _))) I__law_try (D__law_expression.mono (Nat.le_trans (by decide) (Nat.le_add_right _ _))) I__law_block,
        ok__law_block (k := 43 + n) A__law_block B_len B_tuple (D__law_draw.mono (Nat.le_trans (by decide) (Nat.le_add_right _ _))) I__law_deed (D__law_count.mono (Nat.le_trans (by decide) (Nat.le_add_right _ _)))⟩
  have D__law_try : DefG P w K mg base 83 "_law_try" 5 g__law_try := (R__law_try 40).1
  have D__law_deed : DefG P w K mg base 83 "_law_deed" 5 g__law_deed := (R__law_try 40).2.1
  have D__law_block : DefG P w K mg base 83 "_law_block" 5 g__law_block := (R__law_try 40).2.2
  have D__law_book : DefG P w K mg base 84 "_law_book" 3 g__law_book := ok__law_book (k := 83) A__law_book B_tuple B_list B_range B_len (D__law_names.mono (by decide)) (D__law_draw.mono (by decide)) (D__law_fresh.mono (by decide)) (D__law_block.mono (by decide))
  have R__law_vars : ∀ n : Nat, DefG P w K mg base (0 + n) "_law_vars" 1 (r__law_vars n) := by
    intro n
    induction n with
    | zero => exact (defG_bad A__law_vars).mono (Nat.zero_le _)
    | succ n ih =>
      have I__law_vars := ih
      exact ok__law_vars (k := 0 + n) A__law_vars I__law_vars
  have D__law_vars : DefG P w K mg base 40 "_law_vars" 1 g__law_vars := R__law_vars 40
  have D__law_own_names : DefG P w K mg base 41 "_law_own_names" 1 g__law_own_names := ok__law_own_names (k := 40) A__law_own_names (D__law_vars.mono (by decide))
  have R__law_all_names : ∀ n : Nat, DefG P w K mg base (41 + n) "_law_all_names" 1 (r__law_all_names n) := by
    intro n
    induction n with
    | zero => exact (defG_bad A__law_all_names).mono (Nat.zero_le _)
    | succ n ih =>
      have I__law_all_names := ih
      exact ok__law_all_names (k := 41 + n) A__law_all_names (D__law_own_names.mono (Nat.le_trans (by decide) (Nat.le_add_right _ _))) (D__law_inner.mono (Nat.le_trans (by decide) (Nat.le_add_right _ _))) I__law_all_names
  have D__law_all_names : DefG P w K mg base 81 "_law_all_names" 1 g__law_all_names := R__law_all_names 40
  have D_blocks_of : DefG P w K mg base 1 "blocks_of" 1 g_blocks_of := ok_blocks_of (k := 0) A_blocks_of
  have R_deeds_in : ∀ n : Nat, DefG P w K mg base (1 + n) "deeds_in" 1 (r_deeds_in n) := by
    intro n
    induction n with
    | zero => exact (defG_bad A_deeds_in).mono (Nat.zero_le _)
    | succ n ih =>
      have I_deeds_in := ih
      exact ok_deeds_in (k := 1 + n) A_deeds_in (D_blocks_of.mono (Nat.le_trans (by decide) (Nat.le_add_right _ _))) I_deeds_in
  have D_deeds_in : DefG P w K mg base 41 "deeds_in" 1 g_deeds_in := R_deeds_in 40
  have D_targets_of : DefG P w K mg base 1 "targets_of" 1 g_targets_of := ok_targets_of (k := 0) A_targets_of
  have D_expressions_of : DefG P w K mg base 1 "expressions_of" 1 g_expressions_of := ok_expressions_of (k := 0) A_expressions_of
  have D_inner_expressions : DefG P w K mg base 1 "inner_expressions" 1 g_inner_expressions := ok_inner_expressions (k := 0) A_inner_expressions B_list
  have R_names_in : ∀ n : Nat, DefG P w K mg base (1 + n) "names_in" 1 (r_names_in n) := by
    intro n
    induction n with
    | zero => exact (defG_bad A_names_in).mono (Nat.zero_le _)
    | succ n ih =>
      have I_names_in := ih
      exact ok_names_in (k := 1 + n) A_names_in (D_inner_expressions.mono (Nat.le_trans (by decide) (Nat.le_add_right _ _))) I_names_in
  have D_names_in : DefG P w K mg base 41 "names_in" 1 g_names_in := R_names_in 40
  have D_variables : DefG P w K mg base 42 "variables" 1 g_variables := ok_variables (k := 41) A_variables B_tuple B_sorted (D_deeds_in.mono (by decide)) (D_targets_of.mono (by decide)) (D_expressions_of.mono (by decide)) (D_names_in.mono (by decide))
  exact okX_law (k := 84) A_law B_int B_repr B_sorted B_set B_tuple (D__law_pen.mono (by decide)) (D__law_draw.mono (by decide)) (D__law_book.mono (by decide)) (D__law_all_names.mono (by decide)) (D_variables.mono (by decide))
end K10

set_option Elab.async false
set_option linter.all false
set_option maxRecDepth 100000
set_option autoImplicit false
/-! M10: names of expressions and deeds. -/
namespace K10
open PySem PySem.Spec PyProof.Rows L2 Ev BG BP BQ BR
mutual
def nm : Ex → List Str
  | .non => []
  | .num _ => []
  | .var x => [x]
  | .op _ a b => nm a ++ nm b
  | .mk _ as => nms as
def nms : Exs → List Str
  | .nil => []
  | .cons e es => nm e ++ nms es
end
def xl : Exs → List Ex
  | .nil => []
  | .cons e es => e :: xl es
theorem xl_ds : ∀ es : Exs, es.ds = (xl es).map Ex.d
  | .nil => rfl
  | .cons e es => by simp only [Exs.ds, xl, List.map_cons, xl_ds es]
theorem nms_l : ∀ es : Exs, nms es = (xl es).flatMap nm
  | .nil => rfl
  | .cons e es => by simp only [nms, xl, List.flatMap_cons, nms_l es]
def kids : Ex → List Ex
  | .op _ a b => [a, b]
  | .mk _ as => xl as
  | _ => []
def eh : Ex → Str
  | .non => "none"
  | .num _ => "number"
  | .var _ => "var"
  | .op _ _ _ => "op"
  | .mk _ _ => "make"
theorem q_ehead {e : Ex} {m : Mem} {Q : D → Mem → Prop} {XX : XQ} (h : Q (.str (eh e)) m) : wp (Res.of (opIx e.d (.int 0) m) m) Q XX := by
  cases e <;> exact h
theorem ne_var {e : Ex} (h : ¬ ∃ x, e = .var x) : ¬ eh e = "var" := by
  cases e
  case var x => exact absurd ⟨x, rfl⟩ h
  all_goals (simp only [eh]; decide +kernel)
theorem nm_kids {e : Ex} (h : ¬ ∃ x, e = .var x) : nm e = (kids e).flatMap nm := by
  cases e
  case var x => exact absurd ⟨x, rfl⟩ h
  case op s a b => simp [nm, kids]
  case mk f as => simp only [nm, kids, nms_l]
  all_goals rfl
mutual
theorem nm_len : ∀ e : Ex, (nm e).length ≤ e.sz
  | .non => by simp [nm, Ex.sz]
  | .num _ => by simp [nm, Ex.sz]
  | .var x => by simp [nm, Ex.sz]
  | .op s a b => by
    have := nm_len a
    have := nm_len b
    simp only [nm, Ex.sz, List.length_append]; omega
  | .mk f as => by
    have := nms_len as
    simp only [nm, Ex.sz]; omega
theorem nms_len : ∀ es : Exs, (nms es).length ≤ es.sz
  | .nil => by simp [nms, Exs.sz]
  | .cons e es => by
    have := nm_len e
    have := nms_len es
    simp only [nms, Exs.sz, List.length_append]; omega
end
theorem xl_dp : ∀ (es : Exs) (k : Ex), k ∈ xl es → k.dp ≤ es.dp ∧ k.sz ≤ es.sz
  | .nil, k, h => by simp [xl] at h
  | .cons e es, k, h => by
    simp only [xl, List.mem_cons] at h
    simp only [Exs.dp, Exs.sz]
    rcases h with rfl | h
    · exact ⟨Nat.le_max_left _ _, by omega⟩
    · have := xl_dp es k h
      exact ⟨Nat.le_trans this.1 (Nat.le_max_right _ _), by omega⟩
theorem kid_dp {e k : Ex} (h : k ∈ kids e) : k.dp < e.dp ∧ k.sz < e.sz := by
  cases e
  case op s a b =>
    simp only [kids, List.mem_cons, List.not_mem_nil, or_false] at h
    simp only [Ex.dp, Ex.sz]
    rcases h with rfl | rfl <;> omega
  case mk f as =>
    have := xl_dp as k h
    simp only [Ex.dp, Ex.sz]; omega
  all_goals simp [kids] at h
theorem dp_pos (e : Ex) : 1 ≤ e.dp := by cases e <;> simp only [Ex.dp] <;> omega
mutual
theorem nm_ok : ∀ e : Ex, e.ok = true → ∀ s ∈ nm e, okS s = true
  | .non, _, s, h => by simp [nm] at h
  | .num _, _, s, h => by simp [nm] at h
  | .var x, k, s, h => by
    simp only [nm, List.mem_singleton] at h
    subst h; exact k
  | .op f a b, k, s, h => by
    simp only [Ex.ok, Bool.and_eq_true] at k
    simp only [nm, List.mem_append] at h
    rcases h with h | h
    · exact nm_ok a k.1.2 s h
    · exact nm_ok b k.2 s h
  | .mk f as, k, s, h => by
    simp only [Ex.ok, Bool.and_eq_true] at k
    exact nms_ok as k.2 s h
theorem nms_ok : ∀ es : Exs, es.ok = true → ∀ s ∈ nms es, okS s = true
  | .nil, _, s, h => by simp [nms] at h
  | .cons e es, k, s, h => by
    simp only [Exs.ok, Bool.and_eq_true] at k
    simp only [nms, List.mem_append] at h
    rcases h with h | h
    · exact nm_ok e k.1 s h
    · exact nms_ok es k.2 s h
end
theorem inner_ex (e : Ex) (m : Mem) : wp (g_inner_expressions [e.d] m) (fun v m' => m' = m ∧ v = .lst ((kids e).map Ex.d)) noX := by
  refine w_body rfl ?_
  unfold m_inner_expressions
  cases e
  case mk f as =>
    simp only [Ex.d]
    rw [xl_ds]
    (repeat' (first | (with_reducible first | refine w_seq ?_ | refine w_if ?_ | refine w_ret ?_ | refine w_skip ?_ | refine v_c ?_ | refine v_op ?_ | refine v_cb ?_ | refine a_nil ?_ | refine a_cons ?_ | refine t_t ?_ | refine ex_bl ?_ | refine q_es ?_ | refine q_listT ?_) | (with_reducible refine v_vx ?_; refine ex_v rfl ?_) | (with_reducible refine q_ixT ?_; refine ex_o rfl ?_) | (with_reducible refine pick_dT (by decide +kernel) ?_) | (with_reducible refine pick_dF (by decide +kernel) ?_) | fail))
    exact ⟨rfl, rfl⟩
  all_goals
    simp only [Ex.d]
    (repeat' (first | (with_reducible first | refine w_seq ?_ | refine w_if ?_ | refine w_ret ?_ | refine w_skip ?_ | refine v_c ?_ | refine v_op ?_ | refine v_cb ?_ | refine a_nil ?_ | refine a_cons ?_ | refine v_lst ?_ | refine v_sl ?_ | refine o_partN ?_ | refine o_part ?_ | refine t_t ?_ | refine ex_bl ?_ | refine q_es ?_ | refine q_listT ?_ | refine ex_part ?_) | (with_reducible refine v_vx ?_; refine ex_v rfl ?_) | (with_reducible refine q_ixT ?_; refine ex_o rfl ?_) | (with_reducible refine len_ok (by simp [sizeLine_eq]) ?_) | ((fail_if_success (with_reducible refine i_rng ?_ ?_ ?_)); (with_reducible refine wp_ofx ?_; refine ex_o rfl ?_)) | (with_reducible refine pick_dT (by decide +kernel) ?_) | (with_reducible refine pick_dF (by decide +kernel) ?_) | fail))
    exact ⟨rfl, rfl⟩
theorem names_ : ∀ (n : Nat) (e : Ex) (t : Nat) (m : Mem), e.dp ≤ n → e.sz ≤ 100 → PM t m → wp (r_names_in n [e.d] m) (fun v m' => PM t m' ∧ Ch m m' ∧ v = .lst ((nm e).map D.str)) noX
  | 0, e, t, m, h, _, _ => by have := dp_pos e; omega
  | n + 1, e, t, m, h, hs, p => by
    have ih := names_ n
    have c0 := Ch.refl m
    have hn0 := p.nx
    unfold r_names_in
    refine w_body rfl ?_
    unfold m_names_in
    by_cases hv : ∃ x, e = .var x
    · obtain ⟨x, rfl⟩ := hv
      simp only [Ex.d]
      (repeat' (first | (with_reducible first | refine w_seq ?_ | refine w_if ?_ | refine w_ret ?_ | refine v_c ?_ | refine v_op ?_ | refine a_nil ?_ | refine a_cons ?_ | refine v_lst ?_ | refine t_t ?_ | refine ex_bl ?_ | refine q_es ?_) | (with_reducible refine v_vx ?_; refine ex_v rfl ?_) | (with_reducible refine q_ixT ?_; refine ex_o rfl ?_) | (with_reducible refine len_ok (by simp [sizeLine_eq]) ?_) | (with_reducible refine pick_dT (by decide +kernel) ?_) | fail))
      exact ⟨p, c0, rfl⟩
    (repeat' (first | (with_reducible first | refine w_seq ?_ | refine w_if ?_ | refine v_c ?_ | refine v_op ?_ | refine t_t ?_) | (with_reducible refine v_vx ?_; refine ex_v rfl ?_) | fail))
    refine q_ehead ?_
    (repeat' (first | (with_reducible first | refine v_c ?_ | refine ex_bl ?_ | refine q_es ?_) | fail))
    refine pick_f (decide_eq_false (ne_var hv)) ?_
    (repeat' (first | (with_reducible first | refine w_seq ?_ | refine w_set ?_ | refine w_for ?_ | refine w_skip ?_ | refine v_call ?_ | refine a_nil ?_ | refine a_cons ?_ | refine v_newL ?_ | refine i_iter ?_) | (with_reducible refine v_vx ?_; refine ex_v rfl ?_) | (with_reducible refine len_ok (by simp [sizeLine_eq]) ?_) | fail))
    refine wp_imp (inner_ex e _) ?_
    rintro _ _ ⟨rfl, rfl⟩
    (repeat' (first | (with_reducible first | refine q_itL ?_) | fail))
    have tot := nm_len e
    rw [nm_kids hv] at tot
    refine w_loop (I := fun ds s m1 => ∃ (done todo : List Ex) (o : Option D), s = [some e.d, some (.ref m.nx), o] ∧ kids e = done ++ todo ∧ ds = todo.map Ex.d ∧ m1.ob m.nx = some (.lst ((done.flatMap nm).map D.str)) ∧ PM t m1 ∧ Ch m m1) ?_ ?_ ?_
    · exact ⟨[], kids e, none, rfl, rfl, rfl, add_ob _ _, p.addO _, c0.addO _⟩
    · rintro s m1 ⟨done, todo, o, rfl, e1, e2, h1, p1, c1⟩
      cases todo with
      | cons _ _ => cases e2
      | nil =>
        rw [List.append_nil] at e1
        refine w_seq (w_frz rfl h1 ?_)
        (repeat' (first | (with_reducible first | refine w_ret ?_) | (with_reducible refine v_vx ?_; refine ex_v rfl ?_) | fail))
        exact ⟨p1.killO (by omega), c1.killO (Nat.le_refl _), by rw [nm_kids hv, e1]⟩
    · rintro x xs s m1 ⟨done, todo, o, rfl, e1, e2, h1, p1, c1⟩
      cases todo with
      | nil => cases e2
      | cons k todo =>
        obtain ⟨rfl, rfl⟩ := List.cons.inj e2
        have hk : k ∈ kids e := by rw [e1]; simp
        have hd := kid_dp hk
        have hlt := ob_lt p1 h1
        rw [e1] at tot
        simp only [List.flatMap_append, List.flatMap_cons, List.length_append] at tot
        refine ⟨_, rfl, ?_⟩
        (repeat' (first | (with_reducible first | refine w_drop ?_ | refine v_l1 ?_) | (with_reducible refine v_vx ?_; refine ex_v rfl ?_) | fail))
        refine ⟨isL_ref h1, ?_⟩
        (repeat' (first | (with_reducible first | refine v_call ?_ | refine a_nil ?_ | refine a_cons ?_) | (with_reducible refine v_vx ?_; refine ex_v rfl ?_) | fail))
        refine wp_imp (ih k t m1 (by omega) (by omega) p1) ?_
        rintro _ m2 ⟨p2, c2, rfl⟩
        have h2 := (c2.ob _ (by omega) hlt).trans h1
        refine v_ext h2 rfl (by simp only [List.length_map, sizeLine_eq]; omega) ?_
        refine ⟨done ++ [k], todo, _, rfl, by rw [e1]; simp, rfl, ?_, p2.putO (by omega) (ob_lt p2 h2) _, (c1.trans c2).putO (Nat.le_refl _) _⟩
        rw [put_ob]; simp
def p1 : Ex → D
  | .op _ a b => .tup [a.d, b.d]
  | _ => .lst []
def p2 : Ex → D
  | .op _ a b => .tup [a.d, b.d]
  | .mk _ as => .tup as.ds
  | _ => .lst []
theorem p2_items (e : Ex) {m : Mem} {QA : List D → Mem → Prop} {XX : XQ} (h : QA ((kids e).map Ex.d) m) : wp (Res.of (itemsOf m (p2 e)) m) QA XX := by
  cases e
  case mk f as =>
    have q : as.ds = (kids (.mk f as)).map Ex.d := xl_ds as
    show wp (Res.of (itemsOf m (.tup as.ds)) m) QA XX
    rw [q]
    exact h
  all_goals exact h
theorem vars_ : ∀ (n : Nat) (e : Ex) (t : Nat) (m : Mem), e.dp ≤ n → e.sz ≤ 100 → PM t m → wp (r__law_vars n [e.d] m) (fun v m' => PM t m' ∧ Ch m m' ∧ v = .lst ((nm e).map D.str)) noX
  | 0, e, t, m, h, _, _ => by have := dp_pos e; omega
  | n + 1, e, t, m, h, hs, p => by
    have ih := vars_ n
    have c0 := Ch.refl m
    have hn0 := p.nx
    unfold r__law_vars
    refine w_body rfl ?_
    unfold m__law_vars
    by_cases hv : ∃ x, e = .var x
    · obtain ⟨x, rfl⟩ := hv
      simp only [Ex.d]
      (repeat' (first | (with_reducible first | refine w_seq ?_ | refine w_if ?_ | refine w_ret ?_ | refine v_c ?_ | refine v_op ?_ | refine a_nil ?_ | refine a_cons ?_ | refine v_lst ?_ | refine t_t ?_ | refine ex_bl ?_ | refine q_es ?_) | (with_reducible refine v_vx ?_; refine ex_v rfl ?_) | (with_reducible refine q_ixT ?_; refine ex_o rfl ?_) | (with_reducible refine len_ok (by simp [sizeLine_eq]) ?_) | (with_reducible refine pick_dT (by decide +kernel) ?_) | fail))
      exact ⟨p, c0, rfl⟩
    (repeat' (first | (with_reducible first | refine w_seq ?_ | refine w_if ?_ | refine v_c ?_ | refine v_op ?_ | refine t_t ?_) | (with_reducible refine v_vx ?_; refine ex_v rfl ?_) | fail))
    refine q_ehead ?_
    (repeat' (first | (with_reducible first | refine v_c ?_ | refine ex_bl ?_ | refine q_es ?_) | fail))
    refine pick_f (decide_eq_false (ne_var hv)) ?_
    refine w_skip ?_
    refine w_seq ?_
    refine w_set ?_
    refine v_newL ?_
    refine a_nil ?_
    refine len_ok (by simp [sizeLine_eq]) ?_
    refine w_seq ?_
    refine w_set ?_
    refine v_lst ?_
    refine a_nil ?_
    refine len_ok (by simp [sizeLine_eq]) ?_
    refine w_seqI (fun s2 m2 => s2 = [some e.d, some (.ref m.nx), some (p1 e), none] ∧ m2 = m.add (.lst [])) ?_ ?_
    · cases e
      all_goals
        simp only [Ex.d]
        (repeat' (first | (with_reducible first | refine w_set ?_ | refine w_if ?_ | refine w_skip ?_ | refine v_c ?_ | refine v_op ?_ | refine v_sl ?_ | refine o_partN ?_ | refine o_part ?_ | refine t_t ?_ | refine ex_bl ?_ | refine q_es ?_ | refine ex_part ?_) | (with_reducible refine v_vx ?_; refine ex_v rfl ?_) | (with_reducible refine q_ixT ?_; refine ex_o rfl ?_) | ((fail_if_success (with_reducible refine i_rng ?_ ?_ ?_)); (with_reducible refine wp_ofx ?_; refine ex_o rfl ?_)) | (with_reducible refine pick_dT (by decide +kernel) ?_) | (with_reducible refine pick_dF (by decide +kernel) ?_) | fail))
        exact ⟨rfl, rfl⟩
    rintro _ _ ⟨rfl, rfl⟩
    refine w_seqI (fun s2 m2 => s2 = [some e.d, some (.ref m.nx), some (p2 e), none] ∧ m2 = m.add (.lst [])) ?_ ?_
    · cases e
      all_goals
        simp only [Ex.d, p1]
        (repeat' (first | (with_reducible first | refine w_set ?_ | refine w_if ?_ | refine w_skip ?_ | refine v_c ?_ | refine v_op ?_ | refine t_t ?_ | refine ex_bl ?_ | refine q_es ?_) | (with_reducible refine v_vx ?_; refine ex_v rfl ?_) | (with_reducible refine q_ixT ?_; refine ex_o rfl ?_) | (with_reducible refine pick_dT (by decide +kernel) ?_) | (with_reducible refine pick_dF (by decide +kernel) ?_) | fail))
        exact ⟨rfl, rfl⟩
    rintro _ _ ⟨rfl, rfl⟩
    (repeat' (first | (with_reducible first | refine w_seq ?_ | refine w_for ?_ | refine i_iter ?_) | (with_reducible refine v_vx ?_; refine ex_v rfl ?_) | fail))
    refine p2_items e ?_
    have tot := nm_len e
    rw [nm_kids hv] at tot
    refine w_loop (I := fun ds s m1 => ∃ (done todo : List Ex) (o : Option D), s = [some e.d, some (.ref m.nx), some (p2 e), o] ∧ kids e = done ++ todo ∧ ds = todo.map Ex.d ∧ m1.ob m.nx = some (.lst ((done.flatMap nm).map D.str)) ∧ PM t m1 ∧ Ch m m1) ?_ ?_ ?_
    · exact ⟨[], kids e, none, rfl, rfl, rfl, add_ob _ _, p.addO _, c0.addO _⟩
    · rintro s m1 ⟨done, todo, o, rfl, e1, e2, h1, p1, c1⟩
      cases todo with
      | cons _ _ => cases e2
      | nil =>
        rw [List.append_nil] at e1
        refine w_seq (w_frz rfl h1 ?_)
        (repeat' (first | (with_reducible first | refine w_ret ?_) | (with_reducible refine v_vx ?_; refine ex_v rfl ?_) | fail))
        exact ⟨p1.killO (by omega), c1.killO (Nat.le_refl _), by rw [nm_kids hv, e1]⟩
    · rintro x xs s m1 ⟨done, todo, o, rfl, e1, e2, h1, p1, c1⟩
      cases todo with
      | nil => cases e2
      | cons k todo =>
        obtain ⟨rfl, rfl⟩ := List.cons.inj e2
        have hk : k ∈ kids e := by rw [e1]; simp
        have hd := kid_dp hk
        have hlt := ob_lt p1 h1
        rw [e1] at tot
        simp only [List.flatMap_append, List.flatMap_cons, List.length_append] at tot
        refine ⟨_, rfl, ?_⟩
        (repeat' (first | (with_reducible first | refine w_drop ?_ | refine v_l1 ?_) | (with_reducible refine v_vx ?_; refine ex_v rfl ?_) | fail))
        refine ⟨isL_ref h1, ?_⟩
        (repeat' (first | (with_reducible first | refine v_call ?_ | refine a_nil ?_ | refine a_cons ?_) | (with_reducible refine v_vx ?_; refine ex_v rfl ?_) | fail))
        refine wp_imp (ih k t m1 (by omega) (by omega) p1) ?_
        rintro _ m2 ⟨p2, c2, rfl⟩
        have h2 := (c2.ob _ (by omega) hlt).trans h1
        refine v_ext h2 rfl (by simp only [List.length_map, sizeLine_eq]; omega) ?_
        refine ⟨done ++ [k], todo, _, rfl, by rw [e1]; simp, rfl, ?_, p2.putO (by omega) (ob_lt p2 h2) _, (c1.trans c2).putO (Nat.le_refl _) _⟩
        rw [put_ob]; simp
end K10

set_option Elab.async false
set_option linter.all false
set_option maxRecDepth 100000
set_option autoImplicit false
/-! M10b: names of deeds and blocks. -/
namespace K10
open PySem PySem.Spec PyProof.Rows L2 Ev BG BP BQ BR
def exs : Deed → List Ex
  | .lt _ e => [e]
  | .give _ e => [e]
  | .on _ e => [e]
  | .note e => [e]
  | .close e => [e]
  | .fin e => [e]
  | .ask _ _ a e => [a, e]
  | .cast _ _ a _ e => [a, e]
  | .leave => []
  | .fault _ e => [e]
  | .ifd e _ _ => [e]
  | .whl e _ => [e]
  | .tr _ _ _ => []
def tgs : Deed → List Str
  | .lt x _ => [x]
  | .give x _ => [x]
  | .on x _ => [x]
  | .ask x y _ _ => [x, y]
  | .cast x y _ _ _ => [x, y]
  | .tr _ cs _ => cs.l.map fun p => p.2.1
  | _ => []
def own (d : Deed) : List Str := tgs d ++ (exs d).flatMap nm
mutual
def anB : Blk → List Str
  | .nil => []
  | .cons d b => own d ++ (anI d ++ anB b)
def anI : Deed → List Str
  | .ifd _ b c => anB b ++ anB c
  | .whl _ b => anB b
  | .tr b cs l => anB b ++ (anC cs ++ anB l)
  | _ => []
def anC : Cts → List Str
  | .nil => []
  | .cons _ _ b cs => anB b ++ anC cs
end
mutual
def dB : Blk → List Deed
  | .nil => []
  | .cons d b => d :: (dI d ++ dB b)
def dI : Deed → List Deed
  | .ifd _ b c => dB b ++ dB c
  | .whl _ b => dB b
  | .tr b cs l => dB b ++ (dC cs ++ dB l)
  | _ => []
def dC : Cts → List Deed
  | .nil => []
  | .cons _ _ b cs => dB b ++ dC cs
end
theorem anC_l : ∀ cs : Cts, anC cs = (cs.l.map fun p => p.2.2).flatMap anB
  | .nil => rfl
  | .cons w x b cs => by simp only [anC, Cts.l, List.map_cons, List.flatMap_cons, anC_l cs]
theorem dC_l : ∀ cs : Cts, dC cs = (cs.l.map fun p => p.2.2).flatMap dB
  | .nil => rfl
  | .cons w x b cs => by simp only [dC, Cts.l, List.map_cons, List.flatMap_cons, dC_l cs]
theorem anI_inn (d : Deed) : d.inn.flatMap anB = anI d := by
  cases d <;> simp [Deed.inn, anI, anC_l]
theorem dI_blks (d : Deed) : (blks d).flatMap dB = dI d := by
  cases d
  case tr b cs l =>
    cases l <;> simp [blks, dI, dC_l, dB]
  all_goals simp [blks, dI]
mutual
theorem anB_dB : ∀ b : Blk, anB b = (dB b).flatMap own
  | .nil => rfl
  | .cons d b => by simp only [anB, dB, List.flatMap_cons, List.flatMap_append, anI_dI d, anB_dB b]
theorem anI_dI : ∀ d : Deed, anI d = (dI d).flatMap own
  | .ifd e b c => by simp only [anI, dI, List.flatMap_append, anB_dB b, anB_dB c]
  | .whl e b => by simp only [anI, dI, anB_dB b]
  | .tr b cs l => by simp only [anI, dI, List.flatMap_append, anB_dB b, anC_dC cs, anB_dB l]
  | .lt _ _ => rfl
  | .give _ _ => rfl
  | .on _ _ => rfl
  | .note _ => rfl
  | .close _ => rfl
  | .fin _ => rfl
  | .ask _ _ _ _ => rfl
  | .cast _ _ _ _ _ => rfl
  | .leave => rfl
  | .fault _ _ => rfl
theorem anC_dC : ∀ cs : Cts, anC cs = (dC cs).flatMap own
  | .nil => rfl
  | .cons w x b cs => by simp only [anC, dC, List.flatMap_append, anB_dB b, anC_dC cs]
end
mutual
theorem dB_len : ∀ b : Blk, (dB b).length = b.cnt
  | .nil => rfl
  | .cons d b => by
    have := dI_len d
    have := dB_len b
    simp only [dB, Blk.cnt, List.length_cons, List.length_append]; omega
theorem dI_len : ∀ d : Deed, (dI d).length + 1 = d.cnt
  | .ifd e b c => by
    have := dB_len b
    have := dB_len c
    simp only [dI, Deed.cnt, List.length_append]; omega
  | .whl e b => by
    have := dB_len b
    simp only [dI, Deed.cnt]; omega
  | .tr b cs l => by
    have := dB_len b
    have := dC_len cs
    have := dB_len l
    simp only [dI, Deed.cnt, List.length_append]; omega
  | .lt _ _ => rfl
  | .give _ _ => rfl
  | .on _ _ => rfl
  | .note _ => rfl
  | .close _ => rfl
  | .fin _ => rfl
  | .ask _ _ _ _ => rfl
  | .cast _ _ _ _ _ => rfl
  | .leave => rfl
  | .fault _ _ => rfl
theorem dC_len : ∀ cs : Cts, (dC cs).length = cs.cnt
  | .nil => rfl
  | .cons w x b cs => by
    have := dB_len b
    have := dC_len cs
    simp only [dC, Cts.cnt, List.length_append]; omega
end
mutual
theorem dB_ok : ∀ b : Blk, b.ok = true → ∀ d ∈ dB b, d.ok = true ∧ d.nest ≤ b.nest
  | .nil, _, d, h => by simp [dB] at h
  | .cons e b, k, d, h => by
    simp only [Blk.ok, Bool.and_eq_true] at k
    simp only [dB, List.mem_cons, List.mem_append] at h
    simp only [Blk.nest]
    rcases h with rfl | h | h
    · exact ⟨k.1, Nat.le_max_left _ _⟩
    · have := dI_ok e k.1 d h
      exact ⟨this.1, by omega⟩
    · have := dB_ok b k.2 d h
      exact ⟨this.1, by omega⟩
theorem dI_ok : ∀ e : Deed, e.ok = true → ∀ d ∈ dI e, d.ok = true ∧ d.nest ≤ e.nest
  | .ifd e b c, k, d, h => by
    simp only [Deed.ok, Bool.and_eq_true] at k
    simp only [dI, List.mem_append] at h
    simp only [Deed.nest]
    rcases h with h | h
    · have := dB_ok b k.1.2 d h
      exact ⟨this.1, by omega⟩
    · have := dB_ok c k.2 d h
      exact ⟨this.1, by omega⟩
  | .whl e b, k, d, h => by
    simp only [Deed.ok, Bool.and_eq_true] at k
    simp only [dI] at h
    simp only [Deed.nest]
    have := dB_ok b k.2 d h
    exact ⟨this.1, by omega⟩
  | .tr b cs l, k, d, h => by
    simp only [Deed.ok, Bool.and_eq_true] at k
    simp only [dI, List.mem_append] at h
    simp only [Deed.nest]
    rcases h with h | h | h
    · have := dB_ok b k.1.1.1 d h
      exact ⟨this.1, by omega⟩
    · have := dC_ok cs k.1.1.2 d h
      exact ⟨this.1, by omega⟩
    · have := dB_ok l k.1.2 d h
      exact ⟨this.1, by omega⟩
  | .lt _ _, _, d, h => by simp [dI] at h
  | .give _ _, _, d, h => by simp [dI] at h
  | .on _ _, _, d, h => by simp [dI] at h
  | .note _, _, d, h => by simp [dI] at h
  | .close _, _, d, h => by simp [dI] at h
  | .fin _, _, d, h => by simp [dI] at h
  | .ask _ _ _ _, _, d, h => by simp [dI] at h
  | .cast _ _ _ _ _, _, d, h => by simp [dI] at h
  | .leave, _, d, h => by simp [dI] at h
  | .fault _ _, _, d, h => by simp [dI] at h
theorem dC_ok : ∀ cs : Cts, cs.ok = true → ∀ d ∈ dC cs, d.ok = true ∧ d.nest ≤ cs.nest
  | .nil, _, d, h => by simp [dC] at h
  | .cons w x b cs, k, d, h => by
    simp only [Cts.ok, Bool.and_eq_true] at k
    simp only [dC, List.mem_append] at h
    simp only [Cts.nest]
    rcases h with h | h
    · have := dB_ok b k.1.2 d h
      exact ⟨this.1, by omega⟩
    · have := dC_ok cs k.2 d h
      exact ⟨this.1, by omega⟩
end
theorem okk_of {e : Ex} (h : e.okk = true) : e.ok = true ∧ e.sz ≤ 9 ∧ e.dp ≤ 4 := by
  simp only [Ex.okk, Bool.and_eq_true, decide_eq_true_eq] at h
  exact ⟨h.1.1, h.1.2, h.2⟩
theorem exs_ok {d : Deed} (h : d.ok = true) : ∀ e ∈ exs d, e.ok = true ∧ e.sz ≤ 9 ∧ e.dp ≤ 4 := by
  intro e he
  cases d <;> simp only [exs, List.mem_cons, List.not_mem_nil, or_false] at he <;> simp only [Deed.ok, Bool.and_eq_true] at h
  case ask x y a b =>
    rcases he with rfl | rfl
    · exact okk_of h.1.2
    · exact okk_of h.2
  case cast x y a w b =>
    rcases he with rfl | rfl
    · exact okk_of h.1.1.2
    · exact okk_of h.2
  all_goals
    subst he
    first | exact okk_of h | exact okk_of h.2 | exact okk_of h.1 | exact okk_of h.1.1
theorem tgs_ok {d : Deed} (h : d.ok = true) : ∀ s ∈ tgs d, okS s = true := by
  intro s hs
  cases d <;> simp only [tgs, List.mem_cons, List.not_mem_nil, or_false] at hs <;> simp only [Deed.ok, Bool.and_eq_true] at h
  case ask x y a b =>
    rcases hs with rfl | rfl
    · exact h.1.1.1
    · exact h.1.1.2
  case cast x y a w b =>
    rcases hs with rfl | rfl
    · exact h.1.1.1.1
    · exact h.1.1.1.2
  case tr b cs l =>
    obtain ⟨p, hp, rfl⟩ := List.mem_map.mp hs
    exact (Cts.ok_l cs h.1.1.2 p hp).2.1
  all_goals
    subst hs
    exact h.1
theorem own_ok {d : Deed} (h : d.ok = true) : ∀ s ∈ own d, okS s = true := by
  intro s hs
  unfold own at hs
  rcases List.mem_append.mp hs with q | q
  · exact tgs_ok h s q
  · obtain ⟨e, he, q⟩ := List.mem_flatMap.mp q
    exact nm_ok e (exs_ok h e he).1 s q
theorem own_len {d : Deed} (h : d.ok = true) : (own d).length ≤ 21 ∧ (tgs d).length ≤ 3 ∧ (exs d).length ≤ 2 := by
  have k := exs_ok h
  unfold own
  cases d
  case tr b cs l =>
    simp only [Deed.ok, Bool.and_eq_true, decide_eq_true_eq] at h
    have := cs.len_many
    simp only [tgs, exs, List.length_append, List.length_map, List.flatMap_nil, List.length_nil]
    omega
  case leave => simp [tgs, exs]
  case ask x y a b =>
    have := k a (by simp [exs])
    have := k b (by simp [exs])
    have := nm_len a
    have := nm_len b
    simp only [tgs, exs, List.length_append, List.flatMap_cons, List.flatMap_nil, List.length_cons, List.length_nil]
    omega
  case cast x y a w b =>
    have := k a (by simp [exs])
    have := k b (by simp [exs])
    have := nm_len a
    have := nm_len b
    simp only [tgs, exs, List.length_append, List.flatMap_cons, List.flatMap_nil, List.length_cons, List.length_nil]
    omega
  case ifd e b c =>
    have q := k e (by simp [exs])
    have := nm_len e
    simp only [tgs, exs, List.length_append, List.flatMap_cons, List.flatMap_nil, List.length_cons, List.length_nil]
    omega
  case whl e b =>
    have q := k e (by simp [exs])
    have := nm_len e
    simp only [tgs, exs, List.length_append, List.flatMap_cons, List.flatMap_nil, List.length_cons, List.length_nil]
    omega
  all_goals
    rename_i e
    have q := k e (by simp [exs])
    have := nm_len e
    simp only [tgs, exs, List.length_append, List.flatMap_cons, List.flatMap_nil, List.length_cons, List.length_nil]
    omega
theorem flat_len {α β : Type} (f : α → List β) (k : Nat) : ∀ l : List α, (∀ x ∈ l, (f x).length ≤ k) → (l.flatMap f).length ≤ k * l.length
  | [], _ => by simp
  | x :: l, h => by
    have a := h x (List.mem_cons_self ..)
    have b := flat_len f k l fun y hy => h y (List.mem_cons_of_mem _ hy)
    simp only [List.flatMap_cons, List.length_append, List.length_cons, Nat.mul_add, Nat.mul_one]
    omega
theorem an_len {b : Blk} (h : b.ok = true) : (anB b).length ≤ 21 * b.cnt := by
  rw [anB_dB, ← dB_len b]
  exact flat_len own 21 _ fun d hd => (own_len (dB_ok b h d hd).1).1
theorem an_ok {b : Blk} (h : b.ok = true) : ∀ s ∈ anB b, okS s = true := by
  intro s hs
  rw [anB_dB] at hs
  obtain ⟨d, hd, q⟩ := List.mem_flatMap.mp hs
  exact own_ok (dB_ok b h d hd).1 s q
end K10

set_option Elab.async false
set_option linter.all false
set_option maxRecDepth 100000
set_option autoImplicit false
/-! M10c: the walks of blocks. -/
namespace K10
open PySem PySem.Spec PyProof.Rows L2 Ev BG BP BQ BR
theorem x_vars {e : Ex} (he : e.ok = true ∧ e.sz ≤ 9 ∧ e.dp ≤ 4) {m0 m : Mem} {t j : Nat} {l : List Str} {Q : D → Mem → Prop} {XX : XQ} (h : m.ob j = some (.lst (l.map D.str))) (p : PM t m) (c : Ch m0 m) (hj : m0.nx ≤ j) (h0 : j ≠ 0) (hl : l.length ≤ 100)
    (k : ∀ m2, m2.ob j = some (.lst ((l ++ nm e).map D.str)) → PM t m2 → Ch m0 m2 → Q .non m2) : wp (g__law_vars [e.d] m) (fun y m2 => wp (extD (.ref j) y m2) Q XX) XX := by
  have hlt := ob_lt p h
  refine wp_imp (vars_ 40 e t m (by omega) (by omega) p) ?_
  rintro _ m2 ⟨p2, c2, rfl⟩
  have h2 := (c2.ob _ h0 hlt).trans h
  have := nm_len e
  refine v_ext h2 rfl (by simp only [List.length_map, sizeLine_eq]; omega) ?_
  refine k _ ?_ (p2.putO h0 (ob_lt p2 h2) _) ((c.trans c2).putO hj _)
  rw [put_ob, List.map_append]
set_option maxHeartbeats 4000000 in
theorem own_ (d : Deed) (hd : d.ok = true) {t : Nat} {m : Mem} (p : PM t m) : wp (g__law_own_names [d.d] m) (fun v m' => PM t m' ∧ Ch m m' ∧ v = .lst ((own d).map D.str)) noX := by
  have c0 := Ch.refl m
  have hn := p.nx
  have p1 := p.addO (.lst [])
  have c1 := c0.addO (.lst [])
  have lt1 : m.nx < (m.add (.lst [])).nx := Nat.lt_succ_self _
  have hx := exs_ok hd
  refine w_body rfl ?_
  unfold m__law_own_names
  cases d
  case lt x e =>
    simp only [Deed.d]
    (repeat' (first | (with_reducible first | refine w_seq ?_ | refine w_set ?_ | refine w_if ?_ | refine w_drop ?_ | refine v_c ?_ | refine v_op ?_ | refine a_nil ?_ | refine a_cons ?_ | refine v_tup ?_ | refine v_newL ?_ | refine t_t ?_ | refine v_l1 ?_ | refine ex_bl ?_) | (with_reducible refine v_vx ?_; refine ex_v rfl ?_) | (with_reducible refine q_ixT ?_; refine ex_o rfl ?_) | (with_reducible refine len_ok (by simp [sizeLine_eq]) ?_) | (with_reducible refine q_inT ⟨by decide +kernel, by decide +kernel⟩ ⟨by decide +kernel, by decide +kernel⟩ ?_) | (with_reducible refine pick_t (by decide +kernel) ?_) | fail))
    refine ⟨isL_ref (add_ob _ _), ?_⟩
    (repeat' (first | (with_reducible first | refine v_c ?_ | refine v_op ?_) | (with_reducible refine v_vx ?_; refine ex_v rfl ?_) | (with_reducible refine q_ixT ?_; refine ex_o rfl ?_) | fail))
    refine v_app (add_ob _ _) (by simp [sizeLine_eq]) ?_
    (repeat' (first | (with_reducible first | refine w_seq ?_ | refine w_if ?_ | refine w_drop ?_ | refine w_skip ?_ | refine v_c ?_ | refine v_op ?_ | refine a_nil ?_ | refine a_cons ?_ | refine v_tup ?_ | refine t_t ?_ | refine v_l1 ?_ | refine ex_bl ?_ | refine q_es ?_) | (with_reducible refine v_vx ?_; refine ex_v rfl ?_) | (with_reducible refine len_ok (by simp [sizeLine_eq]) ?_) | (with_reducible refine q_inT ⟨by decide +kernel, by decide +kernel⟩ ⟨by decide +kernel, by decide +kernel⟩ ?_) | (with_reducible refine pick_dF (by decide +kernel) ?_) | (with_reducible refine pick_t (by decide +kernel) ?_) | (with_reducible refine pick_f (by decide +kernel) ?_) | fail))
    refine ⟨isL_ref (put_ob _ _ _), ?_⟩
    (repeat' (first | (with_reducible first | refine v_c ?_ | refine v_op ?_ | refine v_call ?_ | refine a_nil ?_ | refine a_cons ?_) | (with_reducible refine v_vx ?_; refine ex_v rfl ?_) | (with_reducible refine q_ixT ?_; refine ex_o rfl ?_) | fail))
    refine x_vars (l := [x]) (m0 := m) (hx e (by simp [exs])) (put_ob _ _ _) (p1.putO (by omega) lt1 _) (c1.putO (Nat.le_refl _) _) (Nat.le_refl _) (by omega) (by simp) ?_
    intro m2 h2 p2 c2
    (repeat' (first | (with_reducible first | refine w_seq ?_ | refine w_if ?_ | refine w_skip ?_ | refine v_c ?_ | refine v_op ?_ | refine a_nil ?_ | refine a_cons ?_ | refine v_tup ?_ | refine t_t ?_ | refine ex_bl ?_) | (with_reducible refine v_vx ?_; refine ex_v rfl ?_) | (with_reducible refine len_ok (by simp [sizeLine_eq]) ?_) | (with_reducible refine q_inT ⟨by decide +kernel, by decide +kernel⟩ ⟨by decide +kernel, by decide +kernel⟩ ?_) | (with_reducible refine pick_f (by decide +kernel) ?_) | fail))
    refine w_frz rfl h2 ?_
    (repeat' (first | (with_reducible first | refine w_ret ?_) | (with_reducible refine v_vx ?_; refine ex_v rfl ?_) | fail))
    exact ⟨p2.killO (by omega), c2.killO (Nat.le_refl _), by simp [own, tgs, exs]⟩
  case give x e =>
    simp only [Deed.d]
    (repeat' (first | (with_reducible first | refine w_seq ?_ | refine w_set ?_ | refine w_if ?_ | refine w_drop ?_ | refine v_c ?_ | refine v_op ?_ | refine a_nil ?_ | refine a_cons ?_ | refine v_tup ?_ | refine v_newL ?_ | refine t_t ?_ | refine v_l1 ?_ | refine ex_bl ?_) | (with_reducible refine v_vx ?_; refine ex_v rfl ?_) | (with_reducible refine q_ixT ?_; refine ex_o rfl ?_) | (with_reducible refine len_ok (by simp [sizeLine_eq]) ?_) | (with_reducible refine q_inT ⟨by decide +kernel, by decide +kernel⟩ ⟨by decide +kernel, by decide +kernel⟩ ?_) | (with_reducible refine pick_t (by decide +kernel) ?_) | fail))
    refine ⟨isL_ref (add_ob _ _), ?_⟩
    (repeat' (first | (with_reducible first | refine v_c ?_ | refine v_op ?_) | (with_reducible refine v_vx ?_; refine ex_v rfl ?_) | (with_reducible refine q_ixT ?_; refine ex_o rfl ?_) | fail))
    refine v_app (add_ob _ _) (by simp [sizeLine_eq]) ?_
    (repeat' (first | (with_reducible first | refine w_seq ?_ | refine w_if ?_ | refine w_drop ?_ | refine w_skip ?_ | refine v_c ?_ | refine v_op ?_ | refine a_nil ?_ | refine a_cons ?_ | refine v_tup ?_ | refine t_t ?_ | refine v_l1 ?_ | refine ex_bl ?_ | refine q_es ?_) | (with_reducible refine v_vx ?_; refine ex_v rfl ?_) | (with_reducible refine len_ok (by simp [sizeLine_eq]) ?_) | (with_reducible refine q_inT ⟨by decide +kernel, by decide +kernel⟩ ⟨by decide +kernel, by decide +kernel⟩ ?_) | (with_reducible refine pick_dF (by decide +kernel) ?_) | (with_reducible refine pick_t (by decide +kernel) ?_) | (with_reducible refine pick_f (by decide +kernel) ?_) | fail))
    refine ⟨isL_ref (put_ob _ _ _), ?_⟩
    (repeat' (first | (with_reducible first | refine v_c ?_ | refine v_op ?_ | refine v_call ?_ | refine a_nil ?_ | refine a_cons ?_) | (with_reducible refine v_vx ?_; refine ex_v rfl ?_) | (with_reducible refine q_ixT ?_; refine ex_o rfl ?_) | fail))
    refine x_vars (l := [x]) (m0 := m) (hx e (by simp [exs])) (put_ob _ _ _) (p1.putO (by omega) lt1 _) (c1.putO (Nat.le_refl _) _) (Nat.le_refl _) (by omega) (by simp) ?_
    intro m2 h2 p2 c2
    (repeat' (first | (with_reducible first | refine w_seq ?_ | refine w_if ?_ | refine w_skip ?_ | refine v_c ?_ | refine v_op ?_ | refine a_nil ?_ | refine a_cons ?_ | refine v_tup ?_ | refine t_t ?_ | refine ex_bl ?_) | (with_reducible refine v_vx ?_; refine ex_v rfl ?_) | (with_reducible refine len_ok (by simp [sizeLine_eq]) ?_) | (with_reducible refine q_inT ⟨by decide +kernel, by decide +kernel⟩ ⟨by decide +kernel, by decide +kernel⟩ ?_) | (with_reducible refine pick_f (by decide +kernel) ?_) | fail))
    refine w_frz rfl h2 ?_
    (repeat' (first | (with_reducible first | refine w_ret ?_) | (with_reducible refine v_vx ?_; refine ex_v rfl ?_) | fail))
    exact ⟨p2.killO (by omega), c2.killO (Nat.le_refl _), by simp [own, tgs, exs]⟩
  case on x e =>
    simp only [Deed.d]
    (repeat' (first | (with_reducible first | refine w_seq ?_ | refine w_set ?_ | refine w_if ?_ | refine w_drop ?_ | refine v_c ?_ | refine v_op ?_ | refine a_nil ?_ | refine a_cons ?_ | refine v_tup ?_ | refine v_newL ?_ | refine t_t ?_ | refine v_l1 ?_ | refine ex_bl ?_) | (with_reducible refine v_vx ?_; refine ex_v rfl ?_) | (with_reducible refine q_ixT ?_; refine ex_o rfl ?_) | (with_reducible refine len_ok (by simp [sizeLine_eq]) ?_) | (with_reducible refine q_inT ⟨by decide +kernel, by decide +kernel⟩ ⟨by decide +kernel, by decide +kernel⟩ ?_) | (with_reducible refine pick_t (by decide +kernel) ?_) | fail))
    refine ⟨isL_ref (add_ob _ _), ?_⟩
    (repeat' (first | (with_reducible first | refine v_c ?_ | refine v_op ?_) | (with_reducible refine v_vx ?_; refine ex_v rfl ?_) | (with_reducible refine q_ixT ?_; refine ex_o rfl ?_) | fail))
    refine v_app (add_ob _ _) (by simp [sizeLine_eq]) ?_
    (repeat' (first | (with_reducible first | refine w_seq ?_ | refine w_if ?_ | refine w_drop ?_ | refine w_skip ?_ | refine v_c ?_ | refine v_op ?_ | refine a_nil ?_ | refine a_cons ?_ | refine v_tup ?_ | refine t_t ?_ | refine v_l1 ?_ | refine ex_bl ?_ | refine q_es ?_) | (with_reducible refine v_vx ?_; refine ex_v rfl ?_) | (with_reducible refine len_ok (by simp [sizeLine_eq]) ?_) | (with_reducible refine q_inT ⟨by decide +kernel, by decide +kernel⟩ ⟨by decide +kernel, by decide +kernel⟩ ?_) | (with_reducible refine pick_dF (by decide +kernel) ?_) | (with_reducible refine pick_t (by decide +kernel) ?_) | (with_reducible refine pick_f (by decide +kernel) ?_) | fail))
    refine ⟨isL_ref (put_ob _ _ _), ?_⟩
    (repeat' (first | (with_reducible first | refine v_c ?_ | refine v_op ?_ | refine v_call ?_ | refine a_nil ?_ | refine a_cons ?_) | (with_reducible refine v_vx ?_; refine ex_v rfl ?_) | (with_reducible refine q_ixT ?_; refine ex_o rfl ?_) | fail))
    refine x_vars (l := [x]) (m0 := m) (hx e (by simp [exs])) (put_ob _ _ _) (p1.putO (by omega) lt1 _) (c1.putO (Nat.le_refl _) _) (Nat.le_refl _) (by omega) (by simp) ?_
    intro m2 h2 p2 c2
    (repeat' (first | (with_reducible first | refine w_seq ?_ | refine w_if ?_ | refine w_skip ?_ | refine v_c ?_ | refine v_op ?_ | refine a_nil ?_ | refine a_cons ?_ | refine v_tup ?_ | refine t_t ?_ | refine ex_bl ?_) | (with_reducible refine v_vx ?_; refine ex_v rfl ?_) | (with_reducible refine len_ok (by simp [sizeLine_eq]) ?_) | (with_reducible refine q_inT ⟨by decide +kernel, by decide +kernel⟩ ⟨by decide +kernel, by decide +kernel⟩ ?_) | (with_reducible refine pick_f (by decide +kernel) ?_) | fail))
    refine w_frz rfl h2 ?_
    (repeat' (first | (with_reducible first | refine w_ret ?_) | (with_reducible refine v_vx ?_; refine ex_v rfl ?_) | fail))
    exact ⟨p2.killO (by omega), c2.killO (Nat.le_refl _), by simp [own, tgs, exs]⟩
  case ask x y a e =>
    simp only [Deed.d]
    (repeat' (first | (with_reducible first | refine w_seq ?_ | refine w_set ?_ | refine w_if ?_ | refine w_drop ?_ | refine v_c ?_ | refine v_op ?_ | refine a_nil ?_ | refine a_cons ?_ | refine v_tup ?_ | refine v_newL ?_ | refine t_t ?_ | refine v_l1 ?_ | refine ex_bl ?_) | (with_reducible refine v_vx ?_; refine ex_v rfl ?_) | (with_reducible refine q_ixT ?_; refine ex_o rfl ?_) | (with_reducible refine len_ok (by simp [sizeLine_eq]) ?_) | (with_reducible refine q_inT ⟨by decide +kernel, by decide +kernel⟩ ⟨by decide +kernel, by decide +kernel⟩ ?_) | (with_reducible refine pick_t (by decide +kernel) ?_) | fail))
    refine ⟨isL_ref (add_ob _ _), ?_⟩
    (repeat' (first | (with_reducible first | refine v_c ?_ | refine v_op ?_) | (with_reducible refine v_vx ?_; refine ex_v rfl ?_) | (with_reducible refine q_ixT ?_; refine ex_o rfl ?_) | fail))
    refine v_app (add_ob _ _) (by simp [sizeLine_eq]) ?_
    (repeat' (first | (with_reducible first | refine w_seq ?_ | refine w_if ?_ | refine w_drop ?_ | refine v_c ?_ | refine v_op ?_ | refine a_nil ?_ | refine a_cons ?_ | refine v_tup ?_ | refine t_t ?_ | refine v_l1 ?_ | refine ex_bl ?_) | (with_reducible refine v_vx ?_; refine ex_v rfl ?_) | (with_reducible refine len_ok (by simp [sizeLine_eq]) ?_) | (with_reducible refine q_inT ⟨by decide +kernel, by decide +kernel⟩ ⟨by decide +kernel, by decide +kernel⟩ ?_) | (with_reducible refine pick_t (by decide +kernel) ?_) | fail))
    refine ⟨isL_ref (put_ob _ _ _), ?_⟩
    (repeat' (first | (with_reducible first | refine v_c ?_ | refine v_op ?_) | (with_reducible refine v_vx ?_; refine ex_v rfl ?_) | (with_reducible refine q_ixT ?_; refine ex_o rfl ?_) | fail))
    refine v_app (put_ob _ _ _) (by simp [sizeLine_eq]) ?_
    (repeat' (first | (with_reducible first | refine w_seq ?_ | refine w_if ?_ | refine w_drop ?_ | refine w_skip ?_ | refine v_c ?_ | refine v_op ?_ | refine a_nil ?_ | refine a_cons ?_ | refine v_tup ?_ | refine t_t ?_ | refine v_l1 ?_ | refine ex_bl ?_ | refine q_es ?_) | (with_reducible refine v_vx ?_; refine ex_v rfl ?_) | (with_reducible refine len_ok (by simp [sizeLine_eq]) ?_) | (with_reducible refine q_inT ⟨by decide +kernel, by decide +kernel⟩ ⟨by decide +kernel, by decide +kernel⟩ ?_) | (with_reducible refine pick_dF (by decide +kernel) ?_) | (with_reducible refine pick_t (by decide +kernel) ?_) | (with_reducible refine pick_f (by decide +kernel) ?_) | fail))
    refine ⟨isL_ref (put_ob _ _ _), ?_⟩
    (repeat' (first | (with_reducible first | refine v_c ?_ | refine v_op ?_ | refine v_call ?_ | refine a_nil ?_ | refine a_cons ?_) | (with_reducible refine v_vx ?_; refine ex_v rfl ?_) | (with_reducible refine q_ixT ?_; refine ex_o rfl ?_) | fail))
    have h2 := put_ob ((m.add (.lst [])).put m.nx (.lst ([] ++ [D.str x]))) m.nx (.lst ([] ++ [D.str x] ++ [D.str y]))
    have p2 := (p1.putO (i := m.nx) (by omega) lt1 (.lst ([] ++ [D.str x]))).putO (i := m.nx) (by omega) lt1 (.lst ([] ++ [D.str x] ++ [D.str y]))
    have c2 := (c1.putO (i := m.nx) (Nat.le_refl _) (.lst ([] ++ [D.str x]))).putO (i := m.nx) (Nat.le_refl _) (.lst ([] ++ [D.str x] ++ [D.str y]))
    have ha := hx a (by simp [exs])
    have he := hx e (by simp [exs])
    have la := nm_len a
    have le := nm_len e
    refine wp_imp (vars_ 40 a t _ (by omega) (by omega) p2) ?_
    rintro _ m3 ⟨p3, c3, rfl⟩
    (repeat' (first | (with_reducible first | refine v_c ?_ | refine v_op ?_ | refine v_o1 ?_ | refine v_call ?_ | refine a_nil ?_ | refine a_cons ?_ | refine q_neg ?_) | (with_reducible refine v_vx ?_; refine ex_v rfl ?_) | (with_reducible refine q_ixT ?_; refine ex_o rfl ?_) | fail))
    refine wp_imp (vars_ 40 e t _ (by omega) (by omega) p3) ?_
    rintro _ m4 ⟨p4, c4, rfl⟩
    have h4 := ((c3.trans c4).ob _ (by omega) lt1).trans h2
    refine q_addL (by simp only [List.length_map, sizeLine_eq]; omega) ?_
    refine v_ext h4 rfl (by simp only [List.length_map, List.length_append, List.length_cons, List.length_nil, sizeLine_eq]; omega) ?_
    have l4 := ob_lt p4 h4
    (repeat' (first | (with_reducible first | refine w_seq ?_) | fail))
    refine w_frz rfl (put_ob _ _ _) ?_
    (repeat' (first | (with_reducible first | refine w_ret ?_) | (with_reducible refine v_vx ?_; refine ex_v rfl ?_) | fail))
    exact ⟨(p4.putO (by omega) l4 _).killO (by omega), ((c2.trans (c3.trans c4)).putO (Nat.le_refl _) _).killO (Nat.le_refl _), by simp [own, tgs, exs]⟩
  case cast x y a w e =>
    simp only [Deed.d]
    (repeat' (first | (with_reducible first | refine w_seq ?_ | refine w_set ?_ | refine w_if ?_ | refine w_drop ?_ | refine v_c ?_ | refine v_op ?_ | refine a_nil ?_ | refine a_cons ?_ | refine v_tup ?_ | refine v_newL ?_ | refine t_t ?_ | refine v_l1 ?_ | refine ex_bl ?_) | (with_reducible refine v_vx ?_; refine ex_v rfl ?_) | (with_reducible refine q_ixT ?_; refine ex_o rfl ?_) | (with_reducible refine len_ok (by simp [sizeLine_eq]) ?_) | (with_reducible refine q_inT ⟨by decide +kernel, by decide +kernel⟩ ⟨by decide +kernel, by decide +kernel⟩ ?_) | (with_reducible refine pick_t (by decide +kernel) ?_) | fail))
    refine ⟨isL_ref (add_ob _ _), ?_⟩
    (repeat' (first | (with_reducible first | refine v_c ?_ | refine v_op ?_) | (with_reducible refine v_vx ?_; refine ex_v rfl ?_) | (with_reducible refine q_ixT ?_; refine ex_o rfl ?_) | fail))
    refine v_app (add_ob _ _) (by simp [sizeLine_eq]) ?_
    (repeat' (first | (with_reducible first | refine w_seq ?_ | refine w_if ?_ | refine w_drop ?_ | refine v_c ?_ | refine v_op ?_ | refine a_nil ?_ | refine a_cons ?_ | refine v_tup ?_ | refine t_t ?_ | refine v_l1 ?_ | refine ex_bl ?_) | (with_reducible refine v_vx ?_; refine ex_v rfl ?_) | (with_reducible refine len_ok (by simp [sizeLine_eq]) ?_) | (with_reducible refine q_inT ⟨by decide +kernel, by decide +kernel⟩ ⟨by decide +kernel, by decide +kernel⟩ ?_) | (with_reducible refine pick_t (by decide +kernel) ?_) | fail))
    refine ⟨isL_ref (put_ob _ _ _), ?_⟩
    (repeat' (first | (with_reducible first | refine v_c ?_ | refine v_op ?_) | (with_reducible refine v_vx ?_; refine ex_v rfl ?_) | (with_reducible refine q_ixT ?_; refine ex_o rfl ?_) | fail))
    refine v_app (put_ob _ _ _) (by simp [sizeLine_eq]) ?_
    (repeat' (first | (with_reducible first | refine w_seq ?_ | refine w_if ?_ | refine w_drop ?_ | refine w_skip ?_ | refine v_c ?_ | refine v_op ?_ | refine a_nil ?_ | refine a_cons ?_ | refine v_tup ?_ | refine t_t ?_ | refine v_l1 ?_ | refine ex_bl ?_ | refine q_es ?_) | (with_reducible refine v_vx ?_; refine ex_v rfl ?_) | (with_reducible refine len_ok (by simp [sizeLine_eq]) ?_) | (with_reducible refine q_inT ⟨by decide +kernel, by decide +kernel⟩ ⟨by decide +kernel, by decide +kernel⟩ ?_) | (with_reducible refine pick_dF (by decide +kernel) ?_) | (with_reducible refine pick_t (by decide +kernel) ?_) | (with_reducible refine pick_f (by decide +kernel) ?_) | fail))
    refine ⟨isL_ref (put_ob _ _ _), ?_⟩
    (repeat' (first | (with_reducible first | refine v_c ?_ | refine v_op ?_ | refine v_call ?_ | refine a_nil ?_ | refine a_cons ?_) | (with_reducible refine v_vx ?_; refine ex_v rfl ?_) | (with_reducible refine q_ixT ?_; refine ex_o rfl ?_) | fail))
    have h2 := put_ob ((m.add (.lst [])).put m.nx (.lst ([] ++ [D.str x]))) m.nx (.lst ([] ++ [D.str x] ++ [D.str y]))
    have p2 := (p1.putO (i := m.nx) (by omega) lt1 (.lst ([] ++ [D.str x]))).putO (i := m.nx) (by omega) lt1 (.lst ([] ++ [D.str x] ++ [D.str y]))
    have c2 := (c1.putO (i := m.nx) (Nat.le_refl _) (.lst ([] ++ [D.str x]))).putO (i := m.nx) (Nat.le_refl _) (.lst ([] ++ [D.str x] ++ [D.str y]))
    have ha := hx a (by simp [exs])
    have he := hx e (by simp [exs])
    have la := nm_len a
    have le := nm_len e
    refine wp_imp (vars_ 40 a t _ (by omega) (by omega) p2) ?_
    rintro _ m3 ⟨p3, c3, rfl⟩
    (repeat' (first | (with_reducible first | refine v_c ?_ | refine v_op ?_ | refine v_o1 ?_ | refine v_call ?_ | refine a_nil ?_ | refine a_cons ?_ | refine q_neg ?_) | (with_reducible refine v_vx ?_; refine ex_v rfl ?_) | (with_reducible refine q_ixT ?_; refine ex_o rfl ?_) | fail))
    refine wp_imp (vars_ 40 e t _ (by omega) (by omega) p3) ?_
    rintro _ m4 ⟨p4, c4, rfl⟩
    have h4 := ((c3.trans c4).ob _ (by omega) lt1).trans h2
    refine q_addL (by simp only [List.length_map, sizeLine_eq]; omega) ?_
    refine v_ext h4 rfl (by simp only [List.length_map, List.length_append, List.length_cons, List.length_nil, sizeLine_eq]; omega) ?_
    have l4 := ob_lt p4 h4
    (repeat' (first | (with_reducible first | refine w_seq ?_) | fail))
    refine w_frz rfl (put_ob _ _ _) ?_
    (repeat' (first | (with_reducible first | refine w_ret ?_) | (with_reducible refine v_vx ?_; refine ex_v rfl ?_) | fail))
    exact ⟨(p4.putO (by omega) l4 _).killO (by omega), ((c2.trans (c3.trans c4)).putO (Nat.le_refl _) _).killO (Nat.le_refl _), by simp [own, tgs, exs]⟩
  case tr b cs l =>
    simp only [Deed.ok, Bool.and_eq_true, decide_eq_true_eq] at hd
    simp only [Deed.d]
    rw [Cts.ds_l]
    (repeat' (first | (with_reducible first | refine w_seq ?_ | refine w_set ?_ | refine w_if ?_ | refine w_ret ?_ | refine w_skip ?_ | refine v_c ?_ | refine v_op ?_ | refine a_nil ?_ | refine a_cons ?_ | refine v_tup ?_ | refine v_newL ?_ | refine t_t ?_ | refine i_iter ?_ | refine v_lc ?_ | refine ex_bl ?_ | refine q_es ?_ | refine q_itT ?_) | (with_reducible refine v_vx ?_; refine ex_v rfl ?_) | (with_reducible refine q_ixT ?_; refine ex_o rfl ?_) | (with_reducible refine len_ok (by simp [sizeLine_eq]) ?_) | (with_reducible refine q_inT ⟨by decide +kernel, by decide +kernel⟩ ⟨by decide +kernel, by decide +kernel⟩ ?_) | (with_reducible refine pick_dT (by decide +kernel) ?_) | (with_reducible refine pick_f (by decide +kernel) ?_) | fail))
    refine v_map (f := fun p => .str p.2.1) ?_ ?_ ?_
    · intro p hp
      refine ⟨_, rfl, yes_, ?_⟩
      (repeat' (first | (with_reducible first | refine v_c ?_ | refine v_op ?_) | (with_reducible refine v_vx ?_; refine ex_v rfl ?_) | (with_reducible refine q_ixT ?_; refine ex_o rfl ?_) | fail))
      exact ⟨rfl, rfl⟩
    · rw [Cts.len_many, sizeLine_eq]; omega
    exact ⟨p1, c1, by simp [own, tgs, exs]⟩
  case leave =>
    simp only [Deed.d]
    (repeat' (first | (with_reducible first | refine w_seq ?_ | refine w_set ?_ | refine w_if ?_ | refine w_skip ?_ | refine v_c ?_ | refine v_op ?_ | refine a_nil ?_ | refine a_cons ?_ | refine v_tup ?_ | refine v_newL ?_ | refine t_t ?_ | refine ex_bl ?_ | refine q_es ?_) | (with_reducible refine v_vx ?_; refine ex_v rfl ?_) | (with_reducible refine q_ixT ?_; refine ex_o rfl ?_) | (with_reducible refine len_ok (by simp [sizeLine_eq]) ?_) | (with_reducible refine q_inT ⟨by decide +kernel, by decide +kernel⟩ ⟨by decide +kernel, by decide +kernel⟩ ?_) | (with_reducible refine pick_dF (by decide +kernel) ?_) | (with_reducible refine pick_f (by decide +kernel) ?_) | fail))
    refine w_frz rfl (add_ob _ _) ?_
    (repeat' (first | (with_reducible first | refine w_ret ?_) | (with_reducible refine v_vx ?_; refine ex_v rfl ?_) | fail))
    exact ⟨p1.killO (by omega), c1.killO (Nat.le_refl _), rfl⟩
  all_goals
    simp only [Deed.d]
    (repeat' (first | (with_reducible first | refine w_seq ?_ | refine w_set ?_ | refine w_if ?_ | refine w_drop ?_ | refine w_skip ?_ | refine v_c ?_ | refine v_op ?_ | refine a_nil ?_ | refine a_cons ?_ | refine v_tup ?_ | refine v_newL ?_ | refine t_t ?_ | refine v_l1 ?_ | refine ex_bl ?_ | refine q_es ?_) | (with_reducible refine v_vx ?_; refine ex_v rfl ?_) | (with_reducible refine q_ixT ?_; refine ex_o rfl ?_) | (with_reducible refine len_ok (by simp [sizeLine_eq]) ?_) | (with_reducible refine q_inT ⟨by decide +kernel, by decide +kernel⟩ ⟨by decide +kernel, by decide +kernel⟩ ?_) | (with_reducible refine pick_dF (by decide +kernel) ?_) | (with_reducible refine pick_t (by decide +kernel) ?_) | (with_reducible refine pick_f (by decide +kernel) ?_) | fail))
    refine ⟨isL_ref (add_ob _ _), ?_⟩
    (repeat' (first | (with_reducible first | refine v_c ?_ | refine v_op ?_ | refine v_call ?_ | refine a_nil ?_ | refine a_cons ?_) | (with_reducible refine v_vx ?_; refine ex_v rfl ?_) | (with_reducible refine q_ixT ?_; refine ex_o rfl ?_) | fail))
    refine x_vars (l := []) (m0 := m) (hx _ (by simp [exs])) (add_ob _ _) p1 c1 (Nat.le_refl _) (by omega) (by simp) ?_
    intro m2 h2 p2 c2
    (repeat' (first | (with_reducible first | refine w_seq ?_ | refine w_if ?_ | refine w_skip ?_ | refine v_c ?_ | refine v_op ?_ | refine a_nil ?_ | refine a_cons ?_ | refine v_tup ?_ | refine t_t ?_ | refine ex_bl ?_) | (with_reducible refine v_vx ?_; refine ex_v rfl ?_) | (with_reducible refine len_ok (by simp [sizeLine_eq]) ?_) | (with_reducible refine q_inT ⟨by decide +kernel, by decide +kernel⟩ ⟨by decide +kernel, by decide +kernel⟩ ?_) | (with_reducible refine pick_f (by decide +kernel) ?_) | fail))
    refine w_frz rfl h2 ?_
    (repeat' (first | (with_reducible first | refine w_ret ?_) | (with_reducible refine v_vx ?_; refine ex_v rfl ?_) | fail))
    exact ⟨p2.killO (by omega), c2.killO (Nat.le_refl _), by simp [own, tgs, exs]⟩
theorem all_ : ∀ (n : Nat) (b : Blk) (t : Nat) (m : Mem), b.ok = true → b.nest < n → b.cnt ≤ 100 → PM t m → wp (r__law_all_names n [b.t] m) (fun v m' => PM t m' ∧ Ch m m' ∧ v = .lst ((anB b).map D.str)) noX
  | 0, b, t, m, _, h, _, _ => by omega
  | n + 1, b, t, m, hb, hn, hc, p => by
    have ih := all_ n
    have c0 := Ch.refl m
    have hn0 := p.nx
    unfold r__law_all_names
    refine w_body rfl ?_
    unfold m__law_all_names Blk.t
    (repeat' (first | (with_reducible first | refine w_seq ?_ | refine w_set ?_ | refine w_for ?_ | refine a_nil ?_ | refine v_newL ?_ | refine i_iter ?_ | refine q_itT ?_) | (with_reducible refine v_vx ?_; refine ex_v rfl ?_) | (with_reducible refine len_ok (by simp [sizeLine_eq]) ?_) | fail))
    have tot := an_len hb
    refine w_loop (I := fun ds s m1 => ∃ (b2 : Blk) (fd : List Str) (o2 o3 : Option D), s = [some b.t, some (.ref m.nx), o2, o3] ∧ ds = b2.ds ∧ fd ++ anB b2 = anB b ∧ b2.ok = true ∧ b2.nest ≤ b.nest ∧ b2.cnt ≤ b.cnt ∧ m1.ob m.nx = some (.lst (fd.map D.str)) ∧ PM t m1 ∧ Ch m m1) ?_ ?_ ?_
    · exact ⟨b, [], none, none, rfl, rfl, rfl, hb, Nat.le_refl _, Nat.le_refl _, add_ob _ _, p.addO _, c0.addO _⟩
    · rintro s m1 ⟨b2, fd, o2, o3, rfl, e, hfd, _, _, _, ho, p1, c1⟩
      cases b2 with
      | cons d b2 => simp only [Blk.ds] at e; cases e
      | nil =>
        simp only [anB, List.append_nil] at hfd
        subst hfd
        refine w_seq (w_frz rfl ho ?_)
        (repeat' (first | (with_reducible first | refine w_ret ?_) | (with_reducible refine v_vx ?_; refine ex_v rfl ?_) | fail))
        exact ⟨p1.killO (by omega), c1.killO (Nat.le_refl _), rfl⟩
    · rintro x xs s m1 ⟨b2, fd, o2, o3, rfl, e, hfd, hb2, hn2, hc2, ho, p1, c1⟩
      cases b2 with
      | nil => simp only [Blk.ds] at e; cases e
      | cons d b2 =>
        simp only [Blk.ds] at e
        obtain ⟨rfl, rfl⟩ := List.cons.inj e
        simp only [Blk.ok, Bool.and_eq_true] at hb2
        simp only [Blk.nest] at hn2
        simp only [Blk.cnt] at hc2
        have hlt := ob_lt p1 ho
        simp only [anB] at hfd
        have hfl := congrArg List.length hfd
        simp only [List.length_append] at hfl
        refine ⟨_, rfl, ?_⟩
        (repeat' (first | (with_reducible first | refine w_seq ?_ | refine w_drop ?_ | refine v_l1 ?_) | (with_reducible refine v_vx ?_; refine ex_v rfl ?_) | fail))
        refine ⟨isL_ref ho, ?_⟩
        (repeat' (first | (with_reducible first | refine v_call ?_ | refine a_nil ?_ | refine a_cons ?_) | (with_reducible refine v_vx ?_; refine ex_v rfl ?_) | fail))
        refine wp_imp (own_ d hb2.1 p1) ?_
        rintro _ m2 ⟨p2, c2, rfl⟩
        have h2 := (c2.ob _ (by omega) hlt).trans ho
        have lt2 := ob_lt p2 h2
        refine v_ext h2 rfl (by simp only [List.length_map, sizeLine_eq]; omega) ?_
        (repeat' (first | (with_reducible first | refine w_for ?_ | refine v_call ?_ | refine a_nil ?_ | refine a_cons ?_ | refine i_iter ?_) | (with_reducible refine v_vx ?_; refine ex_v rfl ?_) | fail))
        refine wp_imp (inner_ d hb2.1 _) ?_
        rintro _ _ ⟨rfl, rfl⟩
        (repeat' (first | (with_reducible first | refine q_itL ?_) | fail))
        refine w_loop (I := fun ds s m4 => ∃ (bs : List Blk) (f2 : List Str) (o3 : Option D), s = [some b.t, some (.ref m.nx), some d.d, o3] ∧ ds = bs.map Blk.t ∧
          f2 ++ bs.flatMap anB = fd ++ own d ++ anI d ∧ (∀ x ∈ bs, x ∈ d.inn) ∧ m4.ob m.nx = some (.lst (f2.map D.str)) ∧ PM t m4 ∧ Ch m m4) ?_ ?_ ?_
        · refine ⟨d.inn, fd ++ own d, _, rfl, rfl, by rw [anI_inn], fun x hx => hx, ?_, p2.putO (by omega) lt2 _, (c1.trans c2).putO (Nat.le_refl _) _⟩
          rw [put_ob, List.map_append]
        · rintro s m4 ⟨bs, f2, o3, rfl, e, hf2, _, ho4, p4, c4⟩
          cases bs with
          | cons x bs => simp only [List.map_cons] at e; cases e
          | nil =>
            simp only [List.flatMap_nil, List.append_nil] at hf2
            subst hf2
            exact ⟨b2, _, _, _, rfl, rfl, by rw [← hfd]; simp only [List.append_assoc], hb2.2, by omega, by omega, ho4, p4, c4⟩
        · rintro x xs s m4 ⟨bs, f2, o3, rfl, e, hf2, hbs, ho4, p4, c4⟩
          cases bs with
          | nil => simp only [List.map_nil] at e; cases e
          | cons x bs =>
            simp only [List.map_cons] at e
            obtain ⟨rfl, rfl⟩ := List.cons.inj e
            have hx := hbs x (List.mem_cons_self ..)
            have hxn := d.inn_nest x hx
            have hxc : x.cnt ≤ (d.inn.map Blk.cnt).sum := mem_sum Blk.cnt _ _ hx
            have hdc := d.inn_cnt
            have hlt4 := ob_lt p4 ho4
            have hf2l := congrArg List.length hf2
            simp only [List.flatMap_cons, List.length_append] at hf2l
            refine ⟨_, rfl, ?_⟩
            (repeat' (first | (with_reducible first | refine w_drop ?_ | refine v_l1 ?_) | (with_reducible refine v_vx ?_; refine ex_v rfl ?_) | fail))
            refine ⟨isL_ref ho4, ?_⟩
            (repeat' (first | (with_reducible first | refine v_call ?_ | refine a_nil ?_ | refine a_cons ?_) | (with_reducible refine v_vx ?_; refine ex_v rfl ?_) | fail))
            refine wp_imp (ih x t m4 (d.ok_inn hb2.1 x hx) (by omega) (by omega) p4) ?_
            rintro _ m5 ⟨p5, c5, rfl⟩
            have ho5 := (c5.ob _ (by omega) hlt4).trans ho4
            refine v_ext ho5 rfl (by simp only [List.length_map, sizeLine_eq]; omega) ?_
            refine ⟨bs, f2 ++ anB x, _, rfl, rfl, ?_, fun y hy => hbs y (List.mem_cons_of_mem _ hy), ?_, p5.putO (by omega) (ob_lt p5 ho5) _, (c4.trans c5).putO (Nat.le_refl _) _⟩
            · rw [← hf2]
              simp only [List.flatMap_cons, List.append_assoc]
            · rw [put_ob, List.map_append]
theorem deeds_in_ : ∀ (n : Nat) (b : Blk) (t : Nat) (m : Mem), b.ok = true → b.nest < n → b.nest ≤ 5 → b.cnt ≤ 100 → PM t m → wp (r_deeds_in n [b.t] m) (fun v m' => PM t m' ∧ Ch m m' ∧ v = .lst ((dB b).map Deed.d)) noX
  | 0, b, t, m, _, h, _, _, _ => by omega
  | n + 1, b, t, m, hb, hn, h5, hc, p => by
    have ih := deeds_in_ n
    have c0 := Ch.refl m
    have hn0 := p.nx
    unfold r_deeds_in
    refine w_body rfl ?_
    unfold m_deeds_in Blk.t
    (repeat' (first | (with_reducible first | refine w_seq ?_ | refine w_set ?_ | refine w_for ?_ | refine a_nil ?_ | refine v_newL ?_ | refine i_iter ?_ | refine q_itT ?_) | (with_reducible refine v_vx ?_; refine ex_v rfl ?_) | (with_reducible refine len_ok (by simp [sizeLine_eq]) ?_) | fail))
    have tot := dB_len b
    refine w_loop (I := fun ds s m1 => ∃ (b2 : Blk) (fd : List Deed) (o2 o3 : Option D), s = [some b.t, some (.ref m.nx), o2, o3] ∧ ds = b2.ds ∧ fd ++ dB b2 = dB b ∧ b2.ok = true ∧ b2.nest ≤ b.nest ∧ b2.cnt ≤ b.cnt ∧ m1.ob m.nx = some (.lst (fd.map Deed.d)) ∧ PM t m1 ∧ Ch m m1) ?_ ?_ ?_
    · exact ⟨b, [], none, none, rfl, rfl, rfl, hb, Nat.le_refl _, Nat.le_refl _, add_ob _ _, p.addO _, c0.addO _⟩
    · rintro s m1 ⟨b2, fd, o2, o3, rfl, e, hfd, _, _, _, ho, p1, c1⟩
      cases b2 with
      | cons d b2 => simp only [Blk.ds] at e; cases e
      | nil =>
        simp only [dB, List.append_nil] at hfd
        subst hfd
        refine w_seq (w_frz rfl ho ?_)
        (repeat' (first | (with_reducible first | refine w_ret ?_) | (with_reducible refine v_vx ?_; refine ex_v rfl ?_) | fail))
        exact ⟨p1.killO (by omega), c1.killO (Nat.le_refl _), rfl⟩
    · rintro x xs s m1 ⟨b2, fd, o2, o3, rfl, e, hfd, hb2, hn2, hc2, ho, p1, c1⟩
      cases b2 with
      | nil => simp only [Blk.ds] at e; cases e
      | cons d b2 =>
        simp only [Blk.ds] at e
        obtain ⟨rfl, rfl⟩ := List.cons.inj e
        simp only [Blk.ok, Bool.and_eq_true] at hb2
        simp only [Blk.nest] at hn2
        simp only [Blk.cnt] at hc2
        have hlt := ob_lt p1 ho
        simp only [dB] at hfd
        have hfl := congrArg List.length hfd
        rw [tot] at hfl
        simp only [List.length_append, List.length_cons] at hfl
        refine ⟨_, rfl, ?_⟩
        (repeat' (first | (with_reducible first | refine w_seq ?_ | refine w_drop ?_ | refine v_l1 ?_) | (with_reducible refine v_vx ?_; refine ex_v rfl ?_) | fail))
        refine ⟨isL_ref ho, ?_⟩
        (repeat' (first | (with_reducible refine v_vx ?_; refine ex_v rfl ?_) | fail))
        refine v_app ho (by simp only [List.length_map, sizeLine_eq]; omega) ?_
        (repeat' (first | (with_reducible first | refine w_for ?_ | refine v_call ?_ | refine a_nil ?_ | refine a_cons ?_ | refine i_iter ?_) | (with_reducible refine v_vx ?_; refine ex_v rfl ?_) | fail))
        have p2 := p1.putO (by omega) hlt (.lst (fd.map Deed.d ++ [d.d]))
        have c2 := c1.putO (Nat.le_refl _) (.lst (fd.map Deed.d ++ [d.d]))
        refine wp_imp (blocks_ d hb2.1 (by omega) p2) ?_
        rintro _ m3 ⟨p3, c3, rfl⟩
        have h3 := (c3.ob _ (by omega) hlt).trans (put_ob _ _ _)
        (repeat' (first | (with_reducible first | refine q_itL ?_) | fail))
        refine w_loop (I := fun ds s m4 => ∃ (bs : List Blk) (f2 : List Deed) (o3 : Option D), s = [some b.t, some (.ref m.nx), some d.d, o3] ∧ ds = bs.map Blk.t ∧
          f2 ++ bs.flatMap dB = fd ++ [d] ++ dI d ∧ (∀ x ∈ bs, x ∈ d.inn) ∧ m4.ob m.nx = some (.lst (f2.map Deed.d)) ∧ PM t m4 ∧ Ch m m4) ?_ ?_ ?_
        · refine ⟨blks d, fd ++ [d], _, rfl, rfl, by rw [dI_blks], blks_sub d, ?_, p3, c2.trans c3⟩
          rw [h3, List.map_append]; rfl
        · rintro s m4 ⟨bs, f2, o3, rfl, e, hf2, _, ho4, p4, c4⟩
          cases bs with
          | cons x bs => simp only [List.map_cons] at e; cases e
          | nil =>
            simp only [List.flatMap_nil, List.append_nil] at hf2
            subst hf2
            exact ⟨b2, _, _, _, rfl, rfl, by rw [← hfd]; simp, hb2.2, by omega, by omega, ho4, p4, c4⟩
        · rintro x xs s m4 ⟨bs, f2, o3, rfl, e, hf2, hbs, ho4, p4, c4⟩
          cases bs with
          | nil => simp only [List.map_nil] at e; cases e
          | cons x bs =>
            simp only [List.map_cons] at e
            obtain ⟨rfl, rfl⟩ := List.cons.inj e
            have hx := hbs x (List.mem_cons_self ..)
            have hxn := d.inn_nest x hx
            have hxc : x.cnt ≤ (d.inn.map Blk.cnt).sum := mem_sum Blk.cnt _ _ hx
            have hdc := d.inn_cnt
            have hlt4 := ob_lt p4 ho4
            have hf2l := congrArg List.length hf2
            have hpd := dI_len d
            simp only [List.flatMap_cons, List.length_append, List.length_cons, List.length_nil] at hf2l
            refine ⟨_, rfl, ?_⟩
            (repeat' (first | (with_reducible first | refine w_drop ?_ | refine v_l1 ?_) | (with_reducible refine v_vx ?_; refine ex_v rfl ?_) | fail))
            refine ⟨isL_ref ho4, ?_⟩
            (repeat' (first | (with_reducible first | refine v_call ?_ | refine a_nil ?_ | refine a_cons ?_) | (with_reducible refine v_vx ?_; refine ex_v rfl ?_) | fail))
            refine wp_imp (ih x t m4 (d.ok_inn hb2.1 x hx) (by omega) (by omega) (by omega) p4) ?_
            rintro _ m5 ⟨p5, c5, rfl⟩
            have ho5 := (c5.ob _ (by omega) hlt4).trans ho4
            refine v_ext ho5 rfl (by simp only [List.length_map, sizeLine_eq]; omega) ?_
            refine ⟨bs, f2 ++ dB x, _, rfl, rfl, ?_, fun y hy => hbs y (List.mem_cons_of_mem _ hy), ?_, p5.putO (by omega) (ob_lt p5 ho5) _, (c4.trans c5).putO (Nat.le_refl _) _⟩
            · rw [← hf2]
              simp only [List.flatMap_cons, List.append_assoc]
            · rw [put_ob, List.map_append]
end K10

set_option Elab.async false
set_option linter.all false
set_option maxRecDepth 100000
set_option autoImplicit false
/-! M10d: variables; the law. -/
namespace K10
open PySem PySem.Spec PyProof.Rows L2 Ev BG BP BQ BR
theorem targets_ (d : Deed) (hd : d.ok = true) {m : Mem} : wp (g_targets_of [d.d] m) (fun v m' => m' = m ∧ v = .lst ((tgs d).map D.str)) noX := by
  refine w_body rfl ?_
  unfold m_targets_of
  cases d
  case tr b cs l =>
    simp only [Deed.ok, Bool.and_eq_true, decide_eq_true_eq] at hd
    simp only [Deed.d]
    rw [Cts.ds_l]
    (repeat' (first | (with_reducible first | refine w_seq ?_ | refine w_set ?_ | refine w_if ?_ | refine w_ret ?_ | refine w_skip ?_ | refine v_c ?_ | refine v_op ?_ | refine a_nil ?_ | refine a_cons ?_ | refine v_tup ?_ | refine t_t ?_ | refine i_iter ?_ | refine v_lc ?_ | refine ex_bl ?_ | refine q_es ?_ | refine q_itT ?_) | (with_reducible refine v_vx ?_; refine ex_v rfl ?_) | (with_reducible refine q_ixT ?_; refine ex_o rfl ?_) | (with_reducible refine len_ok (by simp [sizeLine_eq]) ?_) | (with_reducible refine q_inT ⟨by decide +kernel, by decide +kernel⟩ ⟨by decide +kernel, by decide +kernel⟩ ?_) | (with_reducible refine pick_dT (by decide +kernel) ?_) | (with_reducible refine pick_f (by decide +kernel) ?_) | fail))
    refine v_map (f := fun p => .str p.2.1) ?_ ?_ ?_
    · intro p hp
      refine ⟨_, rfl, yes_, ?_⟩
      (repeat' (first | (with_reducible first | refine v_c ?_ | refine v_op ?_) | (with_reducible refine v_vx ?_; refine ex_v rfl ?_) | (with_reducible refine q_ixT ?_; refine ex_o rfl ?_) | fail))
      exact ⟨rfl, rfl⟩
    · rw [Cts.len_many, sizeLine_eq]; omega
    exact ⟨rfl, by simp [tgs]⟩
  all_goals
    simp only [Deed.d]
    (repeat' (first | (with_reducible first | refine w_seq ?_ | refine w_set ?_ | refine w_if ?_ | refine w_ret ?_ | refine w_skip ?_ | refine v_c ?_ | refine v_op ?_ | refine a_nil ?_ | refine a_cons ?_ | refine v_tup ?_ | refine v_lst ?_ | refine t_t ?_ | refine ex_bl ?_ | refine q_es ?_) | (with_reducible refine v_vx ?_; refine ex_v rfl ?_) | (with_reducible refine q_ixT ?_; refine ex_o rfl ?_) | (with_reducible refine len_ok (by simp [sizeLine_eq]) ?_) | (with_reducible refine q_inT ⟨by decide +kernel, by decide +kernel⟩ ⟨by decide +kernel, by decide +kernel⟩ ?_) | (with_reducible refine pick_dF (by decide +kernel) ?_) | (with_reducible refine pick_t (by decide +kernel) ?_) | (with_reducible refine pick_f (by decide +kernel) ?_) | fail))
    exact ⟨rfl, rfl⟩
theorem exprs_ (d : Deed) {m : Mem} : wp (g_expressions_of [d.d] m) (fun v m' => m' = m ∧ v = .lst ((exs d).map Ex.d)) noX := by
  refine w_body rfl ?_
  unfold m_expressions_of
  cases d
  all_goals
    simp only [Deed.d]
    (repeat' (first | (with_reducible first | refine w_seq ?_ | refine w_set ?_ | refine w_if ?_ | refine w_ret ?_ | refine w_skip ?_ | refine v_c ?_ | refine v_op ?_ | refine a_nil ?_ | refine a_cons ?_ | refine v_tup ?_ | refine v_lst ?_ | refine t_t ?_ | refine ex_bl ?_ | refine q_es ?_) | (with_reducible refine v_vx ?_; refine ex_v rfl ?_) | (with_reducible refine q_ixT ?_; refine ex_o rfl ?_) | (with_reducible refine len_ok (by simp [sizeLine_eq]) ?_) | (with_reducible refine q_inT ⟨by decide +kernel, by decide +kernel⟩ ⟨by decide +kernel, by decide +kernel⟩ ?_) | (with_reducible refine pick_dT (by decide +kernel) ?_) | (with_reducible refine pick_dF (by decide +kernel) ?_) | (with_reducible refine pick_t (by decide +kernel) ?_) | (with_reducible refine pick_f (by decide +kernel) ?_) | fail))
    exact ⟨rfl, rfl⟩
def dkO (l : List Str) : Ob := .dk (l.map Sum.inr) (l.map fun _ => .bl true)
theorem put_key {l : List Str} {x : Str} {m : Mem} {j : Nat} {P : Mem → Prop} (h : m.ob j = some (dkO l)) (hl : l.length ≤ 100000)
    (k : ∀ l', (∀ z, z ∈ l' ↔ z ∈ l ∨ z = x) → l'.length ≤ l.length + 1 → P (m.put j (dkO l'))) : dputP (.ref j) (.str x) (.bl true) m P := by
  refine ⟨j, _, _, .inr x, rfl, h, rfl, by rw [List.length_map, sizeLine_eq]; omega, by simp, ?_⟩
  have ez : ((l.map Sum.inr : List Key).zip (l.map fun _ => D.bl true)) = l.map fun z => ((.inr z : Key), D.bl true) := List.zip_map' ..
  rw [ez]
  by_cases hx : x ∈ l
  · have e : putD (l.map fun z => ((.inr z : Key), D.bl true)) (.inr x) (.bl true) = l.map fun z => ((.inr z : Key), D.bl true) := by
      unfold putD
      rw [if_pos (by rw [List.any_eq_true]; exact ⟨(.inr x, .bl true), List.mem_map.mpr ⟨x, hx, rfl⟩, by simp⟩), List.map_map]
      refine List.map_congr_left fun z _ => ?_
      show (if (Sum.inr z : Key) = .inr x then ((.inr z : Key), D.bl true) else (.inr z, .bl true)) = _
      split <;> rfl
    rw [e, List.map_map, List.map_map]
    exact k l (fun z => ⟨.inl, fun q => q.elim id fun e => e ▸ hx⟩) (Nat.le_succ _)
  · have e : putD (l.map fun z => ((.inr z : Key), D.bl true)) (.inr x) (.bl true) = (l ++ [x]).map fun z => ((.inr z : Key), D.bl true) := by
      rw [putD_new, List.map_append]
      · rfl
      · rw [List.map_map]
        intro q
        obtain ⟨z, hz, e⟩ := List.mem_map.mp q
        have e : (Sum.inr z : Key) = .inr x := e
        exact hx (Sum.inr.inj e ▸ hz)
    rw [e, List.map_map, List.map_map]
    exact k (l ++ [x]) (fun z => by simp) (by simp)
def notIn (r : Rule) (z : Str) : Bool := !din (.str z) (r.ps.map D.str)
def others (r : Rule) : List Str := (srtU (anB r.b)).filter (notIn r)
theorem ps_pl {r : Rule} (hr : r.Ok) : Pl (.tup (r.ps.map D.str)) := (Fac.tup (pl_strs hr.ps)).ple (by decide)
theorem filt_ {r : Rule} (hr : r.Ok) {s : Slots} {L : List Str} (hL : ∀ z ∈ L, okS z = true) (hl : L.length ≤ 100000) {t : MT} {e : ME} {as : As} {m : Mem} {QA : List D → Mem → Prop} {XX : XQ}
    (h : ∀ z, okS z = true → ∃ s1, as (.str z) s = some s1 ∧ wp (t s1 m) (fun c m1 => c = notIn r z ∧ m1 = m) noX ∧ wp (e s1 m) (fun y m1 => y = .str z ∧ m1 = m) noX)
    (k : QA ((L.filter (notIn r)).map D.str) m) : wp (loopC as t e s (L.map D.str) [] m) QA XX := by
  refine v_loopC (I := fun ds acc m2 => ∃ done todo : List Str, L = done ++ todo ∧ ds = todo.map D.str ∧ acc = (done.filter (notIn r)).map D.str ∧ m2 = m) ?_ ?_ ?_
  · exact ⟨[], L, rfl, rfl, rfl, rfl⟩
  · rintro acc m2 ⟨done, todo, e1, e2, rfl, rfl⟩
    cases todo with
    | cons _ _ => cases e2
    | nil => rw [List.append_nil] at e1; subst e1; exact k
  · rintro d ds acc m2 ⟨done, todo, e1, e2, rfl, rfl⟩
    cases todo with
    | nil => cases e2
    | cons z todo =>
      obtain ⟨rfl, rfl⟩ := List.cons.inj e2
      have hz : z ∈ L := by rw [e1]; simp
      obtain ⟨s1, h1, h2, h3⟩ := h z (hL z hz)
      refine ⟨s1, h1, ?_⟩
      refine wp_imp h2 ?_
      rintro c m1 ⟨rfl, rfl⟩
      have fl := List.length_filter_le (notIn r) done
      rw [e1] at hl
      simp only [List.length_append, List.length_cons] at hl
      refine pick_b (fun q => ?_) (fun q => ?_)
      · refine wp_imp h3 ?_
        rintro _ _ ⟨rfl, rfl⟩
        refine ⟨by rw [List.length_map, sizeLine_eq]; omega, done ++ [z], todo, by rw [e1]; simp, rfl, ?_, rfl⟩
        rw [filt1 (p := notIn r) q, List.map_append]; rfl
      · exact ⟨done ++ [z], todo, by rw [e1]; simp, rfl, by rw [filt0 (p := notIn r) q], rfl⟩
theorem variables_ (r : Rule) (hr : r.Ok) {t : Nat} {m : Mem} (p : PM t m) : wp (g_variables [r.d] m) (fun v m' => PM t m' ∧ Ch m m' ∧ v = .tup (r.ps.map D.str ++ (others r).map D.str)) noX := by
  have c0 := Ch.refl m
  have hn0 := p.nx
  have hc30 := hr.c30
  have hn4 := hr.n4
  have tot := an_len hr.b
  rw [anB_dB] at tot
  refine w_body rfl ?_
  unfold m_variables
  (repeat' (first | (with_reducible first | refine w_seq ?_ | refine w_set ?_ | refine w_for ?_ | refine v_c ?_ | refine v_op ?_ | refine v_call ?_ | refine a_nil ?_ | refine a_cons ?_ | refine i_iter ?_ | refine v_newK ?_) | (with_reducible refine v_vx ?_; refine ex_v rfl ?_) | ((fail_if_success (with_reducible refine i_rng ?_ ?_ ?_)); (with_reducible refine wp_ofx ?_; refine ex_o rfl ?_)) | fail))
  have p1 := p.addO (.dk [] [])
  have c1 := c0.addO (.dk [] [])
  refine wp_imp (deeds_in_ 40 r.b t _ hr.b (by omega) (by omega) (by omega) p1) ?_
  rintro _ m1 ⟨p2, c2, rfl⟩
  have h1 : m1.ob m.nx = some (dkO []) := (c2.ob _ (by omega) (Nat.lt_succ_self _)).trans (add_ob _ _)
  (repeat' (first | (with_reducible first | refine q_itL ?_) | fail))
  refine w_loop (I := fun ds s m1 => ∃ (done todo : List Deed) (l : List Str) (o2 o3 o4 : Option D), s = [some r.d, some (.ref m.nx), o2, o3, o4] ∧ dB r.b = done ++ todo ∧ ds = todo.map Deed.d ∧ m1.ob m.nx = some (dkO l) ∧
    (∀ z, z ∈ l ↔ z ∈ done.flatMap own) ∧ l.length ≤ (done.flatMap own).length ∧ PM t m1 ∧ Ch m m1) ?_ ?_ ?_
  · exact ⟨[], dB r.b, [], none, none, none, rfl, rfl, rfl, h1, fun z => Iff.rfl, Nat.le_refl _, p2, c1.trans c2⟩
  · rintro s m3 ⟨done, todo, l, o2, o3, o4, rfl, e1, e2, h3, hm, hl, p3, c3⟩
    cases todo with
    | cons _ _ => cases e2
    | nil =>
      rw [List.append_nil] at e1
      rw [← e1, ← anB_dB] at hm hl
      rw [← anB_dB] at tot
      (repeat' (first | (with_reducible first | refine w_ret ?_ | refine v_c ?_ | refine v_op ?_ | refine v_cb ?_ | refine a_nil ?_ | refine a_cons ?_ | refine i_iter ?_ | refine v_lc ?_) | (with_reducible refine v_vx ?_; refine ex_v rfl ?_) | ((fail_if_success (with_reducible refine i_rng ?_ ?_ ?_)); (with_reducible refine wp_ofx ?_; refine ex_o rfl ?_)) | fail))
      refine q_sortD (l := l) (by rw [view_ref, h3]; rfl) ?_
      (repeat' (first | (with_reducible first | refine q_itL ?_) | fail))
      have es : srtU l = srtU (anB r.b) := srtU_congr hm
      have sl := srtU_len (anB r.b)
      rw [es]
      have fl := List.length_filter_le (notIn r) (srtU (anB r.b))
      have h3' := hr.p3
      refine filt_ hr (fun z hz => an_ok hr.b z ((mem_srtU _).1 hz)) (by omega) ?_ ?_
      · intro z hz
        refine ⟨_, rfl, ?_, ?_⟩
        · (repeat' (first | (with_reducible first | refine v_c ?_ | refine v_op ?_ | refine t_t ?_) | (with_reducible refine v_vx ?_; refine ex_v rfl ?_) | ((fail_if_success (with_reducible refine i_rng ?_ ?_ ?_)); (with_reducible refine wp_ofx ?_; refine ex_o rfl ?_)) | fail))
          refine q_ninT (pl_str (by unfold okS at hz; rw [Bool.and_eq_true] at hz; exact hz.1)) (ps_pl hr) ?_
          exact ⟨_, rfl, rfl, rfl⟩
        · (repeat' (first | (with_reducible refine v_vx ?_; refine ex_v rfl ?_) | fail))
          exact ⟨rfl, rfl⟩
      · (repeat' (first | (with_reducible first | refine a_nil ?_ | refine q_tupL ?_) | fail))
        refine q_addT (by simp only [List.length_map, sizeLine_eq]; omega) ?_
        exact ⟨p3, c3, rfl⟩
  · rintro x xs s m3 ⟨done, todo, l, o2, o3, o4, rfl, e1, e2, h3, hm, hl, p3, c3⟩
    cases todo with
    | nil => cases e2
    | cons d todo =>
      obtain ⟨rfl, rfl⟩ := List.cons.inj e2
      have hd : d ∈ dB r.b := by rw [e1]; simp
      obtain ⟨dok, dn⟩ := dB_ok r.b hr.b d hd
      have dl := own_len dok
      have hx := exs_ok dok
      have tl := congrArg (fun l => (l.flatMap own).length) e1
      simp only [List.flatMap_append, List.flatMap_cons, List.length_append] at tl
      have ol : (own d).length = (tgs d).length + ((exs d).flatMap nm).length := by unfold own; rw [List.length_append]
      refine ⟨_, rfl, ?_⟩
      (repeat' (first | (with_reducible first | refine w_seq ?_ | refine w_for ?_ | refine v_call ?_ | refine a_nil ?_ | refine a_cons ?_ | refine i_iter ?_) | (with_reducible refine v_vx ?_; refine ex_v rfl ?_) | fail))
      refine wp_imp (targets_ d dok) ?_
      rintro _ _ ⟨rfl, rfl⟩
      (repeat' (first | (with_reducible first | refine q_itL ?_) | fail))
      refine w_loop (I := fun ds s m4 => ∃ (nd nt l2 : List Str) (o3 o4 : Option D), s = [some r.d, some (.ref m.nx), some d.d, o3, o4] ∧ tgs d = nd ++ nt ∧ ds = nt.map D.str ∧ m4.ob m.nx = some (dkO l2) ∧
        (∀ z, z ∈ l2 ↔ z ∈ l ∨ z ∈ nd) ∧ l2.length ≤ l.length + nd.length ∧ PM t m4 ∧ Ch m m4) ?_ ?_ ?_
      · exact ⟨[], tgs d, l, _, _, rfl, rfl, rfl, h3, fun z => by simp, Nat.le_refl _, p3, c3⟩
      · rintro s m4 ⟨nd, nt, l2, o3, o4, rfl, f1, f2, h4, hm4, hl4, p4, c4⟩
        cases nt with
        | cons _ _ => cases f2
        | nil =>
          rw [List.append_nil] at f1
          rw [← f1] at hm4 hl4
          (repeat' (first | (with_reducible first | refine w_for ?_ | refine v_call ?_ | refine a_nil ?_ | refine a_cons ?_ | refine i_iter ?_) | (with_reducible refine v_vx ?_; refine ex_v rfl ?_) | fail))
          refine wp_imp (exprs_ d) ?_
          rintro _ _ ⟨rfl, rfl⟩
          (repeat' (first | (with_reducible first | refine q_itL ?_) | fail))
          refine w_loop (I := fun ds s m5 => ∃ (ed et : List Ex) (l3 : List Str) (o3 o4 : Option D), s = [some r.d, some (.ref m.nx), some d.d, o3, o4] ∧ exs d = ed ++ et ∧ ds = et.map Ex.d ∧ m5.ob m.nx = some (dkO l3) ∧
            (∀ z, z ∈ l3 ↔ z ∈ l ∨ z ∈ tgs d ++ ed.flatMap nm) ∧ l3.length ≤ l.length + (tgs d ++ ed.flatMap nm).length ∧ PM t m5 ∧ Ch m m5) ?_ ?_ ?_
          · exact ⟨[], exs d, l2, _, _, rfl, rfl, rfl, h4, by simpa using hm4, by simpa using hl4, p4, c4⟩
          · rintro s m5 ⟨ed, et, l3, o3, o4, rfl, g1, g2, h5, hm5, hl5, p5, c5⟩
            cases et with
            | cons _ _ => cases g2
            | nil =>
              rw [List.append_nil] at g1
              refine ⟨done ++ [d], todo, l3, _, _, _, rfl, by rw [e1]; simp, rfl, h5, fun z => ?_, ?_, p5, c5⟩
              · rw [hm5 z, hm z, ← g1, List.flatMap_append, List.mem_append]
                simp [own]
              · rw [← g1] at hl5
                simp only [List.flatMap_append, List.flatMap_cons, List.flatMap_nil, List.length_append, List.length_nil] at hl5 ⊢
                omega
          · rintro x xs s m5 ⟨ed, et, l3, o3, o4, rfl, g1, g2, h5, hm5, hl5, p5, c5⟩
            cases et with
            | nil => cases g2
            | cons e et =>
              obtain ⟨rfl, rfl⟩ := List.cons.inj g2
              have he := hx e (by rw [g1]; simp)
              have gl := congrArg (fun l => (l.flatMap nm).length) g1
              simp only [List.flatMap_append, List.flatMap_cons, List.length_append] at gl hl5
              refine ⟨_, rfl, ?_⟩
              (repeat' (first | (with_reducible first | refine w_for ?_ | refine v_call ?_ | refine a_nil ?_ | refine a_cons ?_ | refine i_iter ?_) | (with_reducible refine v_vx ?_; refine ex_v rfl ?_) | fail))
              have lt5 := ob_lt p5 h5
              refine wp_imp (names_ 40 e t m5 (by omega) (by omega) p5) ?_
              rintro _ m6 ⟨p6, c6, rfl⟩
              have h6 := (c6.ob _ (by omega) lt5).trans h5
              (repeat' (first | (with_reducible first | refine q_itL ?_) | fail))
              refine w_loop (I := fun ds s m7 => ∃ (nd nt l4 : List Str) (o3 : Option D), s = [some r.d, some (.ref m.nx), some d.d, o3, some e.d] ∧ nm e = nd ++ nt ∧ ds = nt.map D.str ∧ m7.ob m.nx = some (dkO l4) ∧
                (∀ z, z ∈ l4 ↔ z ∈ l3 ∨ z ∈ nd) ∧ l4.length ≤ l3.length + nd.length ∧ PM t m7 ∧ Ch m m7) ?_ ?_ ?_
              · exact ⟨[], nm e, l3, _, rfl, rfl, rfl, h6, fun z => by simp, Nat.le_refl _, p6, c5.trans c6⟩
              · rintro s m7 ⟨nd, nt, l4, o3, rfl, k1, k2, h7, hm7, hl7, p7, c7⟩
                cases nt with
                | cons _ _ => cases k2
                | nil =>
                  rw [List.append_nil] at k1
                  refine ⟨ed ++ [e], et, l4, _, _, rfl, by rw [g1]; simp, rfl, h7, fun z => ?_, ?_, p7, c7⟩
                  · rw [hm7 z, hm5 z, ← k1, List.flatMap_append]
                    simp [or_assoc]
                  · rw [← k1] at hl7
                    simp only [List.flatMap_append, List.flatMap_cons, List.flatMap_nil, List.length_append, List.length_nil]
                    omega
              · rintro x xs s m7 ⟨nd, nt, l4, o3, rfl, k1, k2, h7, hm7, hl7, p7, c7⟩
                cases nt with
                | nil => cases k2
                | cons y nt =>
                  obtain ⟨rfl, rfl⟩ := List.cons.inj k2
                  have kl := congrArg List.length k1
                  simp only [List.length_append, List.length_cons] at kl
                  refine ⟨_, rfl, ?_⟩
                  have lt7 := ob_lt p7 h7
                  (repeat' (first | (with_reducible first | refine w_dput ?_ | refine v_c ?_) | (with_reducible refine v_vx ?_; refine ex_v rfl ?_) | fail))
                  refine put_key h7 (by omega) ?_
                  intro l5 hm8 hl8
                  refine ⟨nd ++ [y], nt, l5, _, rfl, by rw [k1]; simp, rfl, put_ob _ _ _, fun z => ?_, ?_, p7.putO (by omega) lt7 _, c7.putO (Nat.le_refl _) _⟩
                  · rw [hm8 z, hm7 z]; simp [or_assoc]
                  · simp only [List.length_append, List.length_cons, List.length_nil]; omega
      · rintro x xs s m4 ⟨nd, nt, l2, o3, o4, rfl, f1, f2, h4, hm4, hl4, p4, c4⟩
        cases nt with
        | nil => cases f2
        | cons y nt =>
          obtain ⟨rfl, rfl⟩ := List.cons.inj f2
          have kl := congrArg List.length f1
          simp only [List.length_append, List.length_cons] at kl
          refine ⟨_, rfl, ?_⟩
          have lt4 := ob_lt p4 h4
          (repeat' (first | (with_reducible first | refine w_dput ?_ | refine v_c ?_) | (with_reducible refine v_vx ?_; refine ex_v rfl ?_) | fail))
          refine put_key h4 (by omega) ?_
          intro l5 hm8 hl8
          refine ⟨nd ++ [y], nt, l5, _, _, rfl, by rw [f1]; simp, rfl, put_ob _ _ _, fun z => ?_, ?_, p4.putO (by omega) lt4 _, c4.putO (Nat.le_refl _) _⟩
          · rw [hm8 z, hm4 z]; simp [or_assoc]
          · simp only [List.length_append, List.length_cons, List.length_nil]; omega
end K10

set_option Elab.async false
set_option linter.all false
set_option maxRecDepth 100000
set_option autoImplicit false
namespace K10
open PySem PySem.Spec PyProof.Rows L2 Ev BG BP BQ BR
theorem out_sh {r : Rule} (hr : r.Ok) : Sh (.tup (r.ps.map D.str ++ (others r).map D.str)) := by
  rw [← List.map_append]
  have fl := List.length_filter_le (notIn r) (srtU (anB r.b))
  have sl := srtU_len (anB r.b)
  have tot := an_len hr.b
  have := hr.c30
  have := hr.p3
  refine (Fac.tup (pl_strs (ps := r.ps ++ others r) fun s hs => ?_)).sh (by decide) (by unfold others; rw [List.length_append]; omega)
  rcases List.mem_append.mp hs with q | q
  · exact hr.ps s q
  · unfold others at q
    exact an_ok hr.b s ((mem_srtU _).1 (List.mem_filter.mp q).1)
theorem law_true : ∀ ns : List Int, ns.length ≤ 63 → ∃ m', g_law [.scr ns] Ev.mem0 = .ok (.bl true) m' := by
  intro ns hn
  suffices h : wp (g_law [.scr ns] Ev.mem0) (fun v _ => v = .bl true) noX by
    obtain ⟨a, m, e, h⟩ := wp_det h
    exact ⟨m, by rw [e, h]⟩
  refine w_body rfl ?_
  unfold m_law
  (repeat' (first | (with_reducible first | refine w_seq ?_ | refine w_set ?_ | refine v_call ?_ | refine a_nil ?_ | refine a_cons ?_) | (with_reducible refine v_vx ?_; refine ex_v rfl ?_) | fail))
  refine wp_imp (pen_ ns hn) ?_
  rintro v m ⟨rfl, p⟩
  have c0 := Ch.refl m
  (repeat' (first | (with_reducible first | refine w_seq ?_ | refine w_set ?_ | refine v_c ?_ | refine v_op ?_ | refine v_cb ?_ | refine v_call ?_ | refine a_nil ?_ | refine a_cons ?_ | refine v_lst ?_) | (with_reducible refine v_vx ?_; refine ex_v rfl ?_) | (with_reducible refine len_ok (by simp [sizeLine_eq]) ?_) | fail))
  refine draw_ p c0 (by decide) (by decide) (by decide) ?_
  intro d1 m1 p1 c1 lo1 hi1
  (repeat' (first | (with_reducible first | refine v_c ?_ | refine a_nil ?_ | refine q_ei ?_ | refine q_intB ?_) | fail))
  refine deeds_ ?_
  intro nd hnd
  (repeat' (first | (with_reducible first | refine w_seq ?_ | refine w_set ?_ | refine v_c ?_ | refine v_call ?_ | refine a_nil ?_ | refine a_cons ?_) | (with_reducible refine v_vx ?_; refine ex_v rfl ?_) | fail))
  refine wp_imp (book_ p1 (by decide) (by decide) (by decide) (by omega) (by omega)) ?_
  rintro _ m2 ⟨p2, c2, rs, rfl, hrs, r1, r3⟩
  have shB : Sh (.tup (rs.map Rule.d)) := (Fac.tup (rules_fac hrs)).sh (by decide) (by omega)
  (repeat' (first | (with_reducible first | refine w_seq ?_ | refine w_set ?_ | refine v_cb ?_ | refine a_nil ?_ | refine a_cons ?_) | (with_reducible refine v_vx ?_; refine ex_v rfl ?_) | fail))
  refine q_repr shB ?_
  (repeat' (first | (with_reducible first | refine w_seq ?_ | refine w_for ?_ | refine v_op ?_ | refine i_iter ?_) | (with_reducible refine v_vx ?_; refine ex_v rfl ?_) | fail))
  refine q_addT (by simp only [List.length_map, sizeLine_eq]; omega) ?_
  (repeat' (first | (with_reducible first | refine q_itT ?_) | fail))
  have hn2 := p2.nx
  refine w_loop (I := fun ds s m3 => ∃ (o5 o6 o7 : Option D) (t : Nat), s = [some (.scr ns), some (.ref 0), some (.int nd), some (.tup (rs.map Rule.d)), some (.str (shD (.tup (rs.map Rule.d)))), o5, o6, o7] ∧ (∀ d ∈ ds, ∃ r : Rule, r.Ok ∧ d = r.d) ∧ PM t m3) ?_ ?_ ?_
  · refine ⟨none, none, none, _, rfl, ?_, p2⟩
    intro d hd
    rcases List.mem_append.mp hd with q | q
    · obtain ⟨r, hr, rfl⟩ := List.mem_map.mp q
      exact ⟨r, hrs r hr, rfl⟩
    · obtain ⟨r, hr, rfl⟩ := List.mem_map.mp q
      exact ⟨r, hrs r hr, rfl⟩
  · rintro s m3 ⟨o5, o6, o7, t, rfl, _, p3⟩
    (repeat' (first | (with_reducible first | refine w_ret ?_ | refine v_op ?_ | refine v_cb ?_ | refine a_nil ?_ | refine a_cons ?_) | (with_reducible refine v_vx ?_; refine ex_v rfl ?_) | fail))
    refine q_repr shB ?_
    (repeat' (first | (with_reducible first | refine q_es ?_) | (with_reducible refine v_vx ?_; refine ex_v rfl ?_) | fail))
    exact congrArg D.bl (decide_eq_true rfl)
  · rintro x xs s m3 ⟨o5, o6, o7, t, rfl, hds, p3⟩
    obtain ⟨r, hr, rfl⟩ := hds x (List.mem_cons_self ..)
    refine ⟨_, rfl, ?_⟩
    have hc30 := hr.c30
    have hn4 := hr.n4
    have h3' := hr.p3
    have tot := an_len hr.b
    have fl := List.length_filter_le (notIn r) (srtU (anB r.b))
    have sl := srtU_len (anB r.b)
    (repeat' (first | (with_reducible first | refine w_seq ?_ | refine w_set ?_ | refine v_c ?_ | refine v_op ?_ | refine v_o1 ?_ | refine v_call ?_ | refine a_nil ?_ | refine a_cons ?_ | refine i_iter ?_ | refine v_lc ?_) | (with_reducible refine v_vx ?_; refine ex_v rfl ?_) | ((fail_if_success (with_reducible refine i_rng ?_ ?_ ?_)); (with_reducible refine wp_ofx ?_; refine ex_o rfl ?_)) | fail))
    refine wp_imp (all_ 40 r.b t m3 hr.b (by omega) (by omega) p3) ?_
    rintro _ m4 ⟨p4, c4, rfl⟩
    refine q_sortSet (l := anB r.b) rfl (by omega) ?_
    (repeat' (first | (with_reducible first | refine q_itL ?_) | fail))
    refine filt_ hr (fun z hz => an_ok hr.b z ((mem_srtU _).1 hz)) (by omega) ?_ ?_
    · intro z hz
      refine ⟨_, rfl, ?_, ?_⟩
      · (repeat' (first | (with_reducible first | refine v_c ?_ | refine v_op ?_ | refine t_t ?_) | (with_reducible refine v_vx ?_; refine ex_v rfl ?_) | ((fail_if_success (with_reducible refine i_rng ?_ ?_ ?_)); (with_reducible refine wp_ofx ?_; refine ex_o rfl ?_)) | fail))
        refine q_ninT (pl_str (by unfold okS at hz; rw [Bool.and_eq_true] at hz; exact hz.1)) (ps_pl hr) ?_
        exact ⟨_, rfl, rfl, rfl⟩
      · (repeat' (first | (with_reducible refine v_vx ?_; refine ex_v rfl ?_) | fail))
        exact ⟨rfl, rfl⟩
    (repeat' (first | (with_reducible first | refine w_if ?_ | refine v_op ?_ | refine v_cb ?_ | refine v_call ?_ | refine a_nil ?_ | refine a_cons ?_ | refine t_t ?_) | (with_reducible refine v_vx ?_; refine ex_v rfl ?_) | fail))
    refine wp_imp (variables_ r hr p4) ?_
    rintro _ m5 ⟨p5, c5, rfl⟩
    (repeat' (first | (with_reducible first | refine a_nil ?_) | fail))
    refine q_repr (out_sh hr) ?_
    (repeat' (first | (with_reducible first | refine v_c ?_ | refine v_op ?_ | refine v_cb ?_ | refine a_nil ?_ | refine a_cons ?_ | refine q_tupL ?_) | (with_reducible refine v_vx ?_; refine ex_v rfl ?_) | ((fail_if_success (with_reducible refine i_rng ?_ ?_ ?_)); (with_reducible refine wp_ofx ?_; refine ex_o rfl ?_)) | fail))
    refine q_addT (by simp only [List.length_map, sizeLine_eq]; omega) ?_
    (repeat' (first | (with_reducible first | refine a_nil ?_) | fail))
    refine q_repr (out_sh hr) ?_
    (repeat' (first | (with_reducible first | refine ex_bl ?_ | refine q_ns ?_) | fail))
    refine pick_f (by simp [others]) ?_
    (repeat' (first | (with_reducible first | refine w_skip ?_) | fail))
    exact ⟨_, _, _, t, rfl, fun d hd => hds d (List.mem_cons_of_mem _ hd), p5⟩
end K10

open PySem PySem.W PyProof.Rows
set_option maxHeartbeats 0 in
theorem PySem.Challenge.cw_handedon_k10_variables_of_rules_holds : PySem.Challenge.rw_handedon_k10_variables_of_rules.Holds := by
  w_on; o_law; k_head; (case hw => w_witness2)
  k_fill
  refine Ev.walkG (l := PySem.Challenge.rw_handedon_k10_variables_of_rules) (n := 63) (k := 85) (x := "_law_script") (g := K10.g_law) rfl (by decide) rfl ⟨rfl, by decide, by decide⟩ (fun w h Y => PySem.W.kIn_of Y) ?F K10.law_true
  case F =>
    intro w mg fa h KX G hmg
    refine' K10.all_mk KX G hmg ?a0 ?l0 ?c0 ?k0 ?a1 ?l1 ?c1 ?k1 ?a2 ?l2 ?c2 ?k2 ?a3 ?l3 ?c3 ?k3 ?a4 ?l4 ?c4 ?k4 ?a5 ?l5 ?c5 ?k5 ?a6 ?l6 ?c6 ?k6 ?a7 ?l7 ?c7 ?k7 ?a8 ?l8 ?c8 ?k8 ?a9 ?l9 ?c9 ?k9 ?a10 ?l10 ?c10 ?k10 ?a11 ?l11 ?c11 ?k11 ?a12 ?l12 ?c12 ?k12 ?a13 ?l13 ?c13 ?k13 ?a14 ?l14 ?c14 ?k14 ?a15 ?l15 ?c15 ?k15 ?a16 ?l16 ?c16 ?k16 ?a17 ?l17 ?c17 ?k17 ?a18 ?l18 ?c18 ?k18 ?a19 ?l19 ?c19 ?k19 ?a20 ?l20 ?c20 ?k20 ?a21 ?l21 ?c21 ?k21 ?a22 ?l22 ?c22 ?k22 ?a23 ?l23 ?c23 ?k23 ?a24 ?l24 ?c24 ?k24 ?a25 ?l25 ?c25 ?k25 ?z_list ?z_len ?z_abs ?z_range ?z_tuple ?z_int ?z_sum ?z_min ?z_sorted ?z_repr ?z_set
    (case a0 => k_is); (case l0 => k_is); (case c0 => k_is); (case k0 => k_is); (case a1 => k_is); (case l1 => k_is); (case c1 => k_is); (case k1 => k_is); (case a2 => k_is); (case l2 => k_is); (case c2 => k_is); (case k2 => k_is); (case a3 => k_is); (case l3 => k_is); (case c3 => k_is); (case k3 => k_is); (case a4 => k_is); (case l4 => k_is); (case c4 => k_is); (case k4 => k_is); (case a5 => k_is); (case l5 => k_is); (case c5 => k_is); (case k5 => k_is); (case a6 => k_is); (case l6 => k_is); (case c6 => k_is); (case k6 => k_is); (case a7 => k_is); (case l7 => k_is); (case c7 => k_is); (case k7 => k_is); (case a8 => k_is); (case l8 => k_is); (case c8 => k_is); (case k8 => k_is); (case a9 => k_is); (case l9 => k_is); (case c9 => k_is); (case k9 => k_is); (case a10 => k_is); (case l10 => k_is); (case c10 => k_is); (case k10 => k_is); (case a11 => k_is); (case l11 => k_is); (case c11 => k_is); (case k11 => k_is); (case a12 => k_is); (case l12 => k_is); (case c12 => k_is); (case k12 => k_is); (case a13 => k_is); (case l13 => k_is); (case c13 => k_is); (case k13 => k_is); (case a14 => k_is); (case l14 => k_is); (case c14 => k_is); (case k14 => k_is); (case a15 => k_is); (case l15 => k_is); (case c15 => k_is); (case k15 => k_is); (case a16 => k_is); (case l16 => k_is); (case c16 => k_is); (case k16 => k_is); (case a17 => k_is); (case l17 => k_is); (case c17 => k_is); (case k17 => k_is); (case a18 => k_is); (case l18 => k_is); (case c18 => k_is); (case k18 => k_is); (case a19 => k_is); (case l19 => k_is); (case c19 => k_is); (case k19 => k_is); (case a20 => k_is); (case l20 => k_is); (case c20 => k_is); (case k20 => k_is); (case a21 => k_is); (case l21 => k_is); (case c21 => k_is); (case k21 => k_is); (case a22 => k_is); (case l22 => k_is); (case c22 => k_is); (case k22 => k_is); (case a23 => k_is); (case l23 => k_is); (case c23 => k_is); (case k23 => k_is); (case a24 => k_is); (case l24 => k_is); (case c24 => k_is); (case k24 => k_is); (case a25 => k_is); (case l25 => k_is); (case c25 => k_is); (case k25 => k_is); (case z_list => k_is); (case z_len => k_is); (case z_abs => k_is); (case z_range => k_is); (case z_tuple => k_is); (case z_int => k_is); (case z_sum => k_is); (case z_min => k_is); (case z_sorted => k_is); (case z_repr => k_is); (case z_set => k_is)
