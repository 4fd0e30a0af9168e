import PyProof.Rows.All
import Wide.All
import OpenK.AllK
import Wide.FinOn
import HandS.ForMost
import HandS.ForExc
import HandS.Wide
import HandS.IsInst
import HandS.Deep
import HandS.TupAny
import HandS.Flow
import HandS.Conv
import KE.DataFind
import HandS.Text
import KE.GoesMore
import HandS.Iter
import HandS.Zip
import HandS.Style
import KE.KDictPairs
import KE.KIntText
import HandS.FStr
import PyProof.StrOps2
import KE.DataCmp
import HandS.TupLen
import PyProof.Rows.SortShellAny
import PyProof.Rows.SetFrom
import HandS.Strs
import HandS.Set
import KE.KDictSum
import HandS.ExcOwn
import HandS.ExcIs
import HandS.ExcField
import HandS.RaiseMore
import HandS.ExcValue
import KE.KExcIs
import PySem.Challenge.RW_handedon_k04_texts_of_no_worth
import KE.IntTextLaws
set_option Elab.async false
set_option linter.all false
set_option maxRecDepth 100000
set_option autoImplicit false
/-! Ev1: values, memories, results; how they stand in the abstract heap. -/
namespace Ev
open PySem PySem.Spec PyProof.Rows L2

/-- a value: deep where nothing of it changes; ref: the number of a thing that may change; scr: the script's list -/
inductive D where
  | non | bl (b : Bool) | int (i : Int) | str (s : Str)
  | tup (ds : List D) | lst (ds : List D) | scr (ns : List Int)
  | dk (ks : List Key) (ds : List D) | dt (ks : List (List Key)) (ds : List D)
  | ref (i : Nat)

/-- a thing that may change -/
inductive Ob where
  | lst (ds : List D)
  | dk (ks : List Key) (ds : List D)
  | dt (ks : List (List Key)) (ds : List D)
  | ins (C : Str) (fs : List (Str × D))
  | exn (C : Str) (fs : List (Str × D))

structure Mem where
  nx : Nat
  ob : Nat → Option Ob
def Mem.put (m : Mem) (i : Nat) (o : Ob) : Mem := ⟨m.nx, fun j => if j = i then some o else m.ob j⟩
def Mem.add (m : Mem) (o : Ob) : Mem := ⟨m.nx + 1, fun j => if j = m.nx then some o else m.ob j⟩
def Mem.kill (m : Mem) (i : Nat) : Mem := ⟨m.nx, fun j => if j = i then none else m.ob j⟩
/-- what is new is forgotten -/
def Mem.back (m : Mem) (n : Nat) : Mem := ⟨m.nx, fun j => if j < n then m.ob j else none⟩

inductive Res (α : Type) where
  | ok (a : α) (m : Mem)
  | exc (C : Str) (fs : List (Str × D)) (m : Mem)
  | bad
def Res.bind {α β : Type} (r : Res α) (k : α → Mem → Res β) : Res β := match r with
  | .ok a m => k a m
  | .exc C fs m => .exc C fs m
  | .bad => .bad
@[simp] theorem Res.bind_ok {α β : Type} (a : α) (m : Mem) (k : α → Mem → Res β) : (Res.ok a m).bind k = k a m := rfl
@[simp] theorem Res.bind_exc {α β : Type} (C : Str) (fs : List (Str × D)) (m : Mem) (k : α → Mem → Res β) : (Res.exc C fs m : Res α).bind k = .exc C fs m := rfl
@[simp] theorem Res.bind_bad {α β : Type} (k : α → Mem → Res β) : (Res.bad : Res α).bind k = .bad := rfl
def Res.of {α : Type} (o : Option α) (m : Mem) : Res α := match o with
  | some a => .ok a m
  | none => .bad
@[simp] theorem Res.of_some {α : Type} (a : α) (m : Mem) : Res.of (some a) m = .ok a m := rfl
@[simp] theorem Res.of_none {α : Type} (m : Mem) : (Res.of none m : Res α) = .bad := rfl

/-! ### how they stand -/
/-- a written tuple -/
def Kt (K : PySem.W.Frag) (a : Addr) (xs : List V) : Prop :=
  ∃ (o : Obj) (its : Array Value) (n : Nat), K.lookup a = some o ∧ o.cls = .type "tuple" ∧ o.data = .seq its n ∧ its.size ≤ sizeLine ∧ Vals xs its.toList
/-- .. that begins with a text: so no place is written -/
def TupF (K : PySem.W.Frag) (F : Addr → Prop) (H : Hp) (a : Addr) (xs : List V) : Prop := (F a ∧ H a = some (.tup xs)) ∨ (Kt K a xs ∧ ∃ z r, xs = V.str z :: r)
theorem TupF.sq {K : PySem.W.Frag} {F : Addr → Prop} {H : Hp} {a : Addr} {xs : List V} (h : TupF K F H a xs) : SqT K H a xs := by
  rcases h with ⟨_, h⟩ | h
  · exact .inl (.inl h)
  · exact .inr h.1
/-- a written list; the script's -/
def Kl (K : PySem.W.Frag) (a : Addr) (xs : List V) : Prop :=
  ∃ (o : Obj) (its : Array Value) (n : Nat), K.lookup a = some o ∧ o.cls = .type "list" ∧ o.dict = none ∧ o.data = .seq its n ∧ its.size ≤ sizeLine ∧ Vals xs its.toList
def ScrF (K : PySem.W.Frag) (F : Addr → Prop) (H : Hp) (a : Addr) (ns : List Int) : Prop := (F a ∧ ∃ o, H a = some (.frz o (.lst (ns.map V.int)))) ∨ Kl K a (ns.map V.int)
theorem ScrF.sq {K : PySem.W.Frag} {F : Addr → Prop} {H : Hp} {a : Addr} {ns : List Int} (h : ScrF K F H a ns) : SqL K H a (ns.map V.int) := by
  rcases h with ⟨_, o, h⟩ | h
  · exact .inl (.inr ⟨o, h⟩)
  · exact .inr h
theorem ScrF.ty {K : PySem.W.Frag} {F : Addr → Prop} {H : Hp} {a : Addr} {ns : List Int} (h : ScrF K F H a ns) : TyX K H (.ref a) (.type "list") := by
  rcases h with ⟨_, o, h⟩ | ⟨o, its, n, h1, h2, _⟩
  · exact .base (.frz h)
  · exact .kList h1 h2
mutual
def RelD (K : PySem.W.Frag) (io : Nat → Addr) (F : Addr → Prop) (n : Nat) (H : Hp) : D → V → Prop
  | .non, v => v = .non
  | .bl b, v => v = .bl b
  | .int i, v => v = .int i
  | .str s, v => v = .str s
  | .tup ds, v => ∃ a xs, v = .ref a ∧ TupF K F H a xs ∧ RelDs K io F n H ds xs
  | .lst ds, v => ∃ a xs, v = .ref a ∧ F a ∧ H a = some (.lst xs) ∧ RelDs K io F n H ds xs
  | .scr ns, v => ∃ a, v = .ref a ∧ ScrF K F H a ns
  | .dk ks ds, v => ∃ a kvs, v = .ref a ∧ F a ∧ Rd H a (.dK kvs) ∧ kvs.map (·.1) = ks ∧ RelDs K io F n H ds (kvs.map (·.2))
  | .dt ks ds, v => ∃ a kvs, v = .ref a ∧ F a ∧ Rd H a (.dT kvs) ∧ kvs.map (·.1) = ks ∧ RelDs K io F n H ds (kvs.map (·.2))
  | .ref i, v => i < n ∧ v = .ref (io i)
def RelDs (K : PySem.W.Frag) (io : Nat → Addr) (F : Addr → Prop) (n : Nat) (H : Hp) : List D → List V → Prop
  | [], [] => True
  | d :: ds, v :: vs => RelD K io F n H d v ∧ RelDs K io F n H ds vs
  | _, _ => False
end
def RelF (K : PySem.W.Frag) (io : Nat → Addr) (F : Addr → Prop) (n : Nat) (H : Hp) : List (Str × D) → List (Str × V) → Prop
  | [], [] => True
  | d :: ds, v :: vs => (d.1 = v.1 ∧ RelD K io F n H d.2 v.2) ∧ RelF K io F n H ds vs
  | _, _ => False
/-- the static part: what is written, the module's names, the classes' addresses -/
structure Ct where
  K : PySem.W.Frag
  mg : Str → Option Value
/-- a caught error, kept -/
def exK (cls : Value) (d : Option Addr) (a : Addr) : HO := .ext fun h => ∃ (oe : Obj) (vs : Array Value), h.get? a = some oe ∧ Zc cls d oe ∧ oe.data = .fields vs
def RelO (T : Ct) (io : Nat → Addr) (F : Addr → Prop) (n : Nat) (H : Hp) : Ob → Addr → Prop
  | .lst ds, a => ∃ xs, H a = some (.lst xs) ∧ RelDs T.K io F n H ds xs
  | .dk ks ds, a => ∃ kvs, H a = some (.dK kvs) ∧ kvs.map (·.1) = ks ∧ RelDs T.K io F n H ds (kvs.map (·.2))
  | .dt ks ds, a => ∃ kvs, H a = some (.dT kvs) ∧ kvs.map (·.1) = ks ∧ RelDs T.K io F n H ds (kvs.map (·.2))
  | .ins C fs, a => ∃ Ca dx fs', T.mg C = some (.ref Ca) ∧ H a = some (.ins Ca dx fs') ∧ RelF T.K io F n H fs fs'
  | .exn C fs, a => ∃ Ca d, T.mg C = some (.ref Ca) ∧ H a = some (exK (.ref Ca) d a) ∧ ((fs = [] ∧ d = none) ∨ ∃ dx fs', d = some dx ∧ F dx ∧ H dx = some (.xd fs') ∧ RelF T.K io F n H fs fs')

structure Sim (T : Ct) (io : Nat → Addr) (F : Addr → Prop) (m : Mem) (H : Hp) : Prop where
  inj : ∀ i j o u, m.ob i = some o → m.ob j = some u → io i = io j → i = j
  lt : ∀ i o, m.ob i = some o → i < m.nx
  nf : ∀ i o, m.ob i = some o → ¬ F (io i)
  ob : ∀ i o, m.ob i = some o → RelO T io F m.nx H o (io i)
  fh : ∀ a, F a → ∃ o, H a = some o
structure Ext (io : Nat → Addr) (F : Addr → Prop) (m : Mem) (H : Hp) (io' : Nat → Addr) (F' : Addr → Prop) (m' : Mem) (H' : Hp) : Prop where
  nx : m.nx ≤ m'.nx
  eio : ∀ i, i < m.nx → io' i = io i
  eF : ∀ a, F a → F' a
  keep : ∀ a o, H a = some o → (∀ i u, m.ob i = some u → a ≠ io i) → H' a = some o
  new : ∀ i, m.nx ≤ i → i < m'.nx → H (io' i) = none
  dead : ∀ i, i < m.nx → m.ob i = none → m'.ob i = none
  lt : ∀ i o, m'.ob i = some o → i < m'.nx
  there : ∀ a o, H a = some o → ∃ o', H' a = some o'
  newF : ∀ a, F' a → F a ∨ H a = none ∨ ∃ i u, m.ob i = some u ∧ a = io i
theorem Ext.refl {T : Ct} {io : Nat → Addr} {F : Addr → Prop} {m : Mem} {H : Hp} (S : Sim T io F m H) : Ext io F m H io F m H :=
  ⟨Nat.le_refl _, fun _ _ => rfl, fun _ h => h, fun _ _ h _ => h, fun i h1 h2 => absurd (Nat.lt_of_lt_of_le h2 h1) (Nat.lt_irrefl _), fun _ _ h => h, S.lt, fun _ o h => ⟨o, h⟩, fun _ h => .inl h⟩
theorem Ext.trans {io io1 io2 : Nat → Addr} {F F1 F2 : Addr → Prop} {m m1 m2 : Mem} {H H1 H2 : Hp} (a : Ext io F m H io1 F1 m1 H1) (b : Ext io1 F1 m1 H1 io2 F2 m2 H2) : Ext io F m H io2 F2 m2 H2 where
  nx := Nat.le_trans a.nx b.nx
  eio := fun i h => (b.eio i (Nat.lt_of_lt_of_le h a.nx)).trans (a.eio i h)
  eF := fun x h => b.eF x (a.eF x h)
  keep := fun x o h hl => by
    refine b.keep x o (a.keep x o h hl) fun i u hu e => ?_
    by_cases hi : i < m.nx
    · cases q : m.ob i with
      | none => rw [a.dead i hi q] at hu; cases hu
      | some z => exact hl i z q (e.trans (a.eio i hi))
    · have := a.new i (Nat.le_of_not_lt hi) (a.lt i u hu)
      rw [← e, h] at this; cases this
  new := fun i h1 h2 => by
    by_cases hi : i < m1.nx
    · rw [b.eio i hi]; exact a.new i h1 hi
    · have q := b.new i (Nat.le_of_not_lt hi) h2
      cases z : H (io2 i) with
      | none => rfl
      | some o =>
        obtain ⟨o', z'⟩ := a.there _ o z
        rw [q] at z'; cases z'
  dead := fun i h q => b.dead i (Nat.lt_of_lt_of_le h a.nx) (a.dead i h q)
  lt := b.lt
  there := fun x o h => by
    obtain ⟨o', h'⟩ := a.there x o h
    exact b.there x o' h'
  newF := fun x h => by
    have none_ : H1 x = none → H x = none := fun q => by
      cases z : H x with
      | none => rfl
      | some o =>
        obtain ⟨o', z'⟩ := a.there _ o z
        rw [q] at z'; cases z'
    rcases b.newF x h with h | h | ⟨i, u, hu, e⟩
    · exact a.newF x h
    · exact .inr (.inl (none_ h))
    · by_cases hi : i < m.nx
      · cases q : m.ob i with
        | none => rw [a.dead i hi q] at hu; cases hu
        | some z => exact .inr (.inr ⟨i, z, q, e.trans (a.eio i hi)⟩)
      · rw [e]; exact .inr (.inl (a.new i (Nat.le_of_not_lt hi) (a.lt i u hu)))

section
variable {K : PySem.W.Frag} {io io' : Nat → Addr} {F F' : Addr → Prop} {n n' : Nat} {H H' : Hp}
/-- what a value's standing leans on -/
structure Mono (K : PySem.W.Frag) (io : Nat → Addr) (F : Addr → Prop) (n : Nat) (H : Hp) (io' : Nat → Addr) (F' : Addr → Prop) (n' : Nat) (H' : Hp) : Prop where
  nx : n ≤ n'
  eio : ∀ i, i < n → io' i = io i
  eF : ∀ a, F a → F' a
  kt : ∀ a xs, F a → H a = some (.tup xs) → H' a = some (.tup xs)
  kl : ∀ a xs, F a → H a = some (.lst xs) → H' a = some (.lst xs)
  kf : ∀ a o xs, F a → H a = some (.frz o (.lst xs)) → H' a = some (.frz o (.lst xs))
  kd : ∀ a kvs, F a → Rd H a (.dK kvs) → Rd H' a (.dK kvs)
  ke : ∀ a kvs, F a → Rd H a (.dT kvs) → Rd H' a (.dT kvs)
  kx : ∀ a fs, F a → H a = some (.xd fs) → H' a = some (.xd fs)
mutual
theorem RelD.mono (M : Mono K io F n H io' F' n' H') : ∀ (d : D) {v : V}, RelD K io F n H d v → RelD K io' F' n' H' d v
  | .non, v, h => h
  | .bl _, v, h => h
  | .int _, v, h => h
  | .str _, v, h => h
  | .tup ds, v, h => by
    simp only [RelD] at h ⊢
    obtain ⟨a, xs, e, t, r⟩ := h
    refine ⟨a, xs, e, ?_, RelDs.mono M ds r⟩
    rcases t with ⟨f, t⟩ | t
    · exact .inl ⟨M.eF a f, M.kt a xs f t⟩
    · exact .inr t
  | .lst ds, v, h => by
    simp only [RelD] at h ⊢
    obtain ⟨a, xs, e, f, t, r⟩ := h
    exact ⟨a, xs, e, M.eF a f, M.kl a xs f t, RelDs.mono M ds r⟩
  | .scr ns, v, h => by
    simp only [RelD] at h ⊢
    obtain ⟨a, e, t⟩ := h
    refine ⟨a, e, ?_⟩
    rcases t with ⟨f, o, t⟩ | t
    · exact .inl ⟨M.eF a f, o, M.kf a o _ f t⟩
    · exact .inr t
  | .dk ks ds, v, h => by
    simp only [RelD] at h ⊢
    obtain ⟨a, kvs, e, f, t, q, r⟩ := h
    exact ⟨a, kvs, e, M.eF a f, M.kd a kvs f t, q, RelDs.mono M ds r⟩
  | .dt ks ds, v, h => by
    simp only [RelD] at h ⊢
    obtain ⟨a, kvs, e, f, t, q, r⟩ := h
    exact ⟨a, kvs, e, M.eF a f, M.ke a kvs f t, q, RelDs.mono M ds r⟩
  | .ref i, v, h => by
    simp only [RelD] at h ⊢
    exact ⟨Nat.lt_of_lt_of_le h.1 M.nx, by rw [M.eio i h.1]; exact h.2⟩
theorem RelDs.mono (M : Mono K io F n H io' F' n' H') : ∀ (ds : List D) {vs : List V}, RelDs K io F n H ds vs → RelDs K io' F' n' H' ds vs
  | [], [], _ => by simp only [RelDs]
  | [], _ :: _, h => by simp only [RelDs] at h
  | _ :: _, [], h => by simp only [RelDs] at h
  | d :: ds, v :: vs, h => by
    simp only [RelDs] at h ⊢
    exact ⟨RelD.mono M d h.1, RelDs.mono M ds h.2⟩
end
theorem RelF.mono (M : Mono K io F n H io' F' n' H') : ∀ (fs : List (Str × D)) {vs : List (Str × V)}, RelF K io F n H fs vs → RelF K io' F' n' H' fs vs
  | [], [], _ => by simp only [RelF]
  | [], _ :: _, h => by simp only [RelF] at h
  | _ :: _, [], h => by simp only [RelF] at h
  | d :: ds, v :: vs, h => by
    simp only [RelF] at h ⊢
    exact ⟨⟨h.1.1, h.1.2.mono M⟩, RelF.mono M ds h.2⟩
theorem Sim.mono {T : Ct} {m m' : Mem} (S : Sim T io F m H) (E : Ext io F m H io' F' m' H') : Mono T.K io F m.nx H io' F' m'.nx H' := by
  have live : ∀ a, F a → ∀ i u, m.ob i = some u → a ≠ io i := fun a f i u hu e => S.nf i u hu (e ▸ f)
  refine ⟨E.nx, E.eio, E.eF, fun a xs f h => E.keep a _ h (live a f), fun a xs f h => E.keep a _ h (live a f), fun a o xs f h => E.keep a _ h (live a f), fun a kvs f h => ?_, fun a kvs f h => ?_, fun a fs f h => E.keep a _ h (live a f)⟩
  · rcases h with h | ⟨o, h⟩
    · exact .inl (E.keep a _ h (live a f))
    · exact .inr ⟨o, E.keep a _ h (live a f)⟩
  · rcases h with h | ⟨o, h⟩
    · exact .inl (E.keep a _ h (live a f))
    · exact .inr ⟨o, E.keep a _ h (live a f)⟩
end

/-! ### slots -/
abbrev Slots := List (Option D)
def RelSl (K : PySem.W.Frag) (io : Nat → Addr) (F : Addr → Prop) (n : Nat) (H : Hp) (sd : Slots) (σ : L2.St) : Prop :=
  sd.length = σ.length ∧ ∀ (i : Nat) (d : D), sd[i]? = some (some d) → ∃ v, σ[i]? = some (some v) ∧ RelD K io F n H d v
section
variable {K : PySem.W.Frag} {io io' : Nat → Addr} {F F' : Addr → Prop} {n n' : Nat} {H H' : Hp} {sd : Slots} {σ : L2.St}
theorem RelSl.mono (M : Mono K io F n H io' F' n' H') (h : RelSl K io F n H sd σ) : RelSl K io' F' n' H' sd σ :=
  ⟨h.1, fun i d e => let ⟨v, a, b⟩ := h.2 i d e; ⟨v, a, b.mono M⟩⟩
theorem RelSl.set (h : RelSl K io F n H sd σ) {i : Nat} {d : D} {v : V} (r : RelD K io F n H d v) : RelSl K io F n H (sd.set i (some d)) (σ.set i (some v)) := by
  refine ⟨by rw [List.length_set, List.length_set]; exact h.1, fun j e q => ?_⟩
  by_cases hj : i = j
  · subst hj
    by_cases hl : i < sd.length
    · rw [List.getElem?_set_self hl] at q
      cases q
      exact ⟨v, by rw [List.getElem?_set_self (by rw [← h.1]; exact hl)], r⟩
    · rw [List.getElem?_eq_none (by rw [List.length_set]; omega)] at q; cases q
  · rw [List.getElem?_set_ne hj] at q
    obtain ⟨w, a, b⟩ := h.2 j e q
    exact ⟨w, by rw [List.getElem?_set_ne hj]; exact a, b⟩
theorem RelDs.get : ∀ {ds : List D} {vs : List V} {i : Nat} {d : D}, RelDs K io F n H ds vs → ds[i]? = some d → ∃ v, vs[i]? = some v ∧ RelD K io F n H d v
  | [], _, _, _, _, e => by simp at e
  | _ :: _, [], _, _, h, _ => by simp only [RelDs] at h
  | a :: ds, v :: vs, 0, d, h, e => by
    simp only [RelDs] at h
    simp only [List.getElem?_cons_zero, Option.some.injEq] at e
    subst e
    exact ⟨v, by simp, h.1⟩
  | a :: ds, v :: vs, i + 1, d, h, e => by
    simp only [RelDs] at h
    obtain ⟨w, a, b⟩ := RelDs.get (i := i) h.2 (by simpa using e)
    exact ⟨w, by simpa using a, b⟩
theorem RelDs.len : ∀ {ds : List D} {vs : List V}, RelDs K io F n H ds vs → ds.length = vs.length
  | [], [], _ => rfl
  | [], _ :: _, h => by simp only [RelDs] at h
  | _ :: _, [], h => by simp only [RelDs] at h
  | _ :: ds, _ :: vs, h => by
    simp only [RelDs] at h
    rw [List.length_cons, List.length_cons, RelDs.len h.2]
theorem RelDs.app : ∀ {ds es : List D} {vs ws : List V}, RelDs K io F n H ds vs → RelDs K io F n H es ws → RelDs K io F n H (ds ++ es) (vs ++ ws)
  | [], _, [], _, _, k => k
  | [], _, _ :: _, _, h, _ => by simp only [RelDs] at h
  | _ :: _, _, [], _, h, _ => by simp only [RelDs] at h
  | _ :: ds, _, _ :: vs, _, h, k => by
    simp only [RelDs] at h
    simp only [List.cons_append, RelDs]
    exact ⟨h.1, RelDs.app h.2 k⟩
theorem RelDs.take : ∀ {ds : List D} {vs : List V} (j : Nat), RelDs K io F n H ds vs → RelDs K io F n H (ds.take j) (vs.take j)
  | _, _, 0, _ => by simp only [List.take_zero, RelDs]
  | [], [], _ + 1, _ => by simp only [List.take_nil, RelDs]
  | [], _ :: _, _ + 1, h => by simp only [RelDs] at h
  | _ :: _, [], _ + 1, h => by simp only [RelDs] at h
  | _ :: ds, _ :: vs, j + 1, h => by
    simp only [RelDs] at h
    simp only [List.take_succ_cons, RelDs]
    exact ⟨h.1, RelDs.take j h.2⟩
theorem RelDs.drop : ∀ {ds : List D} {vs : List V} (j : Nat), RelDs K io F n H ds vs → RelDs K io F n H (ds.drop j) (vs.drop j)
  | _, _, 0, h => h
  | [], [], _ + 1, _ => by simp only [List.drop_nil, RelDs]
  | [], _ :: _, _ + 1, h => by simp only [RelDs] at h
  | _ :: _, [], _ + 1, h => by simp only [RelDs] at h
  | _ :: ds, _ :: vs, j + 1, h => by
    simp only [RelDs] at h
    simp only [List.drop_succ_cons]
    exact RelDs.drop j h.2
theorem RelDs.set : ∀ {ds : List D} {vs : List V} (j : Nat) {d : D} {v : V}, RelDs K io F n H ds vs → RelD K io F n H d v → RelDs K io F n H (ds.set j d) (vs.set j v)
  | [], [], _, _, _, _, _ => by simp only [List.set_nil, RelDs]
  | [], _ :: _, _, _, _, h, _ => by simp only [RelDs] at h
  | _ :: _, [], _, _, _, h, _ => by simp only [RelDs] at h
  | _ :: ds, _ :: vs, 0, d, v, h, r => by
    simp only [RelDs] at h
    simp only [List.set_cons_zero, RelDs]
    exact ⟨r, h.2⟩
  | _ :: ds, _ :: vs, j + 1, d, v, h, r => by
    simp only [RelDs] at h
    simp only [List.set_cons_succ, RelDs]
    exact ⟨h.1, RelDs.set j h.2 r⟩
theorem RelDs.rev : ∀ {ds : List D} {vs : List V}, RelDs K io F n H ds vs → RelDs K io F n H ds.reverse vs.reverse
  | [], [], _ => by simp only [List.reverse_nil, RelDs]
  | [], _ :: _, h => by simp only [RelDs] at h
  | _ :: _, [], h => by simp only [RelDs] at h
  | d :: ds, v :: vs, h => by
    simp only [RelDs] at h
    rw [List.reverse_cons, List.reverse_cons]
    refine RelDs.app (RelDs.rev h.2) ?_
    simp only [RelDs]
    exact ⟨h.1, trivial⟩
end
end Ev

set_option Elab.async false
set_option linter.all false
set_option maxRecDepth 100000
set_option autoImplicit false
/-! Ev2: what is laid, put, frozen; readings of computations; how they follow one another. -/
namespace Ev
open PySem PySem.Spec PyProof.Rows L2

section
variable {T : Ct} {io : Nat → Addr} {F : Addr → Prop} {m : Mem} {H : Hp} {p : Addr} {o : HO}
def orF (F : Addr → Prop) (p : Addr) : Addr → Prop := fun a => F a ∨ a = p
def ioN (io : Nat → Addr) (n : Nat) (p : Addr) : Nat → Addr := fun i => if i = n then p else io i
theorem ioN_lt {n i : Nat} (h : i < n) : ioN io n p i = io i := if_neg (Nat.ne_of_lt h)
theorem ioN_self {n : Nat} : ioN io n p n = p := if_pos rfl
theorem RelO.mono {io' : Nat → Addr} {F' : Addr → Prop} {n n' : Nat} {H' : Hp} {u : Ob} {a : Addr} (M : Mono T.K io F n H io' F' n' H') (ha : ∀ z, H a = some z → H' a = some z) (h : RelO T io F n H u a) : RelO T io' F' n' H' u a := by
  cases u with
  | lst ds => obtain ⟨xs, e, r⟩ := h; exact ⟨xs, ha _ e, r.mono M⟩
  | dk ks ds => obtain ⟨xs, e, q, r⟩ := h; exact ⟨xs, ha _ e, q, r.mono M⟩
  | dt ks ds => obtain ⟨xs, e, q, r⟩ := h; exact ⟨xs, ha _ e, q, r.mono M⟩
  | ins C fs => obtain ⟨Ca, dx, fs', g, e, r⟩ := h; exact ⟨Ca, dx, fs', g, ha _ e, r.mono M⟩
  | exn C fs =>
    obtain ⟨Ca, d, g, e, r⟩ := h
    refine ⟨Ca, d, g, ha _ e, r.imp id ?_⟩
    rintro ⟨dx, fs', e1, f, e2, r⟩
    exact ⟨dx, fs', e1, M.eF dx f, M.kx dx fs' f e2, r.mono M⟩
/-- a new thing that stays as it is -/
theorem Ext.addF (S : Sim T io F m H) (hp : H p = none) : Ext io F m H io (orF F p) m (upd H p o) :=
  ⟨Nat.le_refl _, fun _ _ => rfl, fun _ h => .inl h, fun a z h _ => by rw [upd_ne (ne_of_none h hp)]; exact h,
    fun i h1 h2 => absurd (Nat.lt_of_lt_of_le h2 h1) (Nat.lt_irrefl _), fun _ _ h => h, S.lt, fun a z h => ⟨z, by rw [upd_ne (ne_of_none h hp)]; exact h⟩, fun a h => h.elim .inl fun e => .inr (.inl (e ▸ hp))⟩
theorem RelO.some_ {n : Nat} {u : Ob} {a : Addr} (h : RelO T io F n H u a) : ∃ z, H a = some z := by
  cases u with
  | lst ds => obtain ⟨xs, e, r⟩ := h; exact ⟨_, e⟩
  | dk ks ds => obtain ⟨xs, e, r⟩ := h; exact ⟨_, e⟩
  | dt ks ds => obtain ⟨xs, e, r⟩ := h; exact ⟨_, e⟩
  | ins C fs => obtain ⟨Ca, dx, fs', g, e, r⟩ := h; exact ⟨_, e⟩
  | exn C fs => obtain ⟨Ca, d, g, e, r⟩ := h; exact ⟨_, e⟩
theorem Sim.newF (S : Sim T io F m H) (hp : H p = none) : Sim T io (orF F p) m (upd H p o) := by
  have M := S.mono (Ext.addF (o := o) S hp)
  refine ⟨S.inj, S.lt, fun i u h => ?_, fun i u h => ?_, fun a h => ?_⟩
  · rintro (q | q)
    · exact S.nf i u h q
    · obtain ⟨z, e⟩ := (S.ob i u h).some_
      rw [q, hp] at e; cases e
  · exact (S.ob i u h).mono M fun z e => by rw [upd_ne (ne_of_none e hp)]; exact e
  · rcases h with h | h
    · obtain ⟨z, e⟩ := S.fh a h
      exact ⟨z, by rw [upd_ne (ne_of_none e hp)]; exact e⟩
    · subst h; exact ⟨o, upd_same⟩
/-- a new thing that may change -/
theorem Ext.alloc {u : Ob} (S : Sim T io F m H) (hp : H p = none) : Ext io F m H (ioN io m.nx p) F (m.add u) (upd H p o) :=
  ⟨Nat.le_succ _, fun i h => ioN_lt h, fun _ h => h, fun a z h _ => by rw [upd_ne (ne_of_none h hp)]; exact h,
    fun i h1 h2 => by
      have : i = m.nx := Nat.le_antisymm (Nat.le_of_lt_succ h2) h1
      subst this; rw [ioN_self]; exact hp,
    fun i h q => by show (if i = m.nx then _ else m.ob i) = none; rw [if_neg (Nat.ne_of_lt h)]; exact q,
    fun i z h => by
      have h : (if i = m.nx then some u else m.ob i) = some z := h
      split at h
      · rename_i e; subst e; exact Nat.lt_succ_self _
      · exact Nat.lt_succ_of_lt (S.lt i z h),
    fun a z h => ⟨z, by rw [upd_ne (ne_of_none h hp)]; exact h⟩, fun a h => .inl h⟩
theorem Sim.alloc {u : Ob} (S : Sim T io F m H) (hp : H p = none) (hu : RelO T (ioN io m.nx p) F (m.nx + 1) (upd H p o) u p) : Sim T (ioN io m.nx p) F (m.add u) (upd H p o) := by
  have M := S.mono (Ext.alloc (u := u) (o := o) S hp)
  have at_ : ∀ {i z}, (m.add u).ob i = some z → (i = m.nx ∧ z = u) ∨ (i ≠ m.nx ∧ m.ob i = some z ∧ i < m.nx) := fun {i z} h => by
    have h : (if i = m.nx then some u else m.ob i) = some z := h
    split at h
    · rename_i e; cases h; exact .inl ⟨e, rfl⟩
    · rename_i e; exact .inr ⟨e, h, S.lt i z h⟩
  have np : ∀ {i z}, m.ob i = some z → io i ≠ p := fun {i z} h e => by
    obtain ⟨w, q⟩ := (S.ob i z h).some_
    rw [e, hp] at q; cases q
  refine ⟨fun i j z w hi hj e => ?_, fun i z h => ?_, fun i z h => ?_, fun i z h => ?_, fun a h => ?_⟩
  · rcases at_ hi with ⟨rfl, rfl⟩ | ⟨n1, h1, l1⟩
    · rcases at_ hj with ⟨rfl, rfl⟩ | ⟨n2, h2, l2⟩
      · rfl
      · rw [ioN_self, ioN_lt l2] at e; exact absurd e.symm (np h2)
    · rcases at_ hj with ⟨rfl, rfl⟩ | ⟨n2, h2, l2⟩
      · rw [ioN_self, ioN_lt l1] at e; exact absurd e (np h1)
      · rw [ioN_lt l1, ioN_lt l2] at e; exact S.inj i j z w h1 h2 e
  · rcases at_ h with ⟨rfl, rfl⟩ | ⟨n1, h1, l1⟩
    · exact Nat.lt_succ_self _
    · exact Nat.lt_succ_of_lt l1
  · rcases at_ h with ⟨rfl, rfl⟩ | ⟨n1, h1, l1⟩
    · rw [ioN_self]; intro f
      obtain ⟨w, q⟩ := S.fh p f
      rw [hp] at q; cases q
    · rw [ioN_lt l1]; exact S.nf i z h1
  · rcases at_ h with ⟨rfl, rfl⟩ | ⟨n1, h1, l1⟩
    · rw [ioN_self]; exact hu
    · rw [ioN_lt l1]
      exact (S.ob i z h1).mono M fun w e => by rw [upd_ne (ne_of_none e hp)]; exact e
  · obtain ⟨z, e⟩ := S.fh a h
    exact ⟨z, by rw [upd_ne (ne_of_none e hp)]; exact e⟩
/-- a thing is changed -/
theorem Ext.put {i : Nat} {u u' : Ob} (S : Sim T io F m H) (hi : m.ob i = some u) : Ext io F m H io F (m.put i u') (upd H (io i) o) :=
  ⟨Nat.le_refl _, fun _ _ => rfl, fun _ h => h, fun a z h hl => by rw [upd_ne (hl i u hi)]; exact h,
    fun i h1 h2 => absurd (Nat.lt_of_lt_of_le h2 h1) (Nat.lt_irrefl _),
    fun j h q => by
      show (if j = i then _ else m.ob j) = none
      rw [if_neg (by rintro rfl; rw [hi] at q; cases q)]; exact q,
    fun j z h => by
      have h : (if j = i then some u' else m.ob j) = some z := h
      split at h
      · rename_i e; subst e; exact S.lt _ _ hi
      · exact S.lt j z h,
    fun a z h => by
      by_cases e : a = io i
      · subst e; exact ⟨o, upd_same⟩
      · exact ⟨z, by rw [upd_ne e]; exact h⟩, fun a h => .inl h⟩
theorem Sim.put {i : Nat} {u u' : Ob} (S : Sim T io F m H) (hi : m.ob i = some u) (hu : RelO T io F m.nx (upd H (io i) o) u' (io i)) : Sim T io F (m.put i u') (upd H (io i) o) := by
  have M := S.mono (Ext.put (u' := u') (o := o) S hi)
  have at_ : ∀ {j z}, (m.put i u').ob j = some z → (j = i ∧ z = u') ∨ (j ≠ i ∧ m.ob j = some z) := fun {j z} h => by
    have h : (if j = i then some u' else m.ob j) = some z := h
    split at h
    · rename_i e; cases h; exact .inl ⟨e, rfl⟩
    · rename_i e; exact .inr ⟨e, h⟩
  have hl : ∀ {j z}, (m.put i u').ob j = some z → ∃ w, m.ob j = some w := fun {j z} h => by
    rcases at_ h with ⟨rfl, rfl⟩ | ⟨_, h⟩
    · exact ⟨u, hi⟩
    · exact ⟨z, h⟩
  refine ⟨fun j k z w hj hk e => ?_, fun j z h => ?_, fun j z h => ?_, fun j z h => ?_, fun a h => ?_⟩
  · obtain ⟨_, h1⟩ := hl hj
    obtain ⟨_, h2⟩ := hl hk
    exact S.inj j k _ _ h1 h2 e
  · obtain ⟨_, h1⟩ := hl h
    exact S.lt j _ h1
  · obtain ⟨_, h1⟩ := hl h
    exact S.nf j _ h1
  · rcases at_ h with ⟨rfl, rfl⟩ | ⟨ne, h1⟩
    · exact hu
    · refine (S.ob j z h1).mono M fun w e => ?_
      rw [upd_ne (fun q => ne (S.inj j i z u h1 hi q))]; exact e
  · obtain ⟨z, e⟩ := S.fh a h
    by_cases q : a = io i
    · subst q; exact ⟨o, upd_same⟩
    · exact ⟨z, by rw [upd_ne q]; exact e⟩
/-- a thing is forgotten -/
theorem Ext.kill {i : Nat} (S : Sim T io F m H) : Ext io F m H io F (m.kill i) H :=
  ⟨Nat.le_refl _, fun _ _ => rfl, fun _ h => h, fun a z h hl => h,
    fun i h1 h2 => absurd (Nat.lt_of_lt_of_le h2 h1) (Nat.lt_irrefl _),
    fun j h q => by show (if j = i then none else m.ob j) = none; rw [q]; split <;> rfl,
    fun j z h => by
      have h : (if j = i then none else m.ob j) = some z := h
      split at h
      · cases h
      · exact S.lt j z h, fun a z h => ⟨z, h⟩, fun a h => .inl h⟩
theorem Mem.kill_ob {m : Mem} {i j : Nat} {z : Ob} (h : (m.kill i).ob j = some z) : j ≠ i ∧ m.ob j = some z := by
  have h : (if j = i then none else m.ob j) = some z := h
  split at h
  · cases h
  · rename_i e; exact ⟨e, h⟩
/-- a list is frozen: it stays from now on -/
theorem Sim.frz {i : Nat} {u : Ob} (S : Sim T io F m H) (hi : m.ob i = some u) : Sim T io (orF F (io i)) (m.kill i) H ∧ Ext io F m H io (orF F (io i)) (m.kill i) H := by
  have E : Ext io F m H io (orF F (io i)) (m.kill i) H :=
    ⟨Nat.le_refl _, fun _ _ => rfl, fun _ h => .inl h, fun a z h hl => h,
      fun i h1 h2 => absurd (Nat.lt_of_lt_of_le h2 h1) (Nat.lt_irrefl _), (Ext.kill S).dead, (Ext.kill S).lt, fun a z h => ⟨z, h⟩,
      fun a h => h.elim .inl fun e => .inr (.inr ⟨i, u, hi, e⟩)⟩
  have M := S.mono E
  refine ⟨⟨fun j k z w hj hk e => S.inj j k z w (Mem.kill_ob hj).2 (Mem.kill_ob hk).2 e, fun j z h => S.lt j z (Mem.kill_ob h).2, fun j z h => ?_, fun j z h => ?_, fun a h => ?_⟩, E⟩
  · obtain ⟨ne, h1⟩ := Mem.kill_ob h
    rintro (q | q)
    · exact S.nf j z h1 q
    · exact ne (S.inj j i z u h1 hi q)
  · exact (S.ob j z (Mem.kill_ob h).2).mono M fun w e => e
  · rcases h with h | h
    · exact S.fh a h
    · subst h; exact (S.ob i u hi).some_
/-- a thing that nobody speaks of -/
theorem Sim.extra (S : Sim T io F m H) (hp : H p = none) : Sim T io F m (upd H p o) ∧ Ext io F m H io F m (upd H p o) := by
  have E : Ext io F m H io F m (upd H p o) :=
    ⟨Nat.le_refl _, fun _ _ => rfl, fun _ h => h, fun a z h _ => by rw [upd_ne (ne_of_none h hp)]; exact h,
      fun i h1 h2 => absurd (Nat.lt_of_lt_of_le h2 h1) (Nat.lt_irrefl _), fun _ _ h => h, S.lt, fun a z h => ⟨z, by rw [upd_ne (ne_of_none h hp)]; exact h⟩, fun a h => .inl h⟩
  refine ⟨⟨S.inj, S.lt, S.nf, fun i u h => ?_, fun a h => ?_⟩, E⟩
  · exact (S.ob i u h).mono (S.mono E) fun z e => by rw [upd_ne (ne_of_none e hp)]; exact e
  · obtain ⟨z, e⟩ := S.fh a h
    exact ⟨z, by rw [upd_ne (ne_of_none e hp)]; exact e⟩
/-- nobody speaks of p -/
structure Loose (io : Nat → Addr) (F : Addr → Prop) (m : Mem) (p : Addr) : Prop where
  nf : ¬ F p
  nl : ∀ i u, m.ob i = some u → io i ≠ p
theorem Loose.new (S : Sim T io F m H) (hp : H p = none) : Loose io F m p := by
  refine ⟨fun f => ?_, fun i u h e => ?_⟩
  · obtain ⟨z, e⟩ := S.fh p f; rw [hp] at e; cases e
  · obtain ⟨z, q⟩ := (S.ob i u h).some_; rw [e, hp] at q; cases q
theorem Loose.ne (L : Loose io F m p) {a : Addr} (f : F a) : a ≠ p := by rintro rfl; exact L.nf f
theorem Loose.ext {io' : Nat → Addr} {F' : Addr → Prop} {m' : Mem} {H' : Hp} (L : Loose io F m p) (E : Ext io F m H io' F' m' H') (hp : H p = some o) : Loose io' F' m' p ∧ H' p = some o := by
  refine ⟨⟨fun f => ?_, fun i u h e => ?_⟩, E.keep p o hp fun i u h e => L.nl i u h e.symm⟩
  · rcases E.newF p f with h | h | ⟨i, u, h, e⟩
    · exact L.nf h
    · rw [hp] at h; cases h
    · exact L.nl i u h e.symm
  · by_cases hi : i < m.nx
    · cases q : m.ob i with
      | none => rw [E.dead i hi q] at h; cases h
      | some z => rw [E.eio i hi] at e; exact L.nl i z q e
    · have := E.new i (Nat.le_of_not_lt hi) (E.lt i u h)
      rw [e, hp] at this; cases this
/-- it is changed -/
theorem Loose.put {o' : HO} (S : Sim T io F m H) (L : Loose io F m p) : Sim T io F m (upd H p o') := by
  have M : Mono T.K io F m.nx H io F m.nx (upd H p o') :=
    ⟨Nat.le_refl _, fun _ _ => rfl, fun _ h => h, fun a xs f h => by rw [upd_ne (L.ne f)]; exact h, fun a xs f h => by rw [upd_ne (L.ne f)]; exact h,
      fun a ob xs f h => by rw [upd_ne (L.ne f)]; exact h, fun a kvs f h => by unfold Rd; rw [upd_ne (L.ne f)]; exact h, fun a kvs f h => by unfold Rd; rw [upd_ne (L.ne f)]; exact h, fun a fs f h => by rw [upd_ne (L.ne f)]; exact h⟩
  refine ⟨S.inj, S.lt, S.nf, fun i u h => (S.ob i u h).mono M fun z e => by rw [upd_ne (L.nl i u h)]; exact e, fun a h => ?_⟩
  obtain ⟨z, e⟩ := S.fh a h
  exact ⟨z, by rw [upd_ne (L.ne h)]; exact e⟩
theorem Loose.mono {o' : HO} (L : Loose io F m p) : Mono T.K io F m.nx H io F m.nx (upd H p o') :=
  ⟨Nat.le_refl _, fun _ _ => rfl, fun _ h => h, fun a xs f h => by rw [upd_ne (L.ne f)]; exact h, fun a xs f h => by rw [upd_ne (L.ne f)]; exact h,
    fun a ob xs f h => by rw [upd_ne (L.ne f)]; exact h, fun a kvs f h => by unfold Rd; rw [upd_ne (L.ne f)]; exact h, fun a kvs f h => by unfold Rd; rw [upd_ne (L.ne f)]; exact h, fun a fs f h => by rw [upd_ne (L.ne f)]; exact h⟩
/-- behind all: p stays as it is from now on, or is a thing with a number -/
theorem Ext.loose {io' : Nat → Addr} {F' : Addr → Prop} {m' : Mem} {H' : Hp} (hp : H p = none) (E : Ext io F m (upd H p o) io' F' m' H') {o' : HO} : Ext io F m H io' F' m' (upd H' p o') := by
  refine ⟨E.nx, E.eio, E.eF, fun a z h hl => ?_, fun i h1 h2 => ?_, E.dead, E.lt, fun a z h => ?_, fun a h => ?_⟩
  · rw [upd_ne (ne_of_none h hp)]; exact E.keep a z (by rw [upd_ne (ne_of_none h hp)]; exact h) hl
  · have q := E.new i h1 h2
    cases z : H (io' i) with
    | none => rfl
    | some w =>
      rw [upd_ne (ne_of_none z hp), z] at q
      cases q
  · obtain ⟨w, q⟩ := E.there a z (by rw [upd_ne (ne_of_none h hp)]; exact h)
    exact ⟨w, by rw [upd_ne (ne_of_none h hp)]; exact q⟩
  · rcases E.newF a h with h | h | h
    · exact .inl h
    · refine .inr (.inl ?_)
      cases z : H a with
      | none => rfl
      | some w =>
        rw [upd_ne (ne_of_none z hp), z] at h
        cases h
    · exact .inr (.inr h)
theorem Sim.ownF (S : Sim T io F m H) (L : Loose io F m p) (hp : H p = some o) : Sim T io (orF F p) m H ∧ Mono T.K io F m.nx H io (orF F p) m.nx H := by
  have M : Mono T.K io F m.nx H io (orF F p) m.nx H :=
    ⟨Nat.le_refl _, fun _ _ => rfl, fun _ h => .inl h, fun _ _ _ h => h, fun _ _ _ h => h, fun _ _ _ _ h => h, fun _ _ _ h => h, fun _ _ _ h => h, fun _ _ _ h => h⟩
  refine ⟨⟨S.inj, S.lt, fun i u h => ?_, fun i u h => (S.ob i u h).mono M fun z e => e, fun a h => ?_⟩, M⟩
  · rintro (q | q)
    · exact S.nf i u h q
    · exact L.nl i u h q
  · rcases h with h | h
    · exact S.fh a h
    · subst h; exact ⟨o, hp⟩
theorem Ext.ownF {io' : Nat → Addr} {F' : Addr → Prop} {m' : Mem} {H' : Hp} (E : Ext io F m H io' F' m' H') (hp : H p = none) : Ext io F m H io' (orF F' p) m' H' :=
  ⟨E.nx, E.eio, fun a h => .inl (E.eF a h), E.keep, E.new, E.dead, E.lt, E.there, fun a h => h.elim (E.newF a) fun e => .inr (.inl (e ▸ hp))⟩
theorem Sim.ownO {u : Ob} (S : Sim T io F m H) (L : Loose io F m p) (hu : RelO T (ioN io m.nx p) F (m.nx + 1) H u p) : Sim T (ioN io m.nx p) F (m.add u) H ∧ Mono T.K io F m.nx H (ioN io m.nx p) F (m.nx + 1) H := by
  have M : Mono T.K io F m.nx H (ioN io m.nx p) F (m.nx + 1) H :=
    ⟨Nat.le_succ _, fun i h => ioN_lt h, fun _ h => h, fun _ _ _ h => h, fun _ _ _ h => h, fun _ _ _ _ h => h, fun _ _ _ h => h, fun _ _ _ h => h, fun _ _ _ h => h⟩
  have at_ : ∀ {i z}, (m.add u).ob i = some z → (i = m.nx ∧ z = u) ∨ (i ≠ m.nx ∧ m.ob i = some z ∧ i < m.nx) := fun {i z} h => by
    have h : (if i = m.nx then some u else m.ob i) = some z := h
    split at h
    · rename_i e; cases h; exact .inl ⟨e, rfl⟩
    · rename_i e; exact .inr ⟨e, h, S.lt i z h⟩
  refine ⟨⟨fun i j z w hi hj e => ?_, fun i z h => ?_, fun i z h => ?_, fun i z h => ?_, S.fh⟩, M⟩
  · rcases at_ hi with ⟨rfl, rfl⟩ | ⟨n1, h1, l1⟩
    · rcases at_ hj with ⟨rfl, rfl⟩ | ⟨n2, h2, l2⟩
      · rfl
      · rw [ioN_self, ioN_lt l2] at e; exact absurd e.symm (L.nl _ _ h2)
    · rcases at_ hj with ⟨rfl, rfl⟩ | ⟨n2, h2, l2⟩
      · rw [ioN_self, ioN_lt l1] at e; exact absurd e (L.nl _ _ h1)
      · rw [ioN_lt l1, ioN_lt l2] at e; exact S.inj i j z w h1 h2 e
  · rcases at_ h with ⟨rfl, rfl⟩ | ⟨n1, h1, l1⟩
    · exact Nat.lt_succ_self _
    · exact Nat.lt_succ_of_lt l1
  · rcases at_ h with ⟨rfl, rfl⟩ | ⟨n1, h1, l1⟩
    · rw [ioN_self]; exact L.nf
    · rw [ioN_lt l1]; exact S.nf i z h1
  · rcases at_ h with ⟨rfl, rfl⟩ | ⟨n1, h1, l1⟩
    · rw [ioN_self]; exact hu
    · rw [ioN_lt l1]
      exact (S.ob i z h1).mono M fun w e => e
theorem Ext.ownO {io' : Nat → Addr} {F' : Addr → Prop} {m' : Mem} {H' : Hp} {u : Ob} (E : Ext io F m H io' F' m' H') (hp : H p = none) : Ext io F m H (ioN io' m'.nx p) F' (m'.add u) H' :=
  ⟨Nat.le_succ_of_le E.nx, fun i h => (ioN_lt (Nat.lt_of_lt_of_le h E.nx)).trans (E.eio i h), E.eF, E.keep,
    fun i h1 h2 => by
      by_cases e : i = m'.nx
      · subst e; rw [ioN_self]; exact hp
      · have : i < m'.nx := Nat.lt_of_le_of_ne (Nat.le_of_lt_succ h2) e
        rw [ioN_lt this]; exact E.new i h1 this,
    fun i h q => by show (if i = m'.nx then _ else m'.ob i) = none; rw [if_neg (Nat.ne_of_lt (Nat.lt_of_lt_of_le h E.nx))]; exact E.dead i h q,
    fun i z h => by
      have h : (if i = m'.nx then some u else m'.ob i) = some z := h
      split at h
      · rename_i e; subst e; exact Nat.lt_succ_self _
      · exact Nat.lt_succ_of_lt (E.lt i z h), E.there, E.newF⟩
/-- what is new is forgotten -/
theorem Mem.back_ob {m : Mem} {n j : Nat} {z : Ob} (h : (m.back n).ob j = some z) : j < n ∧ m.ob j = some z := by
  have h : (if j < n then m.ob j else none) = some z := h
  split at h
  · rename_i e; exact ⟨e, h⟩
  · cases h
theorem Sim.back {n : Nat} (S : Sim T io F m H) : Sim T io F (m.back n) H ∧ Ext io F m H io F (m.back n) H := by
  have E : Ext io F m H io F (m.back n) H :=
    ⟨Nat.le_refl _, fun _ _ => rfl, fun _ h => h, fun a z h hl => h,
      fun i h1 h2 => absurd (Nat.lt_of_lt_of_le h2 h1) (Nat.lt_irrefl _),
      fun j h q => by show (if j < n then m.ob j else none) = none; rw [q]; split <;> rfl,
      fun j z h => S.lt j z (Mem.back_ob h).2, fun a z h => ⟨z, h⟩, fun a h => .inl h⟩
  exact ⟨⟨fun j k z w hj hk e => S.inj j k z w (Mem.back_ob hj).2 (Mem.back_ob hk).2 e, fun j z h => S.lt j z (Mem.back_ob h).2, fun j z h => S.nf j z (Mem.back_ob h).2,
    fun j z h => (S.ob j z (Mem.back_ob h).2).mono (S.mono E) fun w e => e, S.fh⟩, E⟩
end

/-! ### readings -/
abbrev RelT (α β : Type) := (Nat → Addr) → (Addr → Prop) → Nat → Hp → α → β → Prop
abbrev RD (T : Ct) : RelT D V := fun io F n H d v => RelD T.K io F n H d v
abbrev RDs (T : Ct) : RelT (List D) (List V) := fun io F n H d v => RelDs T.K io F n H d v
abbrev RB : RelT Bool Bool := fun _ _ _ _ a b => a = b
structure MonoR (T : Ct) {α β : Type} (R : RelT α β) : Prop where
  m : ∀ {io io' : Nat → Addr} {F F' : Addr → Prop} {n n' : Nat} {H H' : Hp} {a : α} {b : β}, Mono T.K io F n H io' F' n' H' → R io F n H a b → R io' F' n' H' a b
theorem monoD (T : Ct) : MonoR T (RD T) := ⟨fun M h => h.mono M⟩
theorem monoDs (T : Ct) : MonoR T (RDs T) := ⟨fun M h => h.mono M⟩
theorem monoB (T : Ct) : MonoR T RB := ⟨fun _ h => h⟩
/-- an error: its class's name, its fields -/
def ExR (T : Ct) (io : Nat → Addr) (F : Addr → Prop) (n : Nat) (H : Hp) (C : Str) (fs : List (Str × D)) (cls : Value) (d : Option Addr) : Prop :=
  ∃ Ca, T.mg C = some (.ref Ca) ∧ cls = .ref Ca ∧ ((fs = [] ∧ d = none) ∨ ∃ dx fs', d = some dx ∧ F dx ∧ H dx = some (.xd fs') ∧ RelF T.K io F n H fs fs')
section
variable {α β γ δ : Type} {T : Ct}
def Post (R : RelT α β) (T : Ct) (W : Value → Option Addr → Hp → Prop) (io : Nat → Addr) (F : Addr → Prop) (m : Mem) (H : Hp) (r : Res α) (Q : β → Hp → Prop) : Prop := match r with
  | .ok a m' => ∀ io' F' H' b, Ext io F m H io' F' m' H' → Sim T io' F' m' H' → R io' F' m'.nx H' a b → Q b H'
  | .exc C fs m' => ∀ io' F' H' cls d, Ext io F m H io' F' m' H' → Sim T io' F' m' H' → ExR T io' F' m'.nx H' C fs cls d → W cls d H'
  | .bad => False
variable {R : RelT α β} {W : Value → Option Addr → Hp → Prop} {io io1 : Nat → Addr} {F F1 : Addr → Prop} {m m1 : Mem} {H H1 : Hp} {r : Res α} {Q Q' : β → Hp → Prop}
theorem Post.ext (h : Post R T W io F m H r Q) (E : Ext io F m H io1 F1 m1 H1) : Post R T W io1 F1 m1 H1 r Q := by
  cases r with
  | ok a m' => exact fun io' F' H' b E' => h io' F' H' b (E.trans E')
  | exc C fs m' => exact fun io' F' H' cls d E' => h io' F' H' cls d (E.trans E')
  | bad => exact h
theorem Post.imp (h : Post R T W io F m H r Q) (hQ : ∀ b H', Q b H' → Q' b H') : Post R T W io F m H r Q' := by
  cases r with
  | ok a m' => exact fun io' F' H' b E S q => hQ _ _ (h io' F' H' b E S q)
  | exc C fs m' => exact h
  | bad => exact h
/-- what comes first, what comes behind -/
theorem Post.bind {R' : RelT γ δ} {k : α → Mem → Res γ} {Q : δ → Hp → Prop} (S : Sim T io F m H) (h : Post R' T W io F m H (r.bind k) Q) :
    Post R T W io F m H r fun b H1 => ∃ io1 F1 m1 a, Ext io F m H io1 F1 m1 H1 ∧ Sim T io1 F1 m1 H1 ∧ R io1 F1 m1.nx H1 a b ∧ Post R' T W io1 F1 m1 H1 (k a m1) Q := by
  cases r with
  | ok a m' => exact fun io' F' H' b E S' q => ⟨io', F', m', a, E, S', q, h.ext E⟩
  | exc C fs m' => exact h
  | bad => exact h
/-- it is there at once -/
theorem Post.now {a : α} {b : β} (S : Sim T io F m H) (h : Post R T W io F m H (.ok a m) Q) (q : R io F m.nx H a b) : Q b H := h io F H b (Ext.refl S) S q

abbrev WT := Value → Option Addr → L2.St → Hp → Prop
abbrev W0 : WT := fun _ _ _ _ => False
/-- the reading of a computation -/
def tG (R : RelT α β) (T : Ct) (W : WT) (c : Slots → Mem → Res α) : L2.St → Hp → (β → Hp → Prop) → Prop := fun σ H Q =>
  ∃ io F m sd, Sim T io F m H ∧ RelSl T.K io F m.nx H sd σ ∧ Post R T (fun cls d H' => W cls d σ H') io F m H (c sd m) Q
/-- .. of what comes behind something that is known -/
def tK (R : RelT α β) (R' : RelT γ δ) (T : Ct) (W : WT) (k : α → Slots → Mem → Res γ) (b : β) : L2.St → Hp → (δ → Hp → Prop) → Prop := fun σ H Q =>
  ∃ io F m sd a, Sim T io F m H ∧ RelSl T.K io F m.nx H sd σ ∧ R io F m.nx H a b ∧ Post R' T (fun cls d H' => W cls d σ H') io F m H (k a sd m) Q
def prodR {α β γ δ : Type} (R : RelT α β) (R' : RelT γ δ) : RelT (α × γ) (β × δ) := fun io F n H a b => R io F n H a.1 b.1 ∧ R' io F n H a.2 b.2
theorem monoP {R : RelT α β} {R' : RelT γ δ} (h : MonoR T R) (h' : MonoR T R') : MonoR T (prodR R R') := ⟨fun M q => ⟨h.m M q.1, h'.m M q.2⟩⟩
abbrev ME := Slots → Mem → Res D
abbrev MA := Slots → Mem → Res (List D)
abbrev MT := Slots → Mem → Res Bool
abbrev tE (T : Ct) (W : WT) (c : ME) : TE := tG (RD T) T W c
abbrev tA (T : Ct) (W : WT) (c : MA) : TA := tG (RDs T) T W c
abbrev tT (T : Ct) (W : WT) (c : MT) : TT := tG RB T W c

theorem tG.bind {R' : RelT γ δ} {WW : WT} {c : Slots → Mem → Res α} {k : α → Slots → Mem → Res γ} {σ : L2.St} {Q : δ → Hp → Prop} (h : tG R' T WW (fun s m => (c s m).bind fun a m' => k a s m') σ H Q) :
    tG R T WW c σ H fun b H1 => tK R R' T WW k b σ H1 Q := by
  obtain ⟨io, F, m, sd, S, rs, p⟩ := h
  refine ⟨io, F, m, sd, S, rs, (Post.bind S p).imp fun b H1 ⟨io1, F1, m1, a, E, S1, q, p1⟩ => ?_⟩
  exact ⟨io1, F1, m1, sd, a, S1, rs.mono (S.mono E), q, p1⟩
theorem tK.bind {ε ζ : Type} {R0 : RelT ε ζ} {R' : RelT γ δ} {WW : WT} {c : Slots → Mem → Res α} {k : ε → α → Slots → Mem → Res γ} {σ : L2.St} {Q : δ → Hp → Prop} {b0 : ζ} (hm : MonoR T R0)
    (h : tK R0 R' T WW (fun e s m => (c s m).bind fun a m' => k e a s m') b0 σ H Q) :
    tG R T WW c σ H fun b H1 => tK (prodR R0 R) R' T WW (fun x => k x.1 x.2) (b0, b) σ H1 Q := by
  obtain ⟨io, F, m, sd, a0, S, rs, r0, p⟩ := h
  refine ⟨io, F, m, sd, S, rs, (Post.bind S p).imp fun b H1 ⟨io1, F1, m1, a, E, S1, q, p1⟩ => ?_⟩
  exact ⟨io1, F1, m1, sd, (a0, a), S1, rs.mono (S.mono E), ⟨hm.m (S.mono E) r0, q⟩, p1⟩
theorem tG.imp {WW : WT} {c : Slots → Mem → Res α} {σ : L2.St} (h : tG R T WW c σ H Q) (hQ : ∀ b H', Q b H' → Q' b H') : tG R T WW c σ H Q' := by
  obtain ⟨io, F, m, sd, S, rs, p⟩ := h
  exact ⟨io, F, m, sd, S, rs, p.imp hQ⟩
end
/-- another reading of the same -/
theorem pe_imp {X : Cx} {e : Expr} {t t' : TE} (h : PE X e t) (i : ∀ σ H Q, t' σ H Q → t σ H Q) : PE X e t' := ⟨fun pins s σ H Q I q => h.run pins s σ H Q I (i _ _ _ q)⟩
theorem pt_imp {X : Cx} {e : Expr} {t t' : TT} (h : PT X e t) (i : ∀ σ H Q, t' σ H Q → t σ H Q) : PT X e t' := ⟨fun pins s σ H Q I q => h.run pins s σ H Q I (i _ _ _ q)⟩
theorem pw_imp {X : Cx} {e : Expr} {t t' : TT} (h : PW X e t) (i : ∀ σ H Q, t' σ H Q → t σ H Q) : PW X e t' := ⟨fun wh pins s σ H Q I q => h.run wh pins s σ H Q I (i _ _ _ q)⟩
theorem pa_imp {X : Cx} {es : List Expr} {t t' : TA} (h : PA X es t) (i : ∀ σ H Q, t' σ H Q → t σ H Q) : PA X es t' := ⟨fun pos pins s σ H Q I q => h.run pos pins s σ H Q I (i _ _ _ q)⟩
end Ev

set_option Elab.async false
set_option linter.all false
set_option maxRecDepth 100000
set_option autoImplicit false
/-! Ev3: where one stands; defs by their computations; calls. -/
namespace Ev
open PySem PySem.Spec PyProof.Rows L2

abbrev ctOf (X : Cx) : Ct := ⟨X.K, X.mg⟩
/-- where one stands: no repr runs, room for k calls, errors go to W -/
structure Here (k : Nat) (W : WT) (X : Cx) : Prop where
  gd : X.A.guards = some []
  calm : X.calm = true
  nd : X.N.Nodup
  rm : Room k X.A
  po : PassesOwn (model X.prog X.w) X.A X.env X.xe
  tk : L2.Takes X W
theorem Here.blk {k : Nat} {W : WT} {X : Cx} (h : Here k W X) (s : Shared) (H : Hp) (scope : Scope) (cenv : Env) (fp : List Addr) : Here k W0 (X.blk s H scope cenv fp) :=
  ⟨h.gd, h.calm, h.nd, h.rm, PassesOwn.never, L2.takes0⟩
theorem Here.hu {k : Nat} {W : WT} {X : Cx} (h : Here k W X) : X.A.units + 65 < cLine := by have := h.rm.un; omega

/-- as FnOk, where no repr runs -/
structure FnG (P : Program) (w : World) (K : PySem.W.Frag) (mg : Str → Option Value) (base : Heap) (k : Nat) (f : Addr) (fd : FuncData) (ps : List Str) (sp : Sp) : Prop where
  len : ∀ vs H Q E, sp vs H Q E → vs.length = ps.length
  run : ∀ (A : Around) (outer : List Env) (s : Shared) (H : Hp) (args : Args) (us : List Value) (vs : List V) (Q : VK) (E : XK),
    A.guards = some [] → Room k A → Env0 P w K mg base A outer s H → BindsTo s fd args (ps.zip us) → Vals vs us → sp vs H Q E →
    codeAny (model P w) A (.call (.ref f) args) (CR (L2.CX P w) outer P w H s Q E) s
theorem FnG.mono {P : Program} {w : World} {K : PySem.W.Frag} {mg : Str → Option Value} {base : Heap} {j k : Nat} {f : Addr} {fd : FuncData} {ps : List Str} {sp : Sp} (F : FnG P w K mg base j f fd ps sp) (h : j ≤ k) :
    FnG P w K mg base k f fd ps sp := ⟨F.len, fun A outer s H args us vs Q E hg hr => F.run A outer s H args us vs Q E hg (hr.mono h)⟩
theorem FnG.imp {P : Program} {w : World} {K : PySem.W.Frag} {mg : Str → Option Value} {base : Heap} {k : Nat} {f : Addr} {fd : FuncData} {ps : List Str} {sp sp' : Sp} (F : FnG P w K mg base k f fd ps sp)
    (h : ∀ vs H Q E, sp' vs H Q E → sp vs H Q E) : FnG P w K mg base k f fd ps sp' :=
  ⟨fun vs H Q E q => F.len vs H Q E (h _ _ _ _ q), fun A outer s H args us vs Q E hg hr he hb hv hs => F.run A outer s H args us vs Q E hg hr he hb hv (h _ _ _ _ hs)⟩

/-- the promise of a def: it does what the computation g does -/
def spM (T : Ct) (n : Nat) (g : List D → Mem → Res D) : Sp := fun vs H Q E =>
  vs.length = n ∧ ∃ io F m ds, Sim T io F m H ∧ RelDs T.K io F m.nx H ds vs ∧ Post (RD T) T (fun cls d H' => E cls d H') io F m H (g ds m) Q
/-- another computation that tells the same wherever it tells -/
theorem spM.of {T : Ct} {n : Nat} {g g' : List D → Mem → Res D} (h : ∀ ds m, g' ds m ≠ .bad → g ds m = g' ds m) (vs : List V) (H : Hp) (Q : VK) (E : XK) (q : spM T n g' vs H Q E) : spM T n g vs H Q E := by
  obtain ⟨hl, io, F, m, ds, S, r, p⟩ := q
  refine ⟨hl, io, F, m, ds, S, r, ?_⟩
  rw [h ds m (fun e => by rw [e] at p; exact p)]
  exact p
theorem FnG.as {P : Program} {w : World} {T : Ct} {base : Heap} {k : Nat} {f : Addr} {fd : FuncData} {ps : List Str} {n : Nat} {g g' : List D → Mem → Res D} (F : FnG P w T.K T.mg base k f fd ps (spM T n g)) (h : ∀ ds m, g' ds m ≠ .bad → g ds m = g' ds m) :
    FnG P w T.K T.mg base k f fd ps (spM T n g') := F.imp fun vs H Q E q => spM.of h vs H Q E q

/-! ### what a statement comes to -/
inductive Out where
  | nx (s : Slots) (m : Mem)
  | bk (s : Slots) (m : Mem)
  | ct (s : Slots) (m : Mem)
  | rt (d : D) (m : Mem)
  | xc (C : Str) (fs : List (Str × D)) (s : Slots) (m : Mem)
  | bad
abbrev MS := Slots → Mem → Out
def PostS (T : Ct) (W : WT) (io : Nat → Addr) (F : Addr → Prop) (m : Mem) (H : Hp) (r : Out) (N : Ends) : Prop := match r with
  | .nx sd m' => ∀ io' F' H' σ', Ext io F m H io' F' m' H' → Sim T io' F' m' H' → RelSl T.K io' F' m'.nx H' sd σ' → N.nx σ' H'
  | .bk sd m' => ∀ io' F' H' σ', Ext io F m H io' F' m' H' → Sim T io' F' m' H' → RelSl T.K io' F' m'.nx H' sd σ' → N.bk σ' H'
  | .ct sd m' => ∀ io' F' H' σ', Ext io F m H io' F' m' H' → Sim T io' F' m' H' → RelSl T.K io' F' m'.nx H' sd σ' → N.ct σ' H'
  | .rt d m' => ∀ io' F' H' v, Ext io F m H io' F' m' H' → Sim T io' F' m' H' → RelD T.K io' F' m'.nx H' d v → N.rt v H'
  | .xc C fs sd m' => ∀ io' F' H' cls d σ', Ext io F m H io' F' m' H' → Sim T io' F' m' H' → ExR T io' F' m'.nx H' C fs cls d → RelSl T.K io' F' m'.nx H' sd σ' → W cls d σ' H'
  | .bad => False
def tS (T : Ct) (W : WT) (c : MS) : TS := fun N σ H => ∃ io F m sd, Sim T io F m H ∧ RelSl T.K io F m.nx H sd σ ∧ PostS T W io F m H (c sd m) N
theorem PostS.ext {T : Ct} {W : WT} {io io1 : Nat → Addr} {F F1 : Addr → Prop} {m m1 : Mem} {H H1 : Hp} {r : Out} {N : Ends} (h : PostS T W io F m H r N) (E : Ext io F m H io1 F1 m1 H1) : PostS T W io1 F1 m1 H1 r N := by
  cases r with
  | nx sd m' => exact fun io' F' H' b E' => h io' F' H' b (E.trans E')
  | bk sd m' => exact fun io' F' H' b E' => h io' F' H' b (E.trans E')
  | ct sd m' => exact fun io' F' H' b E' => h io' F' H' b (E.trans E')
  | rt sd m' => exact fun io' F' H' b E' => h io' F' H' b (E.trans E')
  | xc C fs sd m' => exact fun io' F' H' cls d σ' E' => h io' F' H' cls d σ' (E.trans E')
  | bad => exact h

/-- the slots at a def's entry -/
def entry (n : Nat) (ds : List D) : Slots := ds.map some ++ List.replicate (n - ds.length) none
theorem RelSl.entry {K : PySem.W.Frag} {io : Nat → Addr} {F : Addr → Prop} {n : Nat} {H : Hp} {N : List Str} {ds : List D} {vs : List V} (r : RelDs K io F n H ds vs) : RelSl K io F n H (entry N.length ds) (L2.start N vs) := by
  have hl := r.len
  refine ⟨?_, fun i d e => ?_⟩
  · unfold Ev.entry L2.start
    rw [List.length_append, List.length_append, List.length_map, List.length_map, List.length_replicate, List.length_replicate, hl]
  · unfold Ev.entry at e
    unfold L2.start
    by_cases hi : i < ds.length
    · rw [List.getElem?_append_left (by rw [List.length_map]; exact hi), List.getElem?_map] at e
      cases q : ds[i]? with
      | none => rw [q] at e; cases e
      | some z =>
        rw [q] at e; cases e
        obtain ⟨v, h1, h2⟩ := r.get q
        refine ⟨v, ?_, h2⟩
        rw [List.getElem?_append_left (by rw [List.length_map, ← hl]; exact hi), List.getElem?_map, h1]
        rfl
    · rw [List.getElem?_append_right (by rw [List.length_map]; omega), List.getElem?_replicate] at e
      split at e <;> cases e
/-- what a def tells, by its body -/
def body (np n : Nat) (c : MS) : List D → Mem → Res D := fun ds m => if ds.length = np then (match c (entry n ds) m with
  | .nx _ m' => .ok .non m'
  | .rt d m' => .ok d m'
  | .xc C fs _ m' => .exc C fs m'
  | _ => .bad) else .bad

section
variable {P : Program} {w : World} {K : PySem.W.Frag} {mg : Str → Option Value} {base : Heap}
/-- THE RULE for a def -/
theorem fnG_of {x qual : Str} {st : Stmt} {f : Addr} {fd : FuncData} {N ps : List Str} {k : Nat} {sp : Sp} (U : L2.Fun K x qual st f fd) (S : FnScope N ps (defScope st))
    (len : ∀ vs H Q E, sp vs H Q E → vs.length = ps.length)
    (hb : ∀ (cdv : Value) (A : Around) (outer : List Env) (s : Shared) (H : Hp) (vs : List V) (Q : VK) (E : XK),
      A.guards = some [] → Room k (A.deeper (envOfC qual (defScope st) s.heap.objs.size f cdv)) → sp vs H Q E →
      ∃ t, PSs (cxOf (L2.CX P w) P w K mg base N qual (defScope st) f cdv A outer s H E) (defBody st) t ∧ t { nx := fun _ H' => Q .non H', rt := Q } (L2.start N vs) H) :
    FnG P w K mg base (k + 1) f fd ps sp := by
  obtain ⟨oc, od, kV, doc, pm, an, cdv, ct, osl, rfl, lk, hcd⟩ := U.ex
  refine ⟨len, fun A outer s H args us vs Q E hgd hr e0 hbd r hsp => ?_⟩
  have hl := len _ _ _ _ hsp
  have KX : K.In s.heap := e0.mod.kin.keeps fun b o e => (e0.bs b o e).1
  have lim : s.heap.NoLimit := e0.mod.nolimit.keeps
    fun b o e => (e0.bs b o e).1
  have hkind : ∀ y ∈ ps.zip us, (defScope st).names.lookup y.1 = some .local ∨
      ((defScope st).names.lookup y.1 = some .cell ∧ ((cellsFrom (s.heap.objs.size + 1) (defScope st).names []).lookup y.1).isSome = true) := by
    rintro ⟨n, v⟩ hy
    rcases S.par n (List.of_mem_zip hy).1 with q | q
    · exact .inl q
    · exact .inr ⟨q, PySem.W.cellsFrom_some _ _ _ (.inl q)⟩
  refine codeAny_call_function hr.depth (KX _ _ lk) rfl S.co S.gen rfl (PySem.W.codeRec_of KX hcd) (hbd _ _ _ _ ?_)
  refine wpAny_newFunctionEnv_cells S.kind hkind fun env he s1 x => ?_
  subst he
  refine ⟨lim.keeps x.toInCall.keep, codeAny_func ?_⟩
  obtain ⟨t, ht, hq⟩ := hb cdv A outer s H vs Q E hgd (hr.deeper _) hsp
  have I := inv_start (CX := L2.CX P w) (P := P) (w := w) (K := K) (mg := mg) (base := base) (E := E)
    S hr.hd e0 hl r x
  refine wpAny_mono (ht.run [] s1 (L2.start N vs) H _ I hq) (fun fl s' hs => ?_) fun e s' hs => hs
  cases fl with
  | ret u => obtain ⟨v, σ', H', J, rv, q⟩ := hs; exact ⟨v, H', J.os, J.bare, J.base, J.hok, rv, q⟩
  | next => obtain ⟨σ', H', J, q⟩ := hs; exact ⟨V.non, H', J.os, J.bare, J.base, J.hok, rfl, q⟩
  | brk => obtain ⟨_, _, _, q⟩ := hs; exact q.elim
  | cont => obtain ⟨_, _, _, q⟩ := hs; exact q.elim
end

/-! ### calls -/
def mNil : MA := fun _ m => .ok [] m
def mCons (a : ME) (r : MA) : MA := fun s m => (a s m).bind fun d m1 => (r s m1).bind fun ds m2 => .ok (d :: ds) m2
def mCall (g : List D → Mem → Res D) (a : MA) : ME := fun s m => (a s m).bind g
/-- what is known of a def at a call -/
structure DefG (P : Program) (w : World) (K : PySem.W.Frag) (mg : Str → Option Value) (base : Heap) (k : Nat) (x : Str) (n : Nat) (g : List D → Mem → Res D) : Prop where
  ex : ∃ (f : Addr) (fd : FuncData) (ps : List Str), FnG P w K mg base k f fd ps (spM ⟨K, mg⟩ n g) ∧ mg x = some (.ref f) ∧ PySem.W.keepIn K (.ref f) = true ∧ Binds K fd ps []
  ar : ∀ ds m, ds.length ≠ n → g ds m = .bad
abbrev DefOk (X : Cx) (k : Nat) (x : Str) (n : Nat) (g : List D → Mem → Res D) : Prop := DefG X.prog X.w X.K X.mg X.base k x n g
theorem DefG.mono {P : Program} {w : World} {K : PySem.W.Frag} {mg : Str → Option Value} {base : Heap} {j k : Nat} {x : Str} {n : Nat} {g : List D → Mem → Res D} (d : DefG P w K mg base j x n g) (h : j ≤ k) : DefG P w K mg base k x n g := by
  obtain ⟨f, fd, ps, h1, h2⟩ := d.ex
  exact ⟨⟨f, fd, ps, h1.mono h, h2⟩, d.ar⟩
/-- another computation that tells the same wherever it tells -/
theorem DefG.as {P : Program} {w : World} {K : PySem.W.Frag} {mg : Str → Option Value} {base : Heap} {k : Nat} {x : Str} {n : Nat} {g g' : List D → Mem → Res D} (d : DefG P w K mg base k x n g) (h : ∀ ds m, g' ds m ≠ .bad → g ds m = g' ds m) : DefG P w K mg base k x n g' := by
  obtain ⟨f, fd, ps, h1, h2⟩ := d.ex
  refine ⟨⟨f, fd, ps, FnG.as (T := ⟨K, mg⟩) h1 h, h2⟩, fun ds m hn => ?_⟩
  cases q : g' ds m with
  | bad => rfl
  | ok a m' =>
    have := h ds m (by rw [q]; exact fun z => by cases z)
    rw [d.ar ds m hn, q] at this
    cases this
  | exc C fs m' =>
    have := h ds m (by rw [q]; exact fun z => by cases z)
    rw [d.ar ds m hn, q] at this
    cases this
/-- a def as it stands behind the top -/
structure DefAt (K : PySem.W.Frag) (mg : Str → Option Value) (x : Str) (st : Stmt) (ps : List Str) (f : Addr) (fd : FuncData) : Prop where
  U : L2.Fun K x x st f fd
  mg_ : mg x = some (.ref f)
  bd : ∀ us : List Value, us.length = ps.length → bindArgs fd ⟨us, []⟩ = pure (ps.zip us)
theorem defAt_mk {K : PySem.W.Frag} {mg : Str → Option Value} {h : Heap} (X : K.In h) (G : h.Ns mainGlobals mg) {x : Str} {st : Stmt} {ps : List Str} {f : Addr} {oc : Value} {od an : Option Addr} {sl : Array (Option Value)} {kV dc pm cd ct : Value}
    (a : PySem.W.nsIn K mainGlobals x = some (some (.ref f))) (l : K.lookup f = some ⟨oc, od, .func (PySem.W.fnOf x x (defArgs st) (defBody st) (defScope st) .none kV dc pm an cd ct), sl⟩) (c : PySem.W.codeIn K cd x = true) (kk : PySem.W.keepIn K (.ref f) = true)
    (hb : ∀ (kV doc pm : Value) (an : Option Addr) (cdv ct : Value) (us : List Value), us.length = ps.length → bindArgs (PySem.W.fnOf x x (defArgs st) (defBody st) (defScope st) .none kV doc pm an cdv ct) ⟨us, []⟩ = pure (ps.zip us)) :
    DefAt K mg x st ps f (PySem.W.fnOf x x (defArgs st) (defBody st) (defScope st) .none kV dc pm an cd ct) :=
  ⟨fun_mk l c kk, PySem.W.mg_of X G a, hb _ _ _ _ _ _⟩
section
variable {P : Program} {w : World} {K : PySem.W.Frag} {mg : Str → Option Value} {base : Heap}
/-- a def by the computation of its body -/
theorem fn_bodyX {x qual : Str} {st : Stmt} {f : Addr} {fd : FuncData} {N ps : List Str} {k : Nat} {c : MS} (U : L2.Fun K x qual st f fd) (S : FnScope N ps (defScope st))
    (hb : ∀ (cdv : Value) (A : Around) (outer : List Env) (s : Shared) (H : Hp) (E : XK), Here k (fun cls d _ H => E cls d H) (cxOf (L2.CX P w) P w K mg base N qual (defScope st) f cdv A outer s H E) →
      PSs (cxOf (L2.CX P w) P w K mg base N qual (defScope st) f cdv A outer s H E) (defBody st) (tS ⟨K, mg⟩ (fun cls d _ H => E cls d H) c)) :
    FnG P w K mg base (k + 1) f fd ps (spM ⟨K, mg⟩ ps.length (body ps.length N.length c)) := by
  refine fnG_of U S (fun vs H Q E q => q.1) fun cdv A outer s H vs Q E hgd hr q => ?_
  have hh : Here k (fun cls d _ H => E cls d H) (cxOf (L2.CX P w) P w K mg base N qual (defScope st) f cdv A outer s H E) :=
    ⟨hgd, rfl, S.nd, hr, L2.passes_of rfl, L2.takes_of rfl rfl rfl rfl⟩
  refine ⟨_, hb _ _ _ _ _ _ hh, ?_⟩
  obtain ⟨_, io, F, m, ds, Si, r, p⟩ := q
  refine ⟨io, F, m, entry N.length ds, Si, RelSl.entry r, ?_⟩
  unfold body at p
  split at p
  · cases e : c (entry N.length ds) m with
    | nx sd m' =>
      rw [e] at p
      exact fun io' F' H' σ' E' S' _ => p io' F' H' .non E' S' (by simp only [RD, RelD])
    | rt d m' =>
      rw [e] at p
      exact p
    | xc C fs sd m' =>
      rw [e] at p
      exact fun io' F' H' cls d σ' E' S' x _ => p io' F' H' cls d E' S' x
    | bk sd m' => rw [e] at p; exact p.elim
    | ct sd m' => rw [e] at p; exact p.elim
    | bad => rw [e] at p; exact p.elim
  · exact p.elim
theorem fn_body {x : Str} {st : Stmt} {f : Addr} {fd : FuncData} {N ps : List Str} {k : Nat} {c : MS} (A : DefAt K mg x st ps f fd) (S : FnScope N ps (defScope st))
    (hb : ∀ (cdv : Value) (A : Around) (outer : List Env) (s : Shared) (H : Hp) (E : XK), Here k (fun cls d _ H => E cls d H) (cxOf (L2.CX P w) P w K mg base N x (defScope st) f cdv A outer s H E) →
      PSs (cxOf (L2.CX P w) P w K mg base N x (defScope st) f cdv A outer s H E) (defBody st) (tS ⟨K, mg⟩ (fun cls d _ H => E cls d H) c)) :
    DefG P w K mg base (k + 1) x ps.length (body ps.length N.length c) :=
  ⟨⟨f, fd, ps, fn_bodyX A.U S hb, A.mg_, A.U.kp, .all A.bd⟩, fun ds m h => if_neg h⟩
end
section
variable {X : Cx} {k : Nat} {W : WT} {x : Str} {p pos : Pos} {e : Expr} {es : List Expr} {n : Nat} {g : List D → Mem → Res D} {ca : ME} {cr : MA}
theorem d_nil : PA X [] (tA (ctOf X) W mNil) := pa_imp pa_nil fun σ H Q h => by
  obtain ⟨io, F, m, sd, S, rs, p⟩ := h
  exact p.now S (by simp only [RDs, RelDs])
theorem d_cons (ha : PE X e (tE (ctOf X) W ca)) (hr : PA X es (tA (ctOf X) W cr)) (hs : starEach (e :: es) X.env = (false, eval e X.env) :: starEach es X.env := by rfl) : PA X (e :: es) (tA (ctOf X) W (mCons ca cr)) :=
  pa_imp (pa_cons ha hr hs) fun σ H Q h => by
    have h1 := tG.bind (R := RD (ctOf X)) (c := ca) (k := fun d s m => (cr s m).bind fun ds m2 => .ok (d :: ds) m2) h
    refine h1.imp fun v H1 h2 => ?_
    have h3 := tK.bind (R := RDs (ctOf X)) (monoD _) h2
    refine h3.imp fun vs H2 h4 => ?_
    obtain ⟨io, F, m, sd, ⟨d, ds⟩, S, rs, ⟨r1, r2⟩, p⟩ := h4
    exact p.now S (by simp only [RDs, RelDs]; exact ⟨r1, r2⟩)
/-- the callee runs -/
theorem runG {k : Nat} {f : Addr} {fd : FuncData} {ps : List Str} {sp : Sp} {E : L2.St → XK} {pins : List (Addr × Obj)} {σ : L2.St} {H : Hp} {s : Shared} {Q : VK} {us : List Value} {vs : List V} (F : FnG X.prog X.w X.K X.mg X.base k f fd ps sp) (hh : Here k W X) (hb : Binds X.K fd ps [])
    (hx : PassesAt (L2.CX X.prog X.w) X σ (E σ)) (I : L2.Inv X pins σ H s) (r : Vals vs us) (h : sp vs H Q (E σ)) : wpAny (model X.prog X.w) X.A (call (.ref f) us) (EP X pins σ Q) X.xe s := by
  have hl : us.length = ps.length := by rw [← r.length]; exact F.len _ _ _ _ h
  have hbd := hb s us I.kIn (by rw [List.append_nil]; exact hl)
  rw [List.append_nil] at hbd
  refine wpAny_call (codeAny_mono (F.run X.A X.stack s H ⟨us, []⟩ us vs Q (E σ) hh.gd hh.rm I.env0 hbd r h) fun rr s' hq => ?_)
  cases rr with
  | error e => exact hx pins H s e s' I hq
  | ok fl =>
    cases fl with
    | ret u => exact I.after hq
    | next => exact hq.elim
    | brk => exact hq.elim
    | cont => exact hq.elim
theorem spM_call {σ : L2.St} {H : Hp} {Q : VK} {vs : List V} (ar : ∀ ds m, ds.length ≠ n → g ds m = .bad) (h : tK (RDs (ctOf X)) (RD (ctOf X)) (ctOf X) W (fun ds _ m => g ds m) vs σ H Q) : spM (ctOf X) n g vs H Q (WE W σ) := by
  obtain ⟨io, F, m, sd, ds, S, rs, r, p⟩ := h
  refine ⟨?_, io, F, m, ds, S, r, p⟩
  rw [← r.len]
  exact Decidable.byContradiction fun q => by
    have p : Post (RD (ctOf X)) (ctOf X) (fun cls d H' => W cls d σ H') io F m H (g ds m) Q := p
    rw [ar ds m q] at p; exact p
/-- f(e, ..) -/
theorem d_call (hh : Here k W X) (D : DefOk X k x n g) (hg : Gl X x) (ha : PA X (e :: es) (tA (ctOf X) W cr)) (hdb : (x == ("__debug__" : Str)) = false := by decide)
    (he : starEach (e :: es) X.env = (false, eval e X.env) :: starEach es X.env := by rfl) (hpl : (backTo pos (starEach es X.env)).any (·.1) = false := by rfl) :
    PE X (.Call (.Name x p) (e :: es) [] pos) (tE (ctOf X) W (mCall g cr)) := by
  obtain ⟨f, fd, ps, FF, hm, hk, hb⟩ := D.ex
  refine ⟨fun pins s σ H Q I h => ?_⟩
  refine wpAny_Call_Name_kw (ld_glob I hg hm ?_ hdb)
  have h1 : tA (ctOf X) W cr σ H fun vs H1 => spM (ctOf X) n g vs H1 Q (WE W σ) := by
    refine (tG.bind (R := RDs (ctOf X)) (c := cr) (k := fun ds _ m => g ds m) h).imp fun vs H1 h2 => ?_
    exact spM_call D.ar h2
  refine PySem.W.callWith_K (h₀ := X.base) I.ok.mod.kin hk (thn (ha.run pos pins s σ H _ I h1) fun us s1 ⟨vs, H1, I1, r, q⟩ => ⟨I1.kIn, ?_⟩) he hpl
  exact runG (E := WE W) FF hh hb (passAt hh.tk σ) I1 r q
/-- f() -/
theorem d_call0 (hh : Here k W X) (D : DefOk X k x 0 g) (hg : Gl X x) (hdb : (x == ("__debug__" : Str)) = false := by decide) :
    PE X (.Call (.Name x p) [] [] pos) (tE (ctOf X) W (mCall g mNil)) := by
  obtain ⟨f, fd, ps, FF, hm, hk, hb⟩ := D.ex
  refine ⟨fun pins s σ H Q I h => ?_⟩
  refine wpAny_Call_Name_kw (ld_glob I hg hm ?_ hdb)
  obtain ⟨io, F, m, sd, S, rs, p⟩ := h
  refine PySem.W.callWith_K0 I.kIn hk (runG (E := WE W) (us := []) (vs := []) FF hh hb (passAt hh.tk σ) I .nil ?_)
  exact ⟨rfl, io, F, m, [], S, by simp only [RelDs], p⟩
end
end Ev

set_option Elab.async false
set_option linter.all false
set_option maxRecDepth 100000
set_option autoImplicit false
/-! Ev4: operators by values. -/
namespace Ev
open PySem PySem.Spec PyProof.Rows L2

/-- what stands at a number is looked at -/
def viewO (i : Nat) : Option Ob → D
  | some (.lst ds) => .lst ds
  | some (.dk ks ds) => .dk ks ds
  | some (.dt ks ds) => .dt ks ds
  | _ => .ref i
def view (m : Mem) (d : D) : D := match d with
  | .ref i => viewO i (m.ob i)
  | d => d
theorem view_ref (m : Mem) (i : Nat) : view m (.ref i) = viewO i (m.ob i) := rfl
@[simp] theorem view_non (m : Mem) : view m .non = .non := rfl
@[simp] theorem view_bl (m : Mem) (b : Bool) : view m (.bl b) = .bl b := rfl
@[simp] theorem view_int (m : Mem) (i : Int) : view m (.int i) = .int i := rfl
@[simp] theorem view_str (m : Mem) (s : Str) : view m (.str s) = .str s := rfl
@[simp] theorem view_tup (m : Mem) (ds : List D) : view m (.tup ds) = .tup ds := rfl
@[simp] theorem view_lst (m : Mem) (ds : List D) : view m (.lst ds) = .lst ds := rfl
@[simp] theorem view_scr (m : Mem) (ns : List Int) : view m (.scr ns) = .scr ns := rfl
@[simp] theorem view_dk (m : Mem) (ks : List Key) (ds : List D) : view m (.dk ks ds) = .dk ks ds := rfl
@[simp] theorem view_dt (m : Mem) (ks : List (List Key)) (ds : List D) : view m (.dt ks ds) = .dt ks ds := rfl
section
variable {T : Ct} {io : Nat → Addr} {F : Addr → Prop} {m : Mem} {H : Hp} {d : D} {v : V}
abbrev Any : Addr → Prop := fun _ => True
theorem monoAny (K : PySem.W.Frag) (io : Nat → Addr) (F : Addr → Prop) (n : Nat) (H : Hp) : Mono K io F n H io Any n H :=
  ⟨Nat.le_refl _, fun _ _ => rfl, fun _ _ => trivial, fun _ _ _ h => h, fun _ _ _ h => h, fun _ _ _ _ h => h, fun _ _ _ h => h, fun _ _ _ h => h, fun _ _ _ h => h⟩
/-- a list, whether it may change or not -/
theorem at_lst (S : Sim T io F m H) (r : RelD T.K io F m.nx H d v) {ds : List D} (e : view m d = .lst ds) : ∃ a xs, v = .ref a ∧ H a = some (.lst xs) ∧ RelDs T.K io F m.nx H ds xs := by
  cases d with
  | lst es =>
    simp only [view_lst, D.lst.injEq] at e; subst e
    simp only [RelD] at r
    obtain ⟨a, xs, e, f, t, q⟩ := r
    exact ⟨a, xs, e, t, q⟩
  | ref i =>
    simp only [RelD] at r
    rw [view_ref] at e
    cases q : m.ob i with
    | none => rw [q] at e; cases e
    | some u =>
      rw [q] at e
      cases u with
      | lst es =>
        cases e
        obtain ⟨xs, h1, h2⟩ := S.ob i _ q
        exact ⟨_, xs, r.2, h1, h2⟩
      | dk _ _ => cases e
      | dt _ _ => cases e
      | ins _ _ => cases e
      | exn _ _ => cases e
  | non => cases e
  | bl _ => cases e
  | int _ => cases e
  | str _ => cases e
  | tup _ => cases e
  | scr _ => cases e
  | dk _ _ => cases e
  | dt _ _ => cases e
theorem at_dk (S : Sim T io F m H) (r : RelD T.K io F m.nx H d v) {ks : List Key} {ds : List D} (e : view m d = .dk ks ds) : ∃ a kvs, v = .ref a ∧ Rd H a (.dK kvs) ∧ kvs.map (·.1) = ks ∧ RelDs T.K io F m.nx H ds (kvs.map (·.2)) := by
  cases d with
  | dk ks' es =>
    simp only [view_dk, D.dk.injEq] at e; obtain ⟨rfl, rfl⟩ := e
    simp only [RelD] at r
    obtain ⟨a, xs, e, f, t, q⟩ := r
    exact ⟨a, xs, e, t, q⟩
  | ref i =>
    simp only [RelD] at r
    rw [view_ref] at e
    cases q : m.ob i with
    | none => rw [q] at e; cases e
    | some u =>
      rw [q] at e
      cases u with
      | dk ks' es =>
        cases e
        obtain ⟨xs, h1, h2⟩ := S.ob i _ q
        exact ⟨_, xs, r.2, .inl h1, h2⟩
      | lst _ => cases e
      | dt _ _ => cases e
      | ins _ _ => cases e
      | exn _ _ => cases e
  | non => cases e
  | bl _ => cases e
  | int _ => cases e
  | str _ => cases e
  | tup _ => cases e
  | lst _ => cases e
  | scr _ => cases e
  | dt _ _ => cases e
theorem at_dt (S : Sim T io F m H) (r : RelD T.K io F m.nx H d v) {ks : List (List Key)} {ds : List D} (e : view m d = .dt ks ds) : ∃ a kvs, v = .ref a ∧ Rd H a (.dT kvs) ∧ kvs.map (·.1) = ks ∧ RelDs T.K io F m.nx H ds (kvs.map (·.2)) := by
  cases d with
  | dt ks' es =>
    simp only [view_dt, D.dt.injEq] at e; obtain ⟨rfl, rfl⟩ := e
    simp only [RelD] at r
    obtain ⟨a, xs, e, f, t, q⟩ := r
    exact ⟨a, xs, e, t, q⟩
  | ref i =>
    simp only [RelD] at r
    rw [view_ref] at e
    cases q : m.ob i with
    | none => rw [q] at e; cases e
    | some u =>
      rw [q] at e
      cases u with
      | dt ks' es =>
        cases e
        obtain ⟨xs, h1, h2⟩ := S.ob i _ q
        exact ⟨_, xs, r.2, .inl h1, h2⟩
      | lst _ => cases e
      | dk _ _ => cases e
      | ins _ _ => cases e
      | exn _ _ => cases e
  | non => cases e
  | bl _ => cases e
  | int _ => cases e
  | str _ => cases e
  | tup _ => cases e
  | lst _ => cases e
  | scr _ => cases e
  | dk _ _ => cases e
/-- what has no number is itself -/
theorem view_inv {e : D} (h : view m d = e) : (∃ i, d = .ref i) ∨ d = e := by
  cases d with
  | ref i => exact .inl ⟨i, rfl⟩
  | non => exact .inr h
  | bl _ => exact .inr h
  | int _ => exact .inr h
  | str _ => exact .inr h
  | tup _ => exact .inr h
  | lst _ => exact .inr h
  | scr _ => exact .inr h
  | dk _ _ => exact .inr h
  | dt _ _ => exact .inr h
theorem view_ref_ne {i : Nat} {e : D} (h : view m (.ref i) = e) : (∃ ds, e = .lst ds) ∨ (∃ ks ds, e = .dk ks ds) ∨ (∃ ks ds, e = .dt ks ds) ∨ e = .ref i := by
  rw [view_ref] at h
  cases q : m.ob i with
  | none => rw [q] at h; exact .inr (.inr (.inr h.symm))
  | some u =>
    rw [q] at h
    cases u with
    | lst ds => exact .inl ⟨ds, h.symm⟩
    | dk ks ds => exact .inr (.inl ⟨ks, ds, h.symm⟩)
    | dt ks ds => exact .inr (.inr (.inl ⟨ks, ds, h.symm⟩))
    | ins _ _ => exact .inr (.inr (.inr h.symm))
    | exn _ _ => exact .inr (.inr (.inr h.symm))
theorem at_int (e : ∃ i, view m d = .int i) : ∃ i, d = .int i ∧ view m d = .int i := by
  obtain ⟨i, e⟩ := e
  rcases view_inv e with ⟨j, rfl⟩ | rfl
  · rcases view_ref_ne e with ⟨_, z⟩ | ⟨_, _, z⟩ | ⟨_, _, z⟩ | z <;> cases z
  · exact ⟨i, rfl, rfl⟩
theorem is_int {i : Int} (r : RelD T.K io F m.nx H d v) (e : view m d = .int i) : v = .int i := by
  rcases view_inv e with ⟨j, rfl⟩ | rfl
  · rcases view_ref_ne e with ⟨_, z⟩ | ⟨_, _, z⟩ | ⟨_, _, z⟩ | z <;> cases z
  · simpa only [RelD] using r
theorem is_bl {b : Bool} (r : RelD T.K io F m.nx H d v) (e : view m d = .bl b) : v = .bl b := by
  rcases view_inv e with ⟨j, rfl⟩ | rfl
  · rcases view_ref_ne e with ⟨_, z⟩ | ⟨_, _, z⟩ | ⟨_, _, z⟩ | z <;> cases z
  · simpa only [RelD] using r
theorem is_str {s : Str} (r : RelD T.K io F m.nx H d v) (e : view m d = .str s) : v = .str s := by
  rcases view_inv e with ⟨j, rfl⟩ | rfl
  · rcases view_ref_ne e with ⟨_, z⟩ | ⟨_, _, z⟩ | ⟨_, _, z⟩ | z <;> cases z
  · simpa only [RelD] using r
theorem is_tup {ds : List D} (r : RelD T.K io F m.nx H d v) (e : view m d = .tup ds) : ∃ a xs, v = .ref a ∧ TupF T.K F H a xs ∧ RelDs T.K io F m.nx H ds xs := by
  rcases view_inv e with ⟨j, rfl⟩ | rfl
  · rcases view_ref_ne e with ⟨_, z⟩ | ⟨_, _, z⟩ | ⟨_, _, z⟩ | z <;> cases z
  · simpa only [RelD] using r
theorem is_scr {ns : List Int} (r : RelD T.K io F m.nx H d v) (e : view m d = .scr ns) : ∃ a, v = .ref a ∧ ScrF T.K F H a ns := by
  rcases view_inv e with ⟨j, rfl⟩ | rfl
  · rcases view_ref_ne e with ⟨_, z⟩ | ⟨_, _, z⟩ | ⟨_, _, z⟩ | z <;> cases z
  · simpa only [RelD] using r
/-- behind an operator: the same memory -/
def Then (T : Ct) (io : Nat → Addr) (F : Addr → Prop) (m : Mem) (H : Hp) (z : D) (Q : VK) : Prop :=
  ∀ io' F' H' v, Ext io F m H io' F' m H' → Sim T io' F' m H' → RelD T.K io' F' m.nx H' z v → Q v H'
theorem Then.now {z : D} {Q : VK} (k : Then T io F m H z Q) (S : Sim T io F m H) {v : V} (r : RelD T.K io F m.nx H z v) : Q v H := k io F H v (Ext.refl S) S r
/-- a new thing at p that stays -/
theorem Then.new {z : D} {Q : VK} (k : Then T io F m H z Q) (S : Sim T io F m H) {p : Addr} {o : HO} (hp : H p = none) (r : RelD T.K io (orF F p) m.nx (upd H p o) z (.ref p)) : Q (.ref p) (upd H p o) :=
  k _ _ _ _ (Ext.addF S hp) (S.newF hp) r
theorem Then.newT {ds : List D} {xs : List V} {Q : VK} (k : Then T io F m H (.tup ds) Q) (S : Sim T io F m H) {p : Addr} (hp : H p = none) (r : RelDs T.K io F m.nx H ds xs) : Q (.ref p) (upd H p (.tup xs)) :=
  k.new S hp (by
    simp only [RelD]
    exact ⟨p, xs, rfl, .inl ⟨.inr rfl, upd_same⟩, r.mono (S.mono (Ext.addF S hp))⟩)
theorem Then.newL {ds : List D} {xs : List V} {Q : VK} (k : Then T io F m H (.lst ds) Q) (S : Sim T io F m H) {p : Addr} (hp : H p = none) (r : RelDs T.K io F m.nx H ds xs) : Q (.ref p) (upd H p (.lst xs)) :=
  k.new S hp (by
    simp only [RelD]
    exact ⟨p, xs, rfl, .inr rfl, upd_same, r.mono (S.mono (Ext.addF S hp))⟩)
theorem Then.newK {ks : List Key} {ds : List D} {kvs : List (Key × V)} {Q : VK} (k : Then T io F m H (.dk ks ds) Q) (S : Sim T io F m H) {p : Addr} (hp : H p = none) (hk : kvs.map (·.1) = ks) (r : RelDs T.K io F m.nx H ds (kvs.map (·.2))) : Q (.ref p) (upd H p (.dK kvs)) :=
  k.new S hp (by
    simp only [RelD]
    exact ⟨p, kvs, rfl, .inr rfl, .inl upd_same, hk, r.mono (S.mono (Ext.addF S hp))⟩)
theorem Post.of_ {W : Value → Option Addr → Hp → Prop} {o : Option D} {Q : VK} (h : Post (RD T) T W io F m H (Res.of o m) Q) : ∃ z, o = some z ∧ Then T io F m H z Q := by
  cases o with
  | none => exact h.elim
  | some z => exact ⟨z, rfl, h⟩
end

/-! ### two operands -/
abbrev O2 := D → D → Mem → Option D
/-- what an operator asks, by a function of values -/
def rD (T : Ct) (f : O2) : R2 := fun x y H Q => ∃ io F m d e, Sim T io F m H ∧ RelD T.K io F m.nx H d x ∧ RelD T.K io F m.nx H e y ∧ ∃ z, f d e m = some z ∧ Then T io F m H z Q
def mOp (f : O2) (a b : ME) : ME := fun s m => (a s m).bind fun x m1 => (b s m1).bind fun y m2 => Res.of (f x y m2) m2
section
variable {X : Cx} {W : WT} {f : O2} {ca cb : ME}
theorem tOp_of {σ : L2.St} {H : Hp} {Q : VK} (h : tE (ctOf X) W (mOp f ca cb) σ H Q) : tOp (rD (ctOf X) f) (tE (ctOf X) W ca) (tE (ctOf X) W cb) σ H Q := by
  have h1 := tG.bind (R := RD (ctOf X)) (c := ca) (k := fun x s m1 => (cb s m1).bind fun y m2 => Res.of (f x y m2) m2) h
  refine h1.imp fun x H1 h2 => ?_
  refine (tK.bind (R := RD (ctOf X)) (monoD _) h2).imp fun y H2 h3 => ?_
  obtain ⟨io, F, m, sd, ⟨d, e⟩, S, rs, ⟨r1, r2⟩, p⟩ := h3
  obtain ⟨z, hz, k⟩ := p.of_
  exact ⟨io, F, m, d, e, S, r1, r2, z, hz, k⟩
variable {op : Operator} {a b : Expr} {pos : Pos}
theorem d_bin (hop : OpR X (binaryOp op) (rD (ctOf X) f)) (ha : PE X a (tE (ctOf X) W ca)) (hb : PE X b (tE (ctOf X) W cb)) : PE X (.BinOp a op b pos) (tE (ctOf X) W (mOp f ca cb)) :=
  pe_imp (pe_op hop ha hb) fun σ H Q h => tOp_of h
theorem d_cmp {op : CmpOp} (hop : OpR X (compareOp op) (rD (ctOf X) f)) (ha : PE X a (tE (ctOf X) W ca)) (hb : PE X b (tE (ctOf X) W cb)) (hm : behindInMarks op b = false := by first | exact nomark _ | rfl) :
    PE X (.Compare a [op] [b] pos) (tE (ctOf X) W (mOp f ca cb)) := pe_imp (pe_cmpR hop ha hb hm) fun σ H Q h => tOp_of h

def opAdd : O2 := fun x y m => match view m x, view m y with
  | .int i, .int j => some (.int (i + j))
  | .str s, .str t => if s.length + t.length ≤ sizeLine then some (.str (s ++ t)) else none
  | .tup a, .tup b => if a.length + b.length ≤ sizeLine then some (.tup (a ++ b)) else none
  | .lst a, .lst b => if a.length + b.length ≤ sizeLine then some (.lst (a ++ b)) else none
  | _, _ => none
theorem o_add : OpR X (binaryOp .Add) (rD (ctOf X) opAdd) := by
  intro pins s σ H x y v u Q I rx ry h
  obtain ⟨io, F, m, d, e, S, rd, re, z, hz, k⟩ := h
  unfold opAdd at hz
  split at hz
  · rename_i i j e1 e2
    cases hz
    exact op_add pins s σ H _ _ v u Q I rx ry ⟨i, j, is_int rd e1, is_int re e2, k.now S (by simp only [RelD])⟩
  · rename_i i j e1 e2
    split at hz
    · rename_i hl
      cases hz
      exact op_add_str pins s σ H _ _ v u Q I rx ry ⟨i, j, is_str rd e1, is_str re e2, hl, k.now S (by simp only [RelD])⟩
    · cases hz
  · rename_i i j e1 e2
    split at hz
    · rename_i hl
      cases hz
      obtain ⟨a, xs, ha, ta, qa⟩ := is_tup rd e1
      obtain ⟨b, ys, hb, tb, qb⟩ := is_tup re e2
      have la := qa.len
      have lb := qb.len
      refine op_catA pins s σ H _ _ v u Q I rx ry ⟨a, b, xs, ys, ha, hb, ta.sq, tb.sq, by omega, fun z => ?_, fun z1 z2 => ?_, fun z1 z2 p hp => ?_⟩
      · subst z
        have z : i = [] := List.eq_nil_of_length_eq_zero la
        subst z
        exact k.now S (by simp only [RelD, List.nil_append]; exact ⟨b, ys, rfl, tb, qb⟩)
      · subst z2
        have z : j = [] := List.eq_nil_of_length_eq_zero lb
        subst z
        exact k.now S (by simp only [RelD, List.append_nil]; exact ⟨a, xs, rfl, ta, qa⟩)
      · exact k.newT S hp (qa.app qb)
    · cases hz
  · rename_i i j e1 e2
    split at hz
    · rename_i hl
      cases hz
      obtain ⟨a, xs, ha, ta, qa⟩ := at_lst S rd e1
      obtain ⟨b, ys, hb, tb, qb⟩ := at_lst S re e2
      have la := qa.len
      have lb := qb.len
      exact op_cat pins s σ H _ _ v u Q I rx ry ⟨a, b, xs, ys, ha, hb, ta, tb, by omega, fun p hp => k.newL S hp (qa.app qb)⟩
    · cases hz
  · cases hz
/-- two ints, under a condition -/
def opInt (C : Int → Int → Bool) (g : Int → Int → D) : O2 := fun x y m => match view m x, view m y with
  | .int i, .int j => if C i j = true then some (g i j) else none
  | _, _ => none
theorem o_int {pop : Value → Value → Sem Value} {C : Int → Int → Bool} {C' : Int → Int → Prop} {g : Int → Int → D} {g' : Int → Int → V} (h : OpR X pop (rI C' g')) (hC : ∀ i j, C i j = true → C' i j)
    (hg : ∀ K io F n H i j, RelD K io F n H (g i j) (g' i j)) : OpR X pop (rD (ctOf X) (opInt C g)) := by
  intro pins s σ H x y v u Q I rx ry q
  obtain ⟨io, F, m, d, e, S, rd, re, z, hz, k⟩ := q
  unfold opInt at hz
  split at hz
  · rename_i i j e1 e2
    split at hz
    · rename_i hc
      cases hz
      exact h pins s σ H _ _ v u Q I rx ry ⟨i, j, is_int rd e1, is_int re e2, hC i j hc, k.now S (hg _ _ _ _ _ i j)⟩
    · cases hz
  · cases hz
theorem o_int0 {pop : Value → Value → Sem Value} {C : Int → Int → Bool} {g : Int → Int → D} {g' : Int → Int → V} (h : OpR X pop (rI0 g'))
    (hg : ∀ K io F n H i j, RelD K io F n H (g i j) (g' i j)) : OpR X pop (rD (ctOf X) (opInt C g)) :=
  o_int (C' := fun _ _ => True) (fun pins s σ H x y v u Q I rx ry ⟨i, j, a, b, _, q⟩ => h pins s σ H x y v u Q I rx ry ⟨i, j, a, b, q⟩) (fun _ _ _ => trivial) hg
def yes : Int → Int → Bool := fun _ _ => true
def opSub : O2 := opInt yes fun i j => .int (i - j)
def cMul : Int → Int → Bool := fun i j => decide (i.natAbs.log2 + j.natAbs.log2 < 1000000)
def opMul : O2 := opInt cMul fun i j => .int (i * j)
def cPos : Int → Int → Bool := fun _ j => decide (0 < j)
def opMod : O2 := opInt cPos fun i j => .int (i % j)
def cDiv : Int → Int → Bool := fun _ j => decide (0 < j) && decide (j.natAbs.log2 < 9000)
def opDiv : O2 := opInt cDiv fun i j => .int (i / j)
def cPow : Int → Int → Bool := fun i j => decide (0 ≤ j) && decide (j ≤ 1000000) && decide (i.natAbs < 2 ^ 64)
def opPow : O2 := opInt cPow fun i j => .int (i ^ j.toNat)
theorem o_sub : OpR X (binaryOp .Sub) (rD (ctOf X) opSub) := o_int0 op_sub fun _ _ _ _ _ _ _ => by simp only [RelD]
theorem o_mul : OpR X (binaryOp .Mult) (rD (ctOf X) opMul) := o_int op_mulW (fun i j h => by
  simp only [cMul, decide_eq_true_eq] at h; exact h) fun _ _ _ _ _ _ _ => by simp only [RelD]
theorem o_mod : OpR X (binaryOp .Mod) (rD (ctOf X) opMod) := o_int op_mod (fun i j h => by
  simp only [cPos, decide_eq_true_eq] at h; exact h) fun _ _ _ _ _ _ _ => by simp only [RelD]
theorem o_div : OpR X (binaryOp .FloorDiv) (rD (ctOf X) opDiv) := o_int op_fdivW (fun _ _ h => by
  simp only [cDiv, Bool.and_eq_true, decide_eq_true_eq] at h; exact h) fun _ _ _ _ _ _ _ => by simp only [RelD]
theorem o_pow : OpR X (binaryOp .Pow) (rD (ctOf X) opPow) := o_int op_pow (fun _ _ h => by
  simp only [cPow, Bool.and_eq_true, decide_eq_true_eq] at h; exact ⟨h.1.1, h.1.2, h.2⟩) fun _ _ _ _ _ _ _ => by simp only [RelD]
def opLt : O2 := opInt yes fun i j => .bl (decide (i < j))
def opLe : O2 := opInt yes fun i j => .bl (decide (i ≤ j))
def opGt : O2 := opInt yes fun i j => .bl (decide (j < i))
def opGe : O2 := opInt yes fun i j => .bl (decide (j ≤ i))
theorem o_lt : OpR X (compareOp .Lt) (rD (ctOf X) opLt) := o_int0 op_lt fun _ _ _ _ _ _ _ => by simp only [RelD]
theorem o_le : OpR X (compareOp .LtE) (rD (ctOf X) opLe) := o_int0 op_le fun _ _ _ _ _ _ _ => by simp only [RelD]
theorem o_gt : OpR X (compareOp .Gt) (rD (ctOf X) opGt) := o_int0 op_gt fun _ _ _ _ _ _ _ => by simp only [RelD]
theorem o_ge : OpR X (compareOp .GtE) (rD (ctOf X) opGe) := o_int0 op_ge fun _ _ _ _ _ _ _ => by simp only [RelD]

/-! ### what is compared deep -/
mutual
def toPy : D → Option PyData
  | .non => some .none
  | .bl b => some (.bool b)
  | .int i => some (.int i)
  | .str s => some (.str s)
  | .tup ds => (toPys ds).map PyData.tuple
  | .lst ds => (toPys ds).map PyData.list
  | .scr ns => some (.list (ns.map PyData.int))
  | .dk _ _ => none
  | .dt _ _ => none
  | .ref _ => none
def toPys : List D → Option (List PyData)
  | [] => some []
  | d :: ds => match toPy d, toPys ds with
    | some p, some ps => some (p :: ps)
    | _, _ => none
end
section
variable {io : Nat → Addr} {F : Addr → Prop} {n : Nat} {H : Hp}
theorem dpInts (K : PySem.W.Frag) (H : Hp) : ∀ ns : List Int, DpAll K H (ns.map V.int) (ns.map PyData.int)
  | [] => .nil
  | i :: r => .cons (.int i) (dpInts K H r)
mutual
theorem toDp (K : PySem.W.Frag) : ∀ (d : D) {v : V} {p : PyData}, RelD K io F n H d v → toPy d = some p → Dp K H v p
  | .non, v, p, r, e => by simp only [RelD] at r; simp only [toPy, Option.some.injEq] at e; subst r; subst e; exact .non
  | .bl b, v, p, r, e => by simp only [RelD] at r; simp only [toPy, Option.some.injEq] at e; subst r; subst e; exact .bl b
  | .int b, v, p, r, e => by simp only [RelD] at r; simp only [toPy, Option.some.injEq] at e; subst r; subst e; exact .int b
  | .str b, v, p, r, e => by simp only [RelD] at r; simp only [toPy, Option.some.injEq] at e; subst r; subst e; exact .str b
  | .tup ds, v, p, r, e => by
    simp only [RelD] at r
    obtain ⟨a, xs, rfl, t, q⟩ := r
    simp only [toPy, Option.map_eq_some_iff] at e
    obtain ⟨ps, e, rfl⟩ := e
    exact .tup t.sq (toDps K ds q e)
  | .lst ds, v, p, r, e => by
    simp only [RelD] at r
    obtain ⟨a, xs, rfl, f, t, q⟩ := r
    simp only [toPy, Option.map_eq_some_iff] at e
    obtain ⟨ps, e, rfl⟩ := e
    exact .lst (.inl (.inl t)) (toDps K ds q e)
  | .scr ns, v, p, r, e => by
    simp only [RelD] at r
    obtain ⟨a, rfl, t⟩ := r
    simp only [toPy, Option.some.injEq] at e
    subst e
    exact .lst t.sq (dpInts K H ns)
  | .dk _ _, v, p, r, e => by simp only [toPy] at e; cases e
  | .dt _ _, v, p, r, e => by simp only [toPy] at e; cases e
  | .ref _, v, p, r, e => by simp only [toPy] at e; cases e
theorem toDps (K : PySem.W.Frag) : ∀ (ds : List D) {vs : List V} {ps : List PyData}, RelDs K io F n H ds vs → toPys ds = some ps → DpAll K H vs ps
  | [], [], ps, _, e => by simp only [toPys, Option.some.injEq] at e; subst e; exact .nil
  | [], _ :: _, _, r, _ => by simp only [RelDs] at r
  | _ :: _, [], _, r, _ => by simp only [RelDs] at r
  | d :: ds, v :: vs, ps, r, e => by
    simp only [RelDs] at r
    unfold toPys at e
    split at e
    · rename_i p qs e1 e2
      cases e
      exact .cons (toDp K d r.1 e1) (toDps K ds r.2 e2)
    · cases e
end
end
/-- .. whatever stands at a number at the top -/
theorem topDp {T : Ct} {io : Nat → Addr} {F : Addr → Prop} {m : Mem} {H : Hp} {d : D} {v : V} {p : PyData} (S : Sim T io F m H) (r : RelD T.K io F m.nx H d v) (e : toPy (view m d) = some p) : Dp T.K H v p := by
  cases d with
  | ref i =>
    rcases view_ref_ne (rfl : view m (.ref i) = view m (.ref i)) with ⟨ds, z⟩ | ⟨_, _, z⟩ | ⟨_, _, z⟩ | z
    · obtain ⟨a, xs, rfl, t, q⟩ := at_lst S r z
      rw [z] at e
      simp only [toPy, Option.map_eq_some_iff] at e
      obtain ⟨ps, e, rfl⟩ := e
      exact .lst (.inl (.inl t)) (toDps _ ds q e)
    · rw [z] at e; simp only [toPy] at e; cases e
    · rw [z] at e; simp only [toPy] at e; cases e
    · rw [z] at e; simp only [toPy] at e; cases e
  | non => exact toDp _ _ r e
  | bl _ => exact toDp _ _ r e
  | int _ => exact toDp _ _ r e
  | str _ => exact toDp _ _ r e
  | tup _ => exact toDp _ _ r e
  | lst _ => exact toDp _ _ r e
  | scr _ => exact toDp _ _ r e
  | dk _ _ => exact toDp _ _ r e
  | dt _ _ => exact toDp _ _ r e
/-- a == b -/
def twoStr : D → D → Option Bool
  | .str a, .str b => some (decide (a = b))
  | _, _ => none
def pyEq (x y : D) (m : Mem) : Option Bool := match twoStr (view m x) (view m y) with
  | some c => some c
  | none => (match toPy (view m x), toPy (view m y) with
    | some p, some q => if SeqAt.shaped p = true ∧ SeqAt.shaped q = true then some (PyData.eqv p q) else none
    | _, _ => none)
theorem twoStr_inv {x y : D} {b : Bool} (h : twoStr x y = some b) : ∃ s t, x = .str s ∧ y = .str t ∧ b = decide (s = t) := by
  unfold twoStr at h
  split at h
  · cases h; exact ⟨_, _, rfl, rfl, rfl⟩
  · cases h
def opEq : O2 := fun x y m => (pyEq x y m).map D.bl
def opNe : O2 := fun x y m => (pyEq x y m).map fun b => .bl (!b)
theorem pyEq_inv {x y : D} {m : Mem} {b : Bool} (h : pyEq x y m = some b) : (∃ s t, view m x = .str s ∧ view m y = .str t ∧ b = decide (s = t)) ∨ ∃ p q, toPy (view m x) = some p ∧ toPy (view m y) = some q ∧ SeqAt.shaped p = true ∧ SeqAt.shaped q = true ∧ b = PyData.eqv p q := by
  unfold pyEq at h
  split at h
  · rename_i c e
    cases h
    exact .inl (twoStr_inv e)
  · split at h
    · rename_i p q e1 e2
      split at h
      · rename_i hs
        cases h
        exact .inr ⟨p, q, e1, e2, hs.1, hs.2, rfl⟩
      · cases h
    · cases h
theorem o_eq (hu : X.A.units + 65 < cLine) : OpR X (compareOp .Eq) (rD (ctOf X) opEq) := by
  intro pins s σ H x y v u Q I rx ry h
  obtain ⟨io, F, m, d, e, S, rd, re, z, hz, k⟩ := h
  unfold opEq at hz
  rw [Option.map_eq_some_iff] at hz
  obtain ⟨b, hz, rfl⟩ := hz
  rcases pyEq_inv hz with ⟨a, b, e1, e2, rfl⟩ | ⟨p, q, e1, e2, s1, s2, rfl⟩
  · have ex := is_str rd e1
    have ey := is_str re e2
    subst ex ey
    exact op_eq pins s σ H _ _ v u Q I rx ry ⟨rfl, k.now S (by simp only [RelD, V.str.injEq])⟩
  exact op_eqD (Nat.lt_of_succ_lt hu) pins s σ H _ _ v u Q I rx ry ⟨p, q, topDp S rd e1, topDp S re e2, s1, s2, k.now S (by simp only [RelD])⟩
theorem o_ne (hu : X.A.units + 65 < cLine) : OpR X (compareOp .NotEq) (rD (ctOf X) opNe) := by
  intro pins s σ H x y v u Q I rx ry h
  obtain ⟨io, F, m, d, e, S, rd, re, z, hz, k⟩ := h
  unfold opNe at hz
  rw [Option.map_eq_some_iff] at hz
  obtain ⟨b, hz, rfl⟩ := hz
  rcases pyEq_inv hz with ⟨a, b, e1, e2, rfl⟩ | ⟨p, q, e1, e2, s1, s2, rfl⟩
  · have ex := is_str rd e1
    have ey := is_str re e2
    subst ex ey
    exact op_ne pins s σ H _ _ v u Q I rx ry ⟨rfl, k.now S (by simp only [RelD, V.str.injEq])⟩
  exact op_neD (Nat.lt_of_succ_lt hu) pins s σ H _ _ v u Q I rx ry ⟨p, q, topDp S rd e1, topDp S re e2, s1, s2, k.now S (by simp only [RelD])⟩
/-- keys -/
def keyOf : D → Option Key
  | .int i => some (.inl i)
  | .str s => some (.inr s)
  | _ => none
def keysOf : List D → Option (List Key)
  | [] => some []
  | d :: ds => match keyOf d, keysOf ds with
    | some k, some ks => some (k :: ks)
    | _, _ => none
/-- a place's -/
def ikeysOf : List D → Option (List Key)
  | [] => some []
  | .int i :: ds => (ikeysOf ds).map fun ks => .inl i :: ks
  | _ => none
theorem ikeys_keys : ∀ {ds : List D} {ks : List Key}, ikeysOf ds = some ks → keysOf ds = some ks
  | [], ks, e => e
  | .int i :: ds, ks, e => by
    simp only [ikeysOf, Option.map_eq_some_iff] at e
    obtain ⟨r, e, rfl⟩ := e
    simp only [keysOf, keyOf, ikeys_keys e]
  | .non :: _, _, e => by simp only [ikeysOf] at e; cases e
  | .bl _ :: _, _, e => by simp only [ikeysOf] at e; cases e
  | .str _ :: _, _, e => by simp only [ikeysOf] at e; cases e
  | .tup _ :: _, _, e => by simp only [ikeysOf] at e; cases e
  | .lst _ :: _, _, e => by simp only [ikeysOf] at e; cases e
  | .scr _ :: _, _, e => by simp only [ikeysOf] at e; cases e
  | .dk _ _ :: _, _, e => by simp only [ikeysOf] at e; cases e
  | .dt _ _ :: _, _, e => by simp only [ikeysOf] at e; cases e
  | .ref _ :: _, _, e => by simp only [ikeysOf] at e; cases e
def look {κ : Type} [DecidableEq κ] : List κ → List D → κ → Option D
  | k :: ks, d :: ds, x => if k = x then some d else look ks ds x
  | _, _, _ => none
@[simp] theorem look_nil {κ : Type} [DecidableEq κ] (ds : List D) (x : κ) : look [] ds x = none := by cases ds <;> rfl
@[simp] theorem look_cons {κ : Type} [DecidableEq κ] (k : κ) (ks : List κ) (d : D) (ds : List D) (x : κ) : look (k :: ks) (d :: ds) x = if k = x then some d else look ks ds x := rfl
/-- x in y -/
def pyIn (x y : D) (m : Mem) : Option Bool := match view m y with
  | .str t => (match view m x with
    | .str s => some (!(Builtin.Str.occurrences t s 0 t.length 1).isEmpty)
    | _ => none)
  | .dk ks ds => (keyOf (view m x)).map fun k => (look ks ds k).isSome
  | .dt ks ds => (match view m x with
    | .tup es => (ikeysOf es).map fun k => (look ks ds k).isSome
    | _ => none)
  | w => (match toPy (view m x), toPy w with
    | some p, some (.list qs) => if SeqAt.shaped p = true ∧ SeqAt.shaped (.list qs) = true then some (qs.any fun z => PyData.eqv z p) else none
    | some p, some (.tuple qs) => if SeqAt.shaped p = true ∧ SeqAt.shaped (.tuple qs) = true then some (qs.any fun z => PyData.eqv z p) else none
    | _, _ => none)
def opIn : O2 := fun x y m => (pyIn x y m).map D.bl
def opNotIn : O2 := fun x y m => (pyIn x y m).map fun b => .bl (!b)
section
variable {io : Nat → Addr} {F : Addr → Prop} {n : Nat} {H : Hp} {K : PySem.W.Frag}
theorem keyOf_rel {d : D} {v : V} {k : Key} (r : RelD K io F n H d v) (e : keyOf d = some k) : v = kV k := by
  unfold keyOf at e
  split at e <;> first | (cases e; simp only [RelD] at r; exact r) | cases e
theorem keysOf_rel : ∀ {ds : List D} {vs : List V} {ks : List Key}, RelDs K io F n H ds vs → keysOf ds = some ks → vs = ks.map kV
  | [], [], ks, _, e => by simp only [keysOf, Option.some.injEq] at e; subst e; rfl
  | [], _ :: _, _, r, _ => by simp only [RelDs] at r
  | _ :: _, [], _, r, _ => by simp only [RelDs] at r
  | d :: ds, v :: vs, ks, r, e => by
    simp only [RelDs] at r
    unfold keysOf at e
    split at e
    · rename_i k ks' e1 e2
      cases e
      rw [keyOf_rel r.1 e1, keysOf_rel r.2 e2]
      rfl
    · cases e
theorem look_rel {κ : Type} [DecidableEq κ] {x : κ} : ∀ {ks : List κ} {ds : List D} {kvs : List (κ × V)}, kvs.map (·.1) = ks → RelDs K io F n H ds (kvs.map (·.2)) →
    (∀ d, look ks ds x = some d → ∃ v, valV kvs x = some v ∧ RelD K io F n H d v) ∧ (look ks ds x = none → valV kvs x = none)
  | [], _, [], _, _ => ⟨fun d e => by (rw [look_nil] at e; cases e), fun _ => rfl⟩
  | [], _, _ :: _, e, _ => by cases e
  | _ :: _, _, [], e, _ => by cases e
  | k :: ks, [], p :: kvs, _, r => by simp only [List.map_cons, RelDs] at r
  | k :: ks, d :: ds, p :: kvs, e, r => by
    simp only [List.map_cons, List.cons.injEq] at e
    simp only [List.map_cons, RelDs] at r
    obtain ⟨e1, e2⟩ := e
    subst e1
    unfold look valV
    rw [List.find?_cons]
    by_cases hx : p.1 = x
    · rw [if_pos hx, decide_eq_true hx]
      refine ⟨fun d' q => ?_, fun q => by cases q⟩
      cases q
      exact ⟨p.2, rfl, r.1⟩
    · rw [if_neg hx, decide_eq_false hx]
      exact look_rel e2 r.2
end
theorem pyIn_inv {x y : D} {m : Mem} {b : Bool} (h : pyIn x y m = some b) :
    (∃ s t, view m x = .str s ∧ view m y = .str t ∧ b = !(Builtin.Str.occurrences t s 0 t.length 1).isEmpty) ∨
    (∃ ks ds k, view m y = .dk ks ds ∧ keyOf (view m x) = some k ∧ b = (look ks ds k).isSome) ∨
    (∃ ks ds es k, view m y = .dt ks ds ∧ view m x = .tup es ∧ ikeysOf es = some k ∧ b = (look ks ds k).isSome) ∨
    (∃ p qs, toPy (view m x) = some p ∧ toPy (view m y) = some (.list qs) ∧ SeqAt.shaped p = true ∧ SeqAt.shaped (.list qs) = true ∧ b = qs.any fun z => PyData.eqv z p) ∨
    (∃ p qs, toPy (view m x) = some p ∧ toPy (view m y) = some (.tuple qs) ∧ SeqAt.shaped p = true ∧ SeqAt.shaped (.tuple qs) = true ∧ b = qs.any fun z => PyData.eqv z p) := by
  unfold pyIn at h
  split at h
  · rename_i t e
    split at h
    · rename_i s e2
      cases h
      exact .inl ⟨s, t, e2, e, rfl⟩
    · cases h
  · rename_i ks ds e
    rw [Option.map_eq_some_iff] at h
    obtain ⟨k, e2, rfl⟩ := h
    exact .inr (.inl ⟨ks, ds, k, e, e2, rfl⟩)
  · rename_i ks ds e
    split at h
    · rename_i es e2
      rw [Option.map_eq_some_iff] at h
      obtain ⟨k, e3, rfl⟩ := h
      exact .inr (.inr (.inl ⟨ks, ds, es, k, e, e2, e3, rfl⟩))
    · cases h
  · split at h
    · rename_i p qs e1 e2
      split at h
      · rename_i hs
        cases h
        exact .inr (.inr (.inr (.inl ⟨p, qs, e1, e2, hs.1, hs.2, rfl⟩)))
      · cases h
    · rename_i p qs e1 e2
      split at h
      · rename_i hs
        cases h
        exact .inr (.inr (.inr (.inr ⟨p, qs, e1, e2, hs.1, hs.2, rfl⟩)))
      · cases h
    · cases h
theorem keyOf_view {T : Ct} {io : Nat → Addr} {F : Addr → Prop} {m : Mem} {H : Hp} {d : D} {v : V} {k : Key} (r : RelD T.K io F m.nx H d v) (e : keyOf (view m d) = some k) : v = kV k := by
  rcases view_inv (rfl : view m d = view m d) with ⟨j, rfl⟩ | z
  · rcases view_ref_ne (rfl : view m (.ref j) = view m (.ref j)) with ⟨_, z⟩ | ⟨_, _, z⟩ | ⟨_, _, z⟩ | z <;> (rw [z] at e; simp only [keyOf] at e; cases e)
  · rw [← z] at e; exact keyOf_rel r e
/-- a dict's entry -/
theorem dget {T : Ct} {io : Nat → Addr} {F : Addr → Prop} {m : Mem} {H : Hp} {x y : D} {v u : V} {ks : List Key} {ds : List D} {k : Key} (S : Sim T io F m H) (rx : RelD T.K io F m.nx H x v) (ry : RelD T.K io F m.nx H y u)
    (e1 : view m y = .dk ks ds) (e2 : keyOf (view m x) = some k) : ∃ a o, u = .ref a ∧ DGet H a v o ∧ (∀ d, look ks ds k = some d → ∃ w, o = some w ∧ RelD T.K io F m.nx H d w) ∧ (look ks ds k = none → o = none) := by
  obtain ⟨a, kvs, rfl, h1, h2, h3⟩ := at_dk S ry e1
  have := keyOf_view rx e2
  subst this
  exact ⟨a, valV kvs k, rfl, .inl ⟨kvs, k, h1, rfl, rfl⟩, (look_rel h2 h3).1, (look_rel h2 h3).2⟩
/-- a tuple of ints is a tuple that H tracks -/
theorem dgetT {T : Ct} {io : Nat → Addr} {F : Addr → Prop} {m : Mem} {H : Hp} {x y : D} {v u : V} {ks : List (List Key)} {ds es : List D} {k : List Key} (S : Sim T io F m H) (rx : RelD T.K io F m.nx H x v) (ry : RelD T.K io F m.nx H y u)
    (e1 : view m y = .dt ks ds) (e2 : view m x = .tup es) (e3 : ikeysOf es = some k) : ∃ a o, u = .ref a ∧ DGet H a v o ∧ (∀ d, look ks ds k = some d → ∃ w, o = some w ∧ RelD T.K io F m.nx H d w) ∧ (look ks ds k = none → o = none) := by
  obtain ⟨a, kvs, rfl, h1, h2, h3⟩ := at_dt S ry e1
  obtain ⟨b, xs, rfl, t, q⟩ := is_tup rx e2
  have e := keysOf_rel q (ikeys_keys e3)
  subst e
  rcases t with ⟨_, t⟩ | ⟨t, z, r, e⟩
  · exact ⟨a, valV kvs k, rfl, .inr ⟨kvs, k, b, h1, rfl, t, rfl⟩, (look_rel h2 h3).1, (look_rel h2 h3).2⟩
  · cases es with
    | nil => simp only [ikeysOf, Option.some.injEq] at e3; subst e3; cases e
    | cons d es =>
      cases d with
      | int i =>
        simp only [ikeysOf, Option.map_eq_some_iff] at e3
        obtain ⟨r', e3, rfl⟩ := e3
        cases e
      | _ => simp only [ikeysOf] at e3; cases e3
theorem o_in (hu : X.A.units + 65 < cLine) : OpR X (compareOp .In) (rD (ctOf X) opIn) := by
  intro pins s σ H x y v u Q I rx ry h
  obtain ⟨io, F, m, d, e, S, rd, re, z, hz, k⟩ := h
  unfold opIn at hz
  rw [Option.map_eq_some_iff] at hz
  obtain ⟨b, hz, rfl⟩ := hz
  have fin := k.now S (v := V.bl b) (by simp only [RelD])
  rcases pyIn_inv hz with ⟨p, q, e1, e2, rfl⟩ | ⟨ks, ds, q, e1, e2, rfl⟩ | ⟨ks, ds, es, q, e1, e2, e3, rfl⟩ | ⟨p, qs, e1, e2, s1, s2, rfl⟩ | ⟨p, qs, e1, e2, s1, s2, rfl⟩
  · exact op_in_str pins s σ H _ _ v u Q I rx ry ⟨p, q, is_str rd e1, is_str re e2, fin⟩
  · obtain ⟨a, o, rfl, g, h1, h2⟩ := dget S rd re e1 e2
    obtain rfl : u = Value.ref a := ry
    refine d_in (Nat.lt_of_le_of_lt (by omega) hu) I g rx fun s3 I3 => ⟨.bl o.isSome, H, I3, rfl, ?_⟩
    have : o.isSome = (look ks ds q).isSome := by
      cases z : look ks ds q with
      | none => rw [h2 z]; rfl
      | some d => obtain ⟨w, hw, _⟩ := h1 d z; rw [hw]; rfl
    rw [this]; exact fin
  · obtain ⟨a, o, rfl, g, h1, h2⟩ := dgetT S rd re e1 e2 e3
    obtain rfl : u = Value.ref a := ry
    refine d_in (Nat.lt_of_le_of_lt (by omega) hu) I g rx fun s3 I3 => ⟨.bl o.isSome, H, I3, rfl, ?_⟩
    have : o.isSome = (look ks ds q).isSome := by
      cases z : look ks ds q with
      | none => rw [h2 z]; rfl
      | some d => obtain ⟨w, hw, _⟩ := h1 d z; rw [hw]; rfl
    rw [this]; exact fin
  · exact op_inD hu pins s σ H _ _ v u Q I rx ry ⟨p, qs, topDp S rd e1, topDp S re e2, s1, s2, fin⟩
  · obtain ⟨as, r1⟩ := Dp.reads I _ _ _ (topDp S rd e1) rx
    obtain ⟨bs, r2⟩ := Dp.reads I _ _ _ (topDp S re e2) ry
    exact SeqAt.in_tuple_reads r2 r1 (by have := SeqAt.canLay_of_shaped s2; simpa only [PyData.canLay0] using this) (SeqAt.canLay_of_shaped s1) (room_in_shaped s1 hu) ⟨.bl _, H, I, rfl, fin⟩
theorem o_notIn (hu : X.A.units + 65 < cLine) : OpR X (compareOp .NotIn) (rD (ctOf X) opNotIn) := by
  intro pins s σ H x y v u Q I rx ry h
  obtain ⟨io, F, m, d, e, S, rd, re, z, hz, k⟩ := h
  unfold opNotIn at hz
  rw [Option.map_eq_some_iff] at hz
  obtain ⟨b, hz, rfl⟩ := hz
  have fin := k.now S (v := V.bl (!b)) (by simp only [RelD])
  rcases pyIn_inv hz with ⟨p, q, e1, e2, rfl⟩ | ⟨ks, ds, q, e1, e2, rfl⟩ | ⟨ks, ds, es, q, e1, e2, e3, rfl⟩ | ⟨p, qs, e1, e2, s1, s2, rfl⟩ | ⟨p, qs, e1, e2, s1, s2, rfl⟩
  · exact op_notin_str pins s σ H _ _ v u Q I rx ry ⟨p, q, is_str rd e1, is_str re e2, fin⟩
  · obtain ⟨a, o, rfl, g, h1, h2⟩ := dget S rd re e1 e2
    obtain rfl : u = Value.ref a := ry
    refine d_notIn (Nat.lt_of_le_of_lt (by omega) hu) I g rx fun s3 I3 => ⟨.bl (!o.isSome), H, I3, rfl, ?_⟩
    have : o.isSome = (look ks ds q).isSome := by
      cases z : look ks ds q with
      | none => rw [h2 z]; rfl
      | some d => obtain ⟨w, hw, _⟩ := h1 d z; rw [hw]; rfl
    rw [this]; exact fin
  · obtain ⟨a, o, rfl, g, h1, h2⟩ := dgetT S rd re e1 e2 e3
    obtain rfl : u = Value.ref a := ry
    refine d_notIn (Nat.lt_of_le_of_lt (by omega) hu) I g rx fun s3 I3 => ⟨.bl (!o.isSome), H, I3, rfl, ?_⟩
    have : o.isSome = (look ks ds q).isSome := by
      cases z : look ks ds q with
      | none => rw [h2 z]; rfl
      | some d => obtain ⟨w, hw, _⟩ := h1 d z; rw [hw]; rfl
    rw [this]; exact fin
  · exact op_notInD hu pins s σ H _ _ v u Q I rx ry ⟨p, qs, topDp S rd e1, topDp S re e2, s1, s2, fin⟩
  · obtain ⟨as, r1⟩ := Dp.reads I _ _ _ (topDp S rd e1) rx
    obtain ⟨bs, r2⟩ := Dp.reads I _ _ _ (topDp S re e2) ry
    exact SeqAt.notIn_tuple_reads r2 r1 (by have := SeqAt.canLay_of_shaped s2; simpa only [PyData.canLay0] using this) (SeqAt.canLay_of_shaped s1) (room_in_shaped s1 hu) ⟨.bl _, H, I, rfl, fin⟩
/-- x is None, x is not None -/
def isNon : D → Bool
  | .non => true
  | _ => false
def opIsN : O2 := fun x _ _ => some (.bl (isNon x))
def opNotN : O2 := fun x _ _ => some (.bl (!isNon x))
theorem isNon_rel {K : PySem.W.Frag} {io : Nat → Addr} {F : Addr → Prop} {n : Nat} {H : Hp} {d : D} {v : V} (r : RelD K io F n H d v) : decide (v = .non) = isNon d := by
  cases d with
  | non => simp only [RelD] at r; subst r; rfl
  | bl b => simp only [RelD] at r; subst r; rfl
  | int b => simp only [RelD] at r; subst r; rfl
  | str b => simp only [RelD] at r; subst r; rfl
  | tup ds => simp only [RelD] at r; obtain ⟨_, _, rfl, _⟩ := r; rfl
  | lst ds => simp only [RelD] at r; obtain ⟨_, _, rfl, _⟩ := r; rfl
  | scr ds => simp only [RelD] at r; obtain ⟨_, rfl, _⟩ := r; rfl
  | dk ks ds => simp only [RelD] at r; obtain ⟨_, _, rfl, _⟩ := r; rfl
  | dt ks ds => simp only [RelD] at r; obtain ⟨_, _, rfl, _⟩ := r; rfl
  | ref i => simp only [RelD] at r; obtain ⟨_, rfl⟩ := r; rfl
end
end Ev

set_option Elab.async false
set_option linter.all false
set_option maxRecDepth 100000
set_option autoImplicit false
/-! Ev5: expressions, tests. -/
namespace Ev
open PySem PySem.Spec PyProof.Rows L2
section
variable {X : Cx} {k : Nat} {W : WT} {a b c e : Expr} {es rest : List Expr} {pos : Pos} {ca cb cc : ME} {cA : MA}

/-! ### constants, names -/
def mC (d : D) : ME := fun _ m => .ok d m
def mV (i : Nat) : ME := fun s m => match s[i]? with
  | some (some d) => .ok d m
  | _ => .bad
theorem mC_now {d : D} {v : V} {σ : L2.St} {H : Hp} {Q : VK} (hr : ∀ io F n, RelD X.K io F n H d v) (h : tE (ctOf X) W (mC d) σ H Q) : Q v H := by
  obtain ⟨io, F, m, sd, S, rs, p⟩ := h
  exact p.now S (hr _ _ _)
theorem d_int {i : Int} {j : Nat} : PE X (.Constant (.int i) j pos) (tE (ctOf X) W (mC (.int i))) := pe_imp pe_int fun σ H Q h => mC_now (X := X) (v := .int i) (fun _ _ _ => by simp only [RelD]) h
theorem d_bl {i : Bool} {j : Nat} : PE X (.Constant (.bool i) j pos) (tE (ctOf X) W (mC (.bl i))) := pe_imp pe_bl fun σ H Q h => mC_now (X := X) (v := .bl i) (fun _ _ _ => by simp only [RelD]) h
theorem d_non {j : Nat} : PE X (.Constant .none j pos) (tE (ctOf X) W (mC .non)) := pe_imp pe_non fun σ H Q h => mC_now (X := X) (v := .non) (fun _ _ _ => by simp only [RelD]) h
theorem d_str {i : Str} {j : Nat} : PE X (.Constant (.str i) j pos) (tE (ctOf X) W (mC (.str i))) := pe_imp pe_str fun σ H Q h => mC_now (X := X) (v := .str i) (fun _ _ _ => by simp only [RelD]) h
theorem d_var {i : Nat} {x : Str} (hN : X.N[i]? = some x) (hv : Vis X.env.scope x) (hd : (x == ("__debug__" : Str)) = false := by decide) (hcd : (x == ("__classdict__" : Str)) = false := by decide) : PE X (.Name x pos) (tE (ctOf X) W (mV i)) :=
  pe_imp (pe_var hN hv hd hcd) fun σ H Q h => by
    obtain ⟨io, F, m, sd, S, rs, p⟩ := h
    unfold mV at p
    split at p
    · rename_i d q
      obtain ⟨v, h1, h2⟩ := rs.2 i d q
      exact ⟨v, h1, p.now S h2⟩
    · exact p.elim
/-- a constant of the module -/
structure GlobOk (T : Ct) (x : Str) (d : D) : Prop where
  ex : ∃ (v : V) (u : Value), T.mg x = some u ∧ RelV v u ∧ ∀ io F n H, RelD T.K io F n H d v
theorem d_glob {x : Str} {d : D} (G : GlobOk (ctOf X) x d) (hg : Gl X x) (hd : (x == ("__debug__" : Str)) = false := by decide) : PE X (.Name x pos) (tE (ctOf X) W (mC d)) := by
  obtain ⟨v, u, hm, r, q⟩ := G.ex
  exact pe_imp (pe_glob hg hm r hd) fun σ H Q h => mC_now (X := X) (v := v) (fun _ _ _ => q _ _ _ _) h

/-! ### one operand -/
abbrev O1 := D → Mem → Option D
def mO1 (f : O1) (a : ME) : ME := fun s m => (a s m).bind fun x m1 => Res.of (f x m1) m1
def rD1 (T : Ct) (f : O1) : V → Hp → VK → Prop := fun x H Q => ∃ io F m d, Sim T io F m H ∧ RelD T.K io F m.nx H d x ∧ ∃ z, f d m = some z ∧ Then T io F m H z Q
theorem tO1_of {f : O1} {σ : L2.St} {H : Hp} {Q : VK} (h : tE (ctOf X) W (mO1 f ca) σ H Q) : tE (ctOf X) W ca σ H fun x H1 => rD1 (ctOf X) f x H1 Q := by
  refine (tG.bind (R := RD (ctOf X)) (c := ca) (k := fun x s m1 => Res.of (f x m1) m1) h).imp fun x H1 h2 => ?_
  obtain ⟨io, F, m, sd, d, S, rs, r, p⟩ := h2
  obtain ⟨z, hz, k⟩ := p.of_
  exact ⟨io, F, m, d, S, r, z, hz, k⟩
theorem d_un {f : O1} {op : UnaryOp} (h : UnR X (unaryOp op) (rD1 (ctOf X) f)) (ha : PE X a (tE (ctOf X) W ca)) : PE X (.UnaryOp op a pos) (tE (ctOf X) W (mO1 f ca)) :=
  pe_imp (pe_un h ha) fun σ H Q h => tO1_of h
def opNeg : O1 := fun x m => match view m x with
  | .int i => some (.int (-i))
  | _ => none
theorem u_neg : UnR X (unaryOp .USub) (rD1 (ctOf X) opNeg) := by
  intro pins s σ H x v Q I rx h
  obtain ⟨io, F, m, d, S, r, z, hz, k⟩ := h
  unfold opNeg at hz
  split at hz
  · rename_i i e
    cases hz
    exact un_neg pins s σ H _ v Q I rx ⟨i, is_int r e, k.now S (by simp only [RelD])⟩
  · cases hz
def opNotV : O1 := fun x _ => match x with
  | .bl b => some (.bl (!b))
  | _ => none
theorem d_notV (ha : PE X a (tE (ctOf X) W ca)) : PE X (.UnaryOp .Not a pos) (tE (ctOf X) W (mO1 opNotV ca)) :=
  pe_imp (pe_not ha) fun σ H Q h => (tO1_of h).imp fun x H1 h2 => by
    obtain ⟨io, F, m, d, S, r, z, hz, k⟩ := h2
    unfold opNotV at hz
    split at hz
    · cases hz
      simp only [RelD] at r
      exact ⟨_, r, k.now S (by simp only [RelD])⟩
    · cases hz

/-! ### is None -/
theorem o_isN : OpR X (compareOp .Is) fun x y H Q => y = .non ∧ rD1 (ctOf X) (fun x _ => some (.bl (isNon x))) x H Q := by
  intro pins s σ H x y v u Q I rx ry h
  obtain ⟨e, io, F, m, d, S, r, z, hz, k⟩ := h
  cases hz
  exact op_isN pins s σ H _ _ v u Q I rx ry ⟨e, k.now S (by rw [isNon_rel r]; simp only [RelD])⟩
theorem o_notN : OpR X (compareOp .IsNot) fun x y H Q => y = .non ∧ rD1 (ctOf X) (fun x _ => some (.bl (!isNon x))) x H Q := by
  intro pins s σ H x y v u Q I rx ry h
  obtain ⟨e, io, F, m, d, S, r, z, hz, k⟩ := h
  cases hz
  exact op_notN pins s σ H _ _ v u Q I rx ry ⟨e, k.now S (by rw [isNon_rel r]; simp only [RelD])⟩
def mIsN (a : ME) : ME := mO1 (fun x _ => some (.bl (isNon x))) a
def mNotN (a : ME) : ME := mO1 (fun x _ => some (.bl (!isNon x))) a
theorem d_isN {j : Nat} {p' : Pos} (ha : PE X a (tE (ctOf X) W ca)) : PE X (.Compare a [.Is] [.Constant .none j p'] pos) (tE (ctOf X) W (mIsN ca)) :=
  pe_imp (pe_cmpR o_isN ha pe_non (nomark _)) fun σ H Q h => (tO1_of h).imp fun x H1 h2 => ⟨rfl, h2⟩
theorem d_notN {j : Nat} {p' : Pos} (ha : PE X a (tE (ctOf X) W ca)) : PE X (.Compare a [.IsNot] [.Constant .none j p'] pos) (tE (ctOf X) W (mNotN ca)) :=
  pe_imp (pe_cmpR o_notN ha pe_non (nomark _)) fun σ H Q h => (tO1_of h).imp fun x H1 h2 => ⟨rfl, h2⟩

/-! ### tests -/
def mT (a : ME) : MT := fun s m => (a s m).bind fun d m1 => match d with
  | .bl b => .ok b m1
  | _ => .bad
theorem tT_of {σ : L2.St} {H : Hp} {Q : Bool → Hp → Prop} (h : tT (ctOf X) W (mT ca) σ H Q) : tE (ctOf X) W ca σ H fun x H1 => ∃ c, x = .bl c ∧ Q c H1 := by
  refine (tG.bind (R := RD (ctOf X)) (c := ca) (k := fun d s m1 => match d with | .bl b => .ok b m1 | _ => .bad) h).imp fun x H1 h2 => ?_
  obtain ⟨io, F, m, sd, d, S, rs, r, p⟩ := h2
  cases d with
  | bl b =>
    simp only [RelD] at r
    exact ⟨b, r, Post.now (R := RB) S p rfl⟩
  | _ => exact p.elim
/-- whatever is told as True or False -/
theorem d_tval (ha : PE X a (tE (ctOf X) W ca)) (he : ∀ whole, PySem.isTrue a X.env whole = (do let v ← whole; standAt a.pos; holding [v] (truthy v)) := by intro _; rfl) : PT X a (tT (ctOf X) W (mT ca)) :=
  pt_imp (pt_val ha he) fun σ H Q h => tT_of h
theorem d_tcmp {f : O2} {op : CmpOp} (hop : OpR X (compareOp op) (rD (ctOf X) f)) (ha : PE X a (tE (ctOf X) W ca)) (hb : PE X b (tE (ctOf X) W cb)) (hm : behindInMarks op b = false := by first | exact nomark _ | rfl) :
    PT X (.Compare a [op] [b] pos) (tT (ctOf X) W (mT (mOp f ca cb))) := pt_imp (pt_cmpR hop ha hb hm) fun σ H Q h => tOp_of (tT_of h)
theorem d_tisN {j : Nat} {p' : Pos} (ha : PE X a (tE (ctOf X) W ca)) : PT X (.Compare a [.Is] [.Constant .none j p'] pos) (tT (ctOf X) W (mT (mIsN ca))) :=
  pt_imp (pt_cmpR o_isN ha pe_non (nomark _)) fun σ H Q h => (tO1_of (tT_of h)).imp fun x H1 h2 => ⟨rfl, h2⟩
theorem d_tnotN {j : Nat} {p' : Pos} (ha : PE X a (tE (ctOf X) W ca)) : PT X (.Compare a [.IsNot] [.Constant .none j p'] pos) (tT (ctOf X) W (mT (mNotN ca))) :=
  pt_imp (pt_cmpR o_notN ha pe_non (nomark _)) fun σ H Q h => (tO1_of (tT_of h)).imp fun x H1 h2 => ⟨rfl, h2⟩
variable {ta tb : MT}
def mNot (t : MT) : MT := fun s m => (t s m).bind fun b m1 => .ok (!b) m1
def mAnd (t u : MT) : MT := fun s m => (t s m).bind fun b m1 => if b = true then u s m1 else .ok false m1
def mOr (t u : MT) : MT := fun s m => (t s m).bind fun b m1 => if b = true then .ok true m1 else u s m1
theorem d_tnot (ha : PT X a (tT (ctOf X) W ta)) : PT X (.UnaryOp .Not a pos) (tT (ctOf X) W (mNot ta)) :=
  pt_imp (pt_not ha) fun σ H Q h => (tG.bind (R := RB) (c := ta) (k := fun b s m1 => .ok (!b) m1) h).imp fun b H1 h2 => by
    obtain ⟨io, F, m, sd, d, S, rs, r, p⟩ := h2
    cases r
    exact Post.now (R := RB) S p rfl
theorem tAnd_of {σ : L2.St} {H : Hp} {Q : Bool → Hp → Prop} (h : tT (ctOf X) W (mAnd ta tb) σ H Q) : tAnd (tT (ctOf X) W ta) (tT (ctOf X) W tb) σ H Q :=
  (tG.bind (R := RB) (c := ta) (k := fun b s m1 => if b = true then tb s m1 else .ok false m1) h).imp fun b H1 h2 => by
    obtain ⟨io, F, m, sd, d, S, rs, r, p⟩ := h2
    cases r
    cases b with
    | true => exact ⟨io, F, m, sd, S, rs, p⟩
    | false => exact Post.now (R := RB) S p rfl
theorem tOr_of {σ : L2.St} {H : Hp} {Q : Bool → Hp → Prop} (h : tT (ctOf X) W (mOr ta tb) σ H Q) : tOr (tT (ctOf X) W ta) (tT (ctOf X) W tb) σ H Q :=
  (tG.bind (R := RB) (c := ta) (k := fun b s m1 => if b = true then .ok true m1 else tb s m1) h).imp fun b H1 h2 => by
    obtain ⟨io, F, m, sd, d, S, rs, r, p⟩ := h2
    cases r
    cases b with
    | true => exact Post.now (R := RB) S p rfl
    | false => exact ⟨io, F, m, sd, S, rs, p⟩
theorem d_wand (ha : PT X a (tT (ctOf X) W ta)) (hb : PW X (.BoolOp .And (b :: rest) pos) (tT (ctOf X) W tb)) : PW X (.BoolOp .And (a :: b :: rest) pos) (tT (ctOf X) W (mAnd ta tb)) := pw_imp (pw_and ha hb) fun σ H Q h => tAnd_of h
theorem d_wor (ha : PT X a (tT (ctOf X) W ta)) (hb : PW X (.BoolOp .Or (b :: rest) pos) (tT (ctOf X) W tb)) : PW X (.BoolOp .Or (a :: b :: rest) pos) (tT (ctOf X) W (mOr ta tb)) := pw_imp (pw_or ha hb) fun σ H Q h => tOr_of h
theorem d_wand1 (ha : PT X a (tT (ctOf X) W ta)) : PW X (.BoolOp .And [a] pos) (tT (ctOf X) W ta) := pw_and1 ha
theorem d_wor1 (ha : PT X a (tT (ctOf X) W ta)) : PW X (.BoolOp .Or [a] pos) (tT (ctOf X) W ta) := pw_or1 ha
theorem d_pw {t : TT} (h : PW X e t) : PT X e t := h.pt
/-- as values -/
def mAndV (a b : ME) : ME := fun s m => (a s m).bind fun d m1 => match d with
  | .bl true => b s m1
  | .bl false => .ok (.bl false) m1
  | _ => .bad
def mOrV (a b : ME) : ME := fun s m => (a s m).bind fun d m1 => match d with
  | .bl true => .ok (.bl true) m1
  | .bl false => b s m1
  | _ => .bad
theorem d_one {op : BoolOp} (ha : PE X a (tE (ctOf X) W ca)) : PE X (.BoolOp op [a] pos) (tE (ctOf X) W ca) := pe_one ha
theorem d_and (ha : PE X a (tE (ctOf X) W ca)) (hb : PE X (.BoolOp .And (b :: rest) pos) (tE (ctOf X) W cb)) : PE X (.BoolOp .And (a :: b :: rest) pos) (tE (ctOf X) W (mAndV ca cb)) :=
  pe_imp (pe_and ha hb) fun σ H Q h => (tG.bind (R := RD (ctOf X)) (c := ca) (k := fun d s m1 => match d with | .bl true => cb s m1 | .bl false => .ok (.bl false) m1 | _ => .bad) h).imp fun x H1 h2 => by
    obtain ⟨io, F, m, sd, d, S, rs, r, p⟩ := h2
    cases d with
    | bl b =>
      simp only [RelD] at r
      refine ⟨b, r, ?_⟩
      cases b with
      | true => exact ⟨io, F, m, sd, S, rs, p⟩
      | false => exact Post.now (R := RD (ctOf X)) S p (by simp only [RelD])
    | _ => exact p.elim
theorem d_or (ha : PE X a (tE (ctOf X) W ca)) (hb : PE X (.BoolOp .Or (b :: rest) pos) (tE (ctOf X) W cb)) : PE X (.BoolOp .Or (a :: b :: rest) pos) (tE (ctOf X) W (mOrV ca cb)) :=
  pe_imp (pe_or ha hb) fun σ H Q h => (tG.bind (R := RD (ctOf X)) (c := ca) (k := fun d s m1 => match d with | .bl true => .ok (.bl true) m1 | .bl false => cb s m1 | _ => .bad) h).imp fun x H1 h2 => by
    obtain ⟨io, F, m, sd, d, S, rs, r, p⟩ := h2
    cases d with
    | bl b =>
      simp only [RelD] at r
      refine ⟨b, r, ?_⟩
      cases b with
      | true => exact Post.now (R := RD (ctOf X)) S p (by simp only [RelD])
      | false => exact ⟨io, F, m, sd, S, rs, p⟩
    | _ => exact p.elim
/-- a if t else b -/
def mIfE (t : MT) (a b : ME) : ME := fun s m => (t s m).bind fun c m1 => if c = true then a s m1 else b s m1
theorem d_ifE {t : Expr} (ht : PT X t (tT (ctOf X) W ta)) (ha : PE X a (tE (ctOf X) W ca)) (hb : PE X b (tE (ctOf X) W cb)) : PE X (.IfExp t a b pos) (tE (ctOf X) W (mIfE ta ca cb)) :=
  pe_imp (pe_ifExp ht ha hb) fun σ H Q h => (tG.bind (R := RB) (c := ta) (k := fun c s m1 => if c = true then ca s m1 else cb s m1) h).imp fun x H1 h2 => by
    obtain ⟨io, F, m, sd, d, S, rs, r, p⟩ := h2
    cases r
    cases x with
    | true => exact ⟨io, F, m, sd, S, rs, p⟩
    | false => exact ⟨io, F, m, sd, S, rs, p⟩
/-- a < b < c -/
def mChain (f g : O2) (a b c : ME) : ME := fun s m => (a s m).bind fun x m1 => (b s m1).bind fun y m2 => match f x y m2 with
  | some (.bl true) => (c s m2).bind fun z m3 => Res.of (g y z m3) m3
  | some (.bl false) => .ok (.bl false) m2
  | _ => .bad
theorem tChain_of {f g : O2} {σ : L2.St} {H : Hp} {Q : VK} (h : tE (ctOf X) W (mChain f g ca cb cc) σ H Q) : tChain (rD (ctOf X) f) (rD (ctOf X) g) (tE (ctOf X) W ca) (tE (ctOf X) W cb) (tE (ctOf X) W cc) σ H Q := by
  refine (tG.bind (R := RD (ctOf X)) (c := ca) (k := fun x s m1 => (cb s m1).bind fun y m2 => match f x y m2 with
    | some (.bl true) => (cc s m2).bind fun z m3 => Res.of (g y z m3) m3
    | some (.bl false) => .ok (.bl false) m2
    | _ => .bad) h).imp fun x H1 h2 => ?_
  refine (tK.bind (R := RD (ctOf X)) (monoD _) h2).imp fun y H2 h3 => ?_
  obtain ⟨io, F, m, sd, ⟨d, e⟩, S, rs, ⟨r1, r2⟩, p⟩ := h3
  simp only at r1 r2 p
  cases q : f d e m with
  | none => rw [q] at p; exact p.elim
  | some z =>
    refine ⟨io, F, m, d, e, S, r1, r2, z, q, fun io' F' H' v E S' r => ?_⟩
    rw [q] at p
    cases z with
    | bl kk =>
      simp only [RelD] at r
      refine ⟨kk, r, ?_⟩
      cases kk with
      | true =>
        refine (if_pos rfl).mpr ?_
        have h4 : tK (RD (ctOf X)) (RD (ctOf X)) (ctOf X) W (fun y s m2 => (cc s m2).bind fun z m3 => Res.of (g y z m3) m3) y σ H' Q := ⟨io', F', m, sd, e, S', rs.mono (S.mono E), r2.mono (S.mono E), p.ext E⟩
        refine (tK.bind (R := RD (ctOf X)) (monoD _) h4).imp fun w H3 h5 => ?_
        obtain ⟨io, F, m, sd, ⟨d, e⟩, S, rs, ⟨r1, r2⟩, p⟩ := h5
        obtain ⟨z, hz, k⟩ := p.of_
        exact ⟨io, F, m, d, e, S, r1, r2, z, hz, k⟩
      | false => exact (p.ext E).now S' (by simp only [RelD])
    | _ => exact p.elim
theorem d_chain {f g : O2} {op op' : CmpOp} (hf : OpR X (compareOp op) (rD (ctOf X) f)) (hg : OpR X (compareOp op') (rD (ctOf X) g)) (ha : PE X a (tE (ctOf X) W ca)) (hb : PE X b (tE (ctOf X) W cb)) (hc : PE X c (tE (ctOf X) W cc))
    (hm : lastMarks [op, op'] [b, c] = false := by rfl) : PE X (.Compare a [op, op'] [b, c] pos) (tE (ctOf X) W (mChain f g ca cb cc)) := pe_imp (pe_chain hf hg ha hb hc hm) fun σ H Q h => tChain_of h
theorem d_tchain {f g : O2} {op op' : CmpOp} (hf : OpR X (compareOp op) (rD (ctOf X) f)) (hg : OpR X (compareOp op') (rD (ctOf X) g)) (ha : PE X a (tE (ctOf X) W ca)) (hb : PE X b (tE (ctOf X) W cb)) (hc : PE X c (tE (ctOf X) W cc))
    (hm : lastMarks [op, op'] [b, c] = false := by rfl) : PT X (.Compare a [op, op'] [b, c] pos) (tT (ctOf X) W (mT (mChain f g ca cb cc))) := pt_imp (pt_chain hf hg ha hb hc hm) fun σ H Q h => tChain_of (tT_of h)

/-! ### tuples, lists -/
def mTup (a : MA) : ME := fun s m => (a s m).bind fun ds m1 => if ds.length ≤ sizeLine then .ok (.tup ds) m1 else .bad
def mLst (a : MA) : ME := fun s m => (a s m).bind fun ds m1 => if ds.length ≤ sizeLine then .ok (.lst ds) m1 else .bad
def mNewL (a : MA) : ME := fun s m => (a s m).bind fun ds m1 => if ds.length ≤ sizeLine then .ok (.ref m1.nx) (m1.add (.lst ds)) else .bad
theorem d_tup {kk : Nat} (ha : PA X es (tA (ctOf X) W cA)) : PE X (.Tuple es kk pos) (tE (ctOf X) W (mTup cA)) :=
  pe_imp (pe_tup ha) fun σ H Q h => (tG.bind (R := RDs (ctOf X)) (c := cA) (R' := RD (ctOf X)) (k := fun ds s m1 => if ds.length ≤ sizeLine then .ok (D.tup ds) m1 else .bad) h).imp fun xs H1 h2 => by
    obtain ⟨io, F, m, sd, ds, S, rs, r, p⟩ := h2
    simp only at p
    split at p
    · rename_i hl
      refine ⟨by rw [← r.len]; exact hl, fun q hq => ?_⟩
      have t : Then (ctOf X) io F m H1 (.tup ds) Q := p
      exact t.newT S hq r
    · exact p.elim
theorem d_lst (ha : PA X es (tA (ctOf X) W cA)) : PE X (.List es pos) (tE (ctOf X) W (mLst cA)) :=
  pe_imp (pe_lst ha) fun σ H Q h => (tG.bind (R := RDs (ctOf X)) (c := cA) (R' := RD (ctOf X)) (k := fun ds s m1 => if ds.length ≤ sizeLine then .ok (D.lst ds) m1 else .bad) h).imp fun xs H1 h2 => by
    obtain ⟨io, F, m, sd, ds, S, rs, r, p⟩ := h2
    simp only at p
    split at p
    · rename_i hl
      refine ⟨by rw [← r.len]; exact hl, fun q hq => ?_⟩
      have t : Then (ctOf X) io F m H1 (.lst ds) Q := p
      exact t.newL S hq r
    · exact p.elim
theorem d_newL (ha : PA X es (tA (ctOf X) W cA)) : PE X (.List es pos) (tE (ctOf X) W (mNewL cA)) :=
  pe_imp (pe_lst ha) fun σ H Q h => (tG.bind (R := RDs (ctOf X)) (c := cA) (R' := RD (ctOf X)) (k := fun ds s m1 => if ds.length ≤ sizeLine then .ok (D.ref m1.nx) (m1.add (.lst ds)) else .bad) h).imp fun xs H1 h2 => by
    obtain ⟨io, F, m, sd, ds, S, rs, r, p⟩ := h2
    simp only at p
    split at p
    · rename_i hl
      refine ⟨by rw [← r.len]; exact hl, fun q hq => ?_⟩
      have E := Ext.alloc (u := .lst ds) (o := .lst xs) S hq
      refine p _ _ _ _ E (S.alloc hq ⟨xs, upd_same, r.mono (S.mono E)⟩) ?_
      simp only [RD, RelD]
      exact ⟨Nat.lt_succ_self _, by rw [ioN_self]⟩
    · exact p.elim

/-! ### subscripts -/
def ixD (i : Int) (ds : List D) : Option D := atI ds i
def opIx : O2 := fun x y m => match view m x, view m y with
  | .tup ds, .int i => atI ds i
  | .lst ds, .int i => atI ds i
  | .scr ns, .int i => (atI ns i).map D.int
  | .str z, .int i => if z.length ≤ sizeLine then (atI z.cps.toList i).map fun c => .str ⟨#[c]⟩ else none
  | .dk ks ds, w => (match keyOf w with
    | some k => look ks ds k
    | none => none)
  | .dt ks ds, .tup es => (match ikeysOf es with
    | some k => look ks ds k
    | none => none)
  | _, _ => none
theorem atI_rel {K : PySem.W.Frag} {io : Nat → Addr} {F : Addr → Prop} {n : Nat} {H : Hp} {ds : List D} {vs : List V} {i : Int} {d : D} (r : RelDs K io F n H ds vs) (e : atI ds i = some d) : ∃ v, atI vs i = some v ∧ RelD K io F n H d v := by
  unfold atI at e ⊢
  rw [← r.len]
  cases q : ixN ds.length i with
  | none => rw [q] at e; cases e
  | some j =>
    rw [q] at e
    exact r.get e
theorem atI_map {α β : Type} (f : α → β) (xs : List α) (i : Int) : atI (xs.map f) i = (atI xs i).map f := by
  unfold atI
  rw [List.length_map]
  cases ixN xs.length i with
  | none => rfl
  | some j => simp
theorem opIx_inv {x y z : D} {m : Mem} (h : opIx x y m = some z) :
    (∃ ds i, view m x = .tup ds ∧ view m y = .int i ∧ atI ds i = some z) ∨ (∃ ds i, view m x = .lst ds ∧ view m y = .int i ∧ atI ds i = some z) ∨
    (∃ ns i j, view m x = .scr ns ∧ view m y = .int i ∧ atI ns i = some j ∧ z = .int j) ∨ (∃ s i c, view m x = .str s ∧ view m y = .int i ∧ s.length ≤ sizeLine ∧ atI s.cps.toList i = some c ∧ z = .str ⟨#[c]⟩) ∨
    (∃ ks ds k, view m x = .dk ks ds ∧ keyOf (view m y) = some k ∧ look ks ds k = some z) ∨ (∃ ks ds es k, view m x = .dt ks ds ∧ view m y = .tup es ∧ ikeysOf es = some k ∧ look ks ds k = some z) := by
  unfold opIx at h
  split at h
  · exact .inl ⟨_, _, ‹_›, ‹_›, h⟩
  · exact .inr (.inl ⟨_, _, ‹_›, ‹_›, h⟩)
  · rw [Option.map_eq_some_iff] at h
    obtain ⟨j, h, rfl⟩ := h
    exact .inr (.inr (.inl ⟨_, _, j, ‹_›, ‹_›, h, rfl⟩))
  · split at h
    · rw [Option.map_eq_some_iff] at h
      obtain ⟨j, h, rfl⟩ := h
      exact .inr (.inr (.inr (.inl ⟨_, _, j, ‹_›, ‹_›, ‹_›, h, rfl⟩)))
    · cases h
  · split at h
    · exact .inr (.inr (.inr (.inr (.inl ⟨_, _, _, ‹_›, ‹_›, h⟩))))
    · cases h
  · split at h
    · exact .inr (.inr (.inr (.inr (.inr ⟨_, _, _, _, ‹_›, ‹_›, ‹_›, h⟩))))
    · cases h
  · cases h
/-- the item at values -/
theorem ix_get (hu : X.A.units + 65 < cLine) {value slice : Expr} {pins : List (Addr × Obj)} {s : Shared} {σ : L2.St} {H : Hp} {x y : V} {v u : Value} {Q : VK} (I : L2.Inv X pins σ H s) (rx : RelV x v) (ry : RelV y u)
    (h : rD (ctOf X) opIx x y H Q) (hs : subscripted slice false v u = operate [v, u] (getItem v u)) : wpAny (model X.prog X.w) X.A (subscriptTail value slice v u) (EP X pins σ Q) X.xe s := by
  obtain ⟨io, F, m, d, e, S, rd, re, z, hz, k⟩ := h
  rcases opIx_inv hz with ⟨ds, i, e1, e2, g0⟩ | ⟨ds, i, e1, e2, g0⟩ | ⟨ns, i, j, e1, e2, g0, rfl⟩ | ⟨t, i, c, e1, e2, hl, g0, rfl⟩ | ⟨ks, ds, kk, e1, e2, g0⟩ | ⟨ks, ds, es, kk, e1, e2, e3, g0⟩
  · obtain ⟨a, xs, rfl, t, q⟩ := is_tup rd e1
    obtain ⟨w, hw, rw_⟩ := atI_rel q g0
    exact ix_tup _ _ pins s σ H _ _ v u Q I rx ry ⟨a, xs, i, w, rfl, is_int re e2, t.sq, hw, k.now S rw_⟩ hs
  · obtain ⟨a, xs, rfl, t, q⟩ := at_lst S rd e1
    obtain ⟨w, hw, rw_⟩ := atI_rel q g0
    exact ix_list _ _ pins s σ H _ _ v u Q I rx ry ⟨a, xs, i, w, rfl, is_int re e2, .inl (.inl t), hw, k.now S rw_⟩ hs
  · obtain ⟨a, rfl, t⟩ := is_scr rd e1
    exact ix_list _ _ pins s σ H _ _ v u Q I rx ry ⟨a, _, i, .int j, rfl, is_int re e2, t.sq, by rw [atI_map, g0]; rfl, k.now S (by simp only [RelD])⟩ hs
  · exact ix_str _ _ pins s σ H _ _ v u Q I rx ry ⟨t, i, c, is_str rd e1, is_int re e2, hl, g0, k.now S (by simp only [RelD])⟩ hs
  · obtain ⟨a, o, rfl, g, h1, h2⟩ := dget S re rd e1 e2
    obtain ⟨w, rfl, rw_⟩ := h1 z g0
    obtain rfl : v = Value.ref a := rx
    refine tail_any (dict_typeIs I g) PySem.F.slot_dict_getitem.lookup ?_ hs
    exact d_getItem (Nat.lt_of_le_of_lt (by omega) hu) I g ry fun w' s3 I3 rw' => ⟨w, H, I3, rw', k.now S rw_⟩
  · obtain ⟨a, o, rfl, g, h1, h2⟩ := dgetT S re rd e1 e2 e3
    obtain ⟨w, rfl, rw_⟩ := h1 z g0
    obtain rfl : v = Value.ref a := rx
    refine tail_any (dict_typeIs I g) PySem.F.slot_dict_getitem.lookup ?_ hs
    exact d_getItem (Nat.lt_of_le_of_lt (by omega) hu) I g ry fun w' s3 I3 rw' => ⟨w, H, I3, rw', k.now S rw_⟩
theorem d_ix (hh : Here k W X) (ha : PE X a (tE (ctOf X) W ca)) (hb : PE X b (tE (ctOf X) W cb)) (hs : PlainIx b := by exact fun _ _ => rfl) : PE X (.Subscript a b pos) (tE (ctOf X) W (mOp opIx ca cb)) :=
  pe_imp (pe_ix (r := rD (ctOf X) opIx) (fun value slice pins s σ H x y v u Q I rx ry h hs => ix_get hh.hu I rx ry h hs) ha hb hs) fun σ H Q h => tOp_of h
end
end Ev

set_option Elab.async false
set_option linter.all false
set_option maxRecDepth 100000
set_option autoImplicit false
/-! Ev6: built-ins, displays of dicts, slices. -/
namespace Ev
open PySem PySem.Spec PyProof.Rows L2
section
variable {X : Cx} {k : Nat} {W : WT} {a b c e : Expr} {es rest : List Expr} {p pos : Pos} {ca cb cc : ME} {cA : MA} {x : Str}

/-! ### built-ins by values -/
abbrev OL := List D → Mem → Option D
def mCB (f : OL) (a : MA) : ME := fun s m => (a s m).bind fun ds m1 => Res.of (f ds m1) m1
def rC (T : Ct) (f : OL) : List V → Hp → VK → Prop := fun xs H Q => ∃ io F m ds, Sim T io F m H ∧ RelDs T.K io F m.nx H ds xs ∧ ∃ z, f ds m = some z ∧ Then T io F m H z Q
theorem tCB_of {f : OL} {σ : L2.St} {H : Hp} {Q : VK} (h : tE (ctOf X) W (mCB f cA) σ H Q) : tCB (rC (ctOf X) f) (tA (ctOf X) W cA) σ H Q := by
  refine (tG.bind (R := RDs (ctOf X)) (c := cA) (k := fun ds s m1 => Res.of (f ds m1) m1) h).imp fun xs H1 h2 => ?_
  obtain ⟨io, F, m, sd, ds, S, rs, r, p⟩ := h2
  obtain ⟨z, hz, kk⟩ := p.of_
  exact ⟨io, F, m, ds, S, r, z, hz, kk⟩
theorem d_cb {f : OL} {id : String} (hc : CallR X (.builtin id) (rC (ctOf X) f)) (hg : Gl X x) (hm : X.mg x = none) (hv : bootBuiltins x = some (.builtin id)) (ha : PA X (e :: es) (tA (ctOf X) W cA)) (hn : x ≠ "__name__" := by decide)
    (hdb : (x == ("__debug__" : Str)) = false := by decide) (he : starEach (e :: es) X.env = (false, eval e X.env) :: starEach es X.env := by rfl) (hpl : (backTo pos (starEach es X.env)).any (·.1) = false := by rfl) :
    PE X (.Call (.Name x p) (e :: es) [] pos) (tE (ctOf X) W (mCB f cA)) := pe_imp (pe_callB hc hg hm hv ha hn hdb he hpl) fun σ H Q h => tCB_of h
theorem d_ct {f : OL} {ty : String} (hc : CallR X (.type ty) (rC (ctOf X) f)) (hg : Gl X x) (hm : X.mg x = none) (hv : bootBuiltins x = some (.type ty)) (ha : PA X (e :: es) (tA (ctOf X) W cA)) (hn : x ≠ "__name__" := by decide)
    (hdb : (x == ("__debug__" : Str)) = false := by decide) (he : starEach (e :: es) X.env = (false, eval e X.env) :: starEach es X.env := by rfl) (hpl : (backTo pos (starEach es X.env)).any (·.1) = false := by rfl) :
    PE X (.Call (.Name x p) (e :: es) [] pos) (tE (ctOf X) W (mCB f cA)) := pe_imp (pe_callTy hc hg hm hv ha hn hdb he hpl) fun σ H Q h => tCB_of h

theorem one_rel {K : PySem.W.Frag} {io : Nat → Addr} {F : Addr → Prop} {n : Nat} {H : Hp} {d : D} {xs : List V} (r : RelDs K io F n H [d] xs) : ∃ v, xs = [v] ∧ RelD K io F n H d v := by
  cases xs with
  | nil => simp only [RelDs] at r
  | cons v vs =>
    cases vs with
    | nil => simp only [RelDs] at r; exact ⟨v, rfl, r.1⟩
    | cons _ _ =>
      simp only [RelDs] at r
      exact r.2.elim
theorem two_rel {K : PySem.W.Frag} {io : Nat → Addr} {F : Addr → Prop} {n : Nat} {H : Hp} {d e : D} {xs : List V} (r : RelDs K io F n H [d, e] xs) : ∃ v u, xs = [v, u] ∧ RelD K io F n H d v ∧ RelD K io F n H e u := by
  cases xs with
  | nil => simp only [RelDs] at r
  | cons v vs =>
    simp only [RelDs] at r
    obtain ⟨u, rfl, r2⟩ := one_rel (d := e) (xs := vs) r.2
    exact ⟨v, u, rfl, r.1, r2⟩
/-- len -/
def opLen : OL := fun ds m => match ds with
  | [x] => (match view m x with
    | .str z => if z.length ≤ sizeLine then some (.int z.length) else none
    | .tup ds => some (.int ds.length)
    | .lst ds => some (.int ds.length)
    | .scr ns => some (.int ns.length)
    | .dk ks ds => (match x with
      | .ref i => some (.int ks.length)
      | _ => none)
    | _ => none)
  | _ => none
theorem c_len : CallR X (.builtin "len") (rC (ctOf X) opLen) := by
  intro pins s σ H xs us Q I rx h
  obtain ⟨io, F, m, ds, S, r, z, hz, kk⟩ := h
  unfold opLen at hz
  split at hz
  · rename_i d
    obtain ⟨v, rfl, rv⟩ := one_rel r
    split at hz
    · rename_i t e1
      split at hz
      · rename_i hl
        cases hz
        exact call_len pins s σ H _ us Q I rx ⟨v, t.length, rfl, by rw [is_str rv e1]; exact ⟨hl, rfl⟩, kk.now S (by simp only [RelD])⟩
      · cases hz
    · rename_i t e1
      cases hz
      obtain ⟨a, xs, rfl, tt, q⟩ := is_tup rv e1
      exact call_len pins s σ H _ us Q I rx ⟨_, t.length, rfl, .inr ⟨xs, tt.sq, q.len⟩, kk.now S (by simp only [RelD])⟩
    · rename_i t e1
      cases hz
      obtain ⟨a, xs, rfl, tt, q⟩ := at_lst S rv e1
      exact call_len pins s σ H _ us Q I rx ⟨_, t.length, rfl, .inl ⟨xs, .inl (.inl tt), q.len⟩, kk.now S (by simp only [RelD])⟩
    · rename_i t e1
      cases hz
      obtain ⟨a, rfl, tt⟩ := is_scr rv e1
      exact call_len pins s σ H _ us Q I rx ⟨_, t.length, rfl, .inl ⟨_, tt.sq, by rw [List.length_map]⟩, kk.now S (by simp only [RelD])⟩
    · rename_i ks ds e1
      split at hz
      · rename_i i
        cases hz
        rw [view_ref] at e1
        cases q : m.ob i with
        | none => rw [q] at e1; cases e1
        | some u =>
          rw [q] at e1
          cases u with
          | dk ks' ds' =>
            cases e1
            obtain ⟨kvs, h1, h2, h3⟩ := S.ob i _ q
            simp only [RelD] at rv
            refine call_lenD pins s σ H _ us Q I rx ⟨io i, kvs, by rw [rv.2], h1, ?_⟩
            have : kvs.length = ks.length := by rw [← h2, List.length_map]
            rw [this]
            exact kk.now S (by simp only [RelD])
          | lst _ => cases e1
          | dt _ _ => cases e1
          | ins _ _ => cases e1
          | exn _ _ => cases e1
      · cases hz
    · cases hz
  · cases hz
/-- abs -/
def opAbs : OL := fun ds m => match ds with
  | [x] => (match view m x with
    | .int i => some (.int (if i < 0 then -i else i))
    | _ => none)
  | _ => none
theorem c_abs : CallR X (.builtin "abs") (rC (ctOf X) opAbs) := by
  intro pins s σ H xs us Q I rx h
  obtain ⟨io, F, m, ds, S, r, z, hz, kk⟩ := h
  unfold opAbs at hz
  split at hz
  · obtain ⟨v, rfl, rv⟩ := one_rel r
    split at hz
    · rename_i i e1
      cases hz
      exact call_abs pins s σ H _ us Q I rx ⟨i, by rw [is_int rv e1], kk.now S (by simp only [RelD])⟩
    · cases hz
  · cases hz
/-- int of an int, a truth, a text -/
def opInt1 : OL := fun ds m => match ds with
  | [x] => (match view m x with
    | .int i => some (.int i)
    | .bl b => some (.int (if b = true then 1 else 0))
    | .str z => if z.length ≤ 640 then (intText? z).map D.int else none
    | _ => none)
  | _ => none
theorem c_int : CallR X (.type "int") (rC (ctOf X) opInt1) := by
  intro pins s σ H xs us Q I rx h
  obtain ⟨io, F, m, ds, S, r, z, hz, kk⟩ := h
  unfold opInt1 at hz
  split at hz
  · obtain ⟨v, rfl, rv⟩ := one_rel r
    split at hz
    · rename_i i e1
      cases hz
      exact call_int1 pins s σ H _ us Q I rx (.inl ⟨i, by rw [is_int rv e1], kk.now S (by simp only [RelD])⟩)
    · rename_i i e1
      cases hz
      exact call_int1 pins s σ H _ us Q I rx (.inr ⟨i, by rw [is_bl rv e1], kk.now S (by simp only [RelD])⟩)
    · rename_i t e1
      split at hz
      · rename_i hl
        rw [Option.map_eq_some_iff] at hz
        obtain ⟨n, hn, rfl⟩ := hz
        exact call_int_str pins s σ H _ us Q I rx ⟨t, n, by rw [is_str rv e1], hn, hl, kk.now S (by simp only [RelD])⟩
      · cases hz
    · cases hz
  · cases hz
/-- str of an int -/
def opStr : OL := fun ds m => match ds with
  | [x] => (match view m x with
    | .int i => if i.natAbs.log2 < 1920 then some (.str (Str.ofString (toString i))) else none
    | _ => none)
  | _ => none
theorem c_str : CallR X (.type "str") (rC (ctOf X) opStr) := by
  intro pins s σ H xs us Q I rx h
  obtain ⟨io, F, m, ds, S, r, z, hz, kk⟩ := h
  unfold opStr at hz
  split at hz
  · obtain ⟨v, rfl, rv⟩ := one_rel r
    split at hz
    · rename_i i e1
      split at hz
      · rename_i hl
        cases hz
        exact call_str_int pins s σ H _ us Q I rx ⟨i, by rw [is_int rv e1], hl, kk.now S (by simp only [RelD])⟩
      · cases hz
    · cases hz
  · cases hz
/-- list, tuple of a list or tuple -/
theorem ints_rel (K : PySem.W.Frag) (io : Nat → Addr) (F : Addr → Prop) (n : Nat) (H : Hp) : ∀ ns : List Int, RelDs K io F n H (ns.map D.int) (ns.map V.int)
  | [] => by simp only [List.map_nil, RelDs]
  | i :: r => by simp only [List.map_cons, RelDs, RelD]; exact ⟨trivial, ints_rel K io F n H r⟩
def opList : OL := fun ds m => match ds with
  | [x] => (match view m x with
    | .tup ds => some (.lst ds)
    | .lst ds => some (.lst ds)
    | .scr ns => some (.lst (ns.map D.int))
    | _ => none)
  | _ => none
theorem c_list : CallR X (.type "list") (rC (ctOf X) opList) := by
  intro pins s σ H xs us Q I rx h
  obtain ⟨io, F, m, ds, S, r, z, hz, kk⟩ := h
  unfold opList at hz
  split at hz
  · obtain ⟨v, rfl, rv⟩ := one_rel r
    split at hz
    · rename_i t e1
      cases hz
      obtain ⟨a, xs, rfl, tt, q⟩ := is_tup rv e1
      exact call_list_of pins s σ H _ us Q I rx ⟨a, xs, rfl, .inr tt.sq, fun l hl => kk.newL S hl q⟩
    · rename_i t e1
      cases hz
      obtain ⟨a, xs, rfl, tt, q⟩ := at_lst S rv e1
      exact call_list_of pins s σ H _ us Q I rx ⟨a, xs, rfl, .inl (.inl (.inl tt)), fun l hl => kk.newL S hl q⟩
    · rename_i t e1
      cases hz
      obtain ⟨a, rfl, tt⟩ := is_scr rv e1
      exact call_list_of pins s σ H _ us Q I rx ⟨a, _, rfl, .inl tt.sq, fun l hl => kk.newL S hl (ints_rel _ _ _ _ _ _)⟩
    · cases hz
  · cases hz
def opTuple : OL := fun ds m => match ds with
  | [x] => (match view m x with
    | .tup ds => some (.tup ds)
    | .lst ds => some (.tup ds)
    | _ => none)
  | _ => none
theorem c_tuple : CallR X (.type "tuple") (rC (ctOf X) opTuple) := by
  intro pins s σ H xs us Q I rx h
  obtain ⟨io, F, m, ds, S, r, z, hz, kk⟩ := h
  unfold opTuple at hz
  split at hz
  · obtain ⟨v, rfl, rv⟩ := one_rel r
    split at hz
    · rename_i t e1
      cases hz
      obtain ⟨a, xs, rfl, tt, q⟩ := is_tup rv e1
      exact call_tuple_of pins s σ H _ us Q I rx ⟨a, xs, rfl, .inr ⟨tt.sq, kk.now S (by simp only [RelD]; exact ⟨a, xs, rfl, tt, q⟩)⟩⟩
    · rename_i t e1
      cases hz
      obtain ⟨a, xs, rfl, tt, q⟩ := at_lst S rv e1
      exact call_tuple_of pins s σ H _ us Q I rx ⟨a, xs, rfl, .inl ⟨.inl (.inl tt), fun l hl => kk.newT S hl q⟩⟩
    · cases hz
  · cases hz
/-- isinstance(x, T), T a built-in type -/
def tyD (m : Mem) (x : D) : Option String := match view m x with
  | .non => some "NoneType"
  | .bl _ => some "bool"
  | .int _ => some "int"
  | .str _ => some "str"
  | .tup _ => some "tuple"
  | .lst _ => some "list"
  | .scr _ => some "list"
  | .dk _ _ => some "dict"
  | _ => none
def opIsi (ty : String) : O1 := fun x m => match tyD m x with
  | some n => (kitB n ty).map D.bl
  | none => none
theorem ty_rel {T : Ct} {io : Nat → Addr} {F : Addr → Prop} {m : Mem} {H : Hp} {d : D} {v : V} {n : String} (S : Sim T io F m H) (r : RelD T.K io F m.nx H d v) (e : tyD m d = some n) : TyX T.K H v (.type n) := by
  unfold tyD at e
  split at e
  · rename_i e1
    cases e
    rcases view_inv e1 with ⟨j, rfl⟩ | rfl
    · rcases view_ref_ne e1 with ⟨_, z⟩ | ⟨_, _, z⟩ | ⟨_, _, z⟩ | z <;> cases z
    · simp only [RelD] at r; subst r; exact .base .non
  · rename_i b e1; cases e; rw [is_bl r e1]; exact .base (.bl b)
  · rename_i b e1; cases e; rw [is_int r e1]; exact .base (.int b)
  · rename_i b e1; cases e; rw [is_str r e1]; exact .base (.str b)
  · rename_i b e1
    cases e
    obtain ⟨a, xs, rfl, t, q⟩ := is_tup r e1
    rcases t with ⟨_, t⟩ | ⟨⟨o, its, n, h1, h2, _⟩, _⟩
    · exact .base (.tup t)
    · exact .kTuple h1 h2
  · rename_i b e1
    cases e
    obtain ⟨a, xs, rfl, t, q⟩ := at_lst S r e1
    exact .base (.lst t)
  · rename_i b e1
    cases e
    obtain ⟨a, rfl, t⟩ := is_scr r e1
    exact t.ty
  · rename_i b _ e1
    cases e
    obtain ⟨a, kvs, rfl, t, q⟩ := at_dk S r e1
    rcases t with t | ⟨o, t⟩
    · exact .base (.dK t)
    · exact .fDict t
  · cases e
theorem d_isi {ty : String} {tn : Str} {p2 : Pos} (hg : Gl X "isinstance") (hm : X.mg "isinstance" = none) (hg2 : Gl X tn) (hm2 : X.mg tn = none) (hv2 : bootBuiltins tn = some (.type ty)) (ha : PE X e (tE (ctOf X) W ca))
    (hn : tn ≠ "__name__" := by decide) (hdb : (tn == ("__debug__" : Str)) = false := by decide) (he : starEach [e, .Name tn p2] X.env = (false, eval e X.env) :: starEach [.Name tn p2] X.env := by rfl)
    (he2 : starEach [.Name tn p2] X.env = (false, eval (.Name tn p2) X.env) :: starEach [] X.env := by rfl) (hpl : (backTo pos (starEach [.Name tn p2] X.env)).any (·.1) = false := by rfl) :
    PE X (.Call (.Name "isinstance" p) [e, .Name tn p2] [] pos) (tE (ctOf X) W (mO1 (opIsi ty) ca)) :=
  pe_imp (pe_callB call_isi hg hm boot_isinstance (pa_cons ha (pa_cons (pe_bltn (v := .ty ty) hg2 hm2 hv2 rfl hn hdb) pa_nil he2) he) (by decide) (by decide) he hpl) fun σ H Q h => (tO1_of h).imp fun x H1 h2 => by
    obtain ⟨io, F, m, d, S, r, z, hz, kk⟩ := h2
    unfold opIsi at hz
    split at hz
    · rename_i n e1
      rw [Option.map_eq_some_iff] at hz
      obtain ⟨bb, hb, rfl⟩ := hz
      exact ⟨x, .ty ty, .type n, .type ty, bb, rfl, .ty ty, ty_rel S r e1, kit_ty hb, kk.now S (by simp only [RelD])⟩
    · cases hz
/-- repr -/
def opRepr : OL := fun ds m => match ds with
  | [x] => (match toPy (view m x) with
    | some q => if PyData.showable q = true ∧ SeqAt.shaped q = true ∧ (PyData.shown q).length ≤ sizeLine then some (.str (PyData.shown q)) else none
    | none => none)
  | _ => none
theorem shaped_dict {q : PyData} (h : SeqAt.shaped q = true) : PyData.hasDict q = false := by
  have := SeqAt.canLay_of_shaped h
  exact PyData.hasDict_of_canLay q this
theorem c_repr (hh : Here k W X) : CallR X (.builtin "repr") (rC (ctOf X) opRepr) := by
  intro pins s σ H xs us Q I rx h
  obtain ⟨io, F, m, ds, S, r, z, hz, kk⟩ := h
  unfold opRepr at hz
  split at hz
  · rename_i d
    obtain ⟨v, rfl, rv⟩ := one_rel r
    split at hz
    · rename_i q e1
      split at hz
      · rename_i hs
        obtain ⟨s1, s2, s3⟩ := hs
        cases hz
        have hd := topDp S rv e1
        have fin := kk.now S (v := .str (PyData.shown q)) (by simp only [RelD])
        cases rx with
        | cons r1 r2 =>
          rename_i u us'
          cases r2
          obtain ⟨as, rd⟩ := Dp.reads I q v _ hd r1
          have hdep : PyData.depth q ≤ 64 := by
            have := s2
            unfold SeqAt.shaped at this
            simp only [Bool.and_eq_true, decide_eq_true_eq] at this
            exact this.2
          have hu := hh.rm.un
          cases hd with
          | non =>
            cases r1
            exact PySem.P.repr_of_none ⟨.str _, H, I.tok _, ⟨_, rfl⟩, fin⟩
          | bl bb =>
            cases r1
            refine PySem.P.repr_of_bool ⟨.str _, H, I.tok _, ⟨_, rfl⟩, ?_⟩
            cases bb <;> exact fin
          | int i =>
            obtain ⟨t, rfl⟩ := r1
            simp only [PyData.showable, decide_eq_true_eq] at s1
            exact PySem.P.repr_of_int s1 ⟨.str _, H, I.tok _, ⟨_, rfl⟩, fin⟩
          | str t =>
            obtain ⟨tk, rfl⟩ := r1
            exact PySem.P.repr_of_str ⟨.str _, H, I.tok _, ⟨_, rfl⟩, fin⟩ s3
          | lst h1 h2 =>
            cases r1
            exact PySem.repr_of_reads' rd s1 (fun z => by rw [shaped_dict s2] at z; cases z) hh.gd (by omega) (fun _ _ e => e) (fun h' u tk hk => ⟨.str _, H, I.kept (t' := tk) hk, ⟨_, rfl⟩, fin⟩) s3
          | tup h1 h2 =>
            cases r1
            exact PySem.repr_of_reads' rd s1 (fun z => by rw [shaped_dict s2] at z; cases z) hh.gd (by omega) (fun _ _ e => e) (fun h' u tk hk => ⟨.str _, H, I.kept (t' := tk) hk, ⟨_, rfl⟩, fin⟩) s3
      · cases hz
    · cases hz
  · cases hz

/-! ### displays of dicts -/
abbrev MP := Slots → Mem → Res (List (D × D))
def mPn : MP := fun _ m => .ok [] m
def mPc (a b : ME) (r : MP) : MP := fun s m => (a s m).bind fun x m1 => (b s m1).bind fun y m2 => (r s m2).bind fun ps m3 => .ok ((x, y) :: ps) m3
def RelPs (K : PySem.W.Frag) (io : Nat → Addr) (F : Addr → Prop) (n : Nat) (H : Hp) : List (D × D) → List (V × V) → Prop
  | [], [] => True
  | d :: ds, v :: vs => (RelD K io F n H d.1 v.1 ∧ RelD K io F n H d.2 v.2) ∧ RelPs K io F n H ds vs
  | _, _ => False
abbrev RPs (T : Ct) : RelT (List (D × D)) (List (V × V)) := fun io F n H a b => RelPs T.K io F n H a b
/-- the pairs of a display -/
structure DPs (X : Cx) (W : WT) (pos : Pos) (keys : List (Option Expr)) (values : List Expr) (cp : MP) : Prop where
  ex : ∃ trs, PPs X pos keys values trs ∧ ∀ σ H Q, tG (RPs (ctOf X)) (ctOf X) W cp σ H Q → tPairs trs σ H Q
theorem d_pn : DPs X W pos [] [] mPn := ⟨[], pps_nil, fun σ H Q h => by
  obtain ⟨io, F, m, sd, S, rs, p⟩ := h
  exact Post.now (R := RPs (ctOf X)) S p (by simp only [RelPs])⟩
theorem d_pc {ks : List (Option Expr)} {vs : List Expr} {cp : MP} (ha : PE X a (tE (ctOf X) W ca)) (hb : PE X b (tE (ctOf X) W cb)) (hr : DPs X W pos ks vs cp) : DPs X W pos (some a :: ks) (b :: vs) (mPc ca cb cp) := by
  obtain ⟨trs, h1, h2⟩ := hr.ex
  refine ⟨(tE (ctOf X) W ca, tE (ctOf X) W cb) :: trs, pps_cons ha hb h1, fun σ H Q h => ?_⟩
  show tE (ctOf X) W ca σ H fun kk H1 => tE (ctOf X) W cb σ H1 fun v H2 => tPairs trs σ H2 fun ps H3 => Q ((kk, v) :: ps) H3
  refine (tG.bind (R := RD (ctOf X)) (c := ca) (k := fun x s m1 => (cb s m1).bind fun y m2 => (cp s m2).bind fun ps m3 => .ok ((x, y) :: ps) m3) h).imp fun x H1 h3 => ?_
  refine (tK.bind (R := RD (ctOf X)) (monoD _) h3).imp fun y H2 h4 => ?_
  refine h2 _ _ _ ((tK.bind (R := RPs (ctOf X)) (monoP (monoD _) (monoD _)) h4).imp fun ps H3 h5 => ?_)
  obtain ⟨io, F, m, sd, ⟨⟨d, e⟩, qs⟩, S, rs, ⟨⟨r1, r2⟩, r3⟩, p⟩ := h5
  exact Post.now (R := RPs (ctOf X)) S p (by simp only [RelPs]; exact ⟨⟨r1, r2⟩, r3⟩)
/-- the entries that such pairs make -/
def dictK : List (D × D) → Option (List (Key × D))
  | [] => some []
  | (k, d) :: r => match keyOf k, dictK r with
    | some x, some ps => some ((x, d) :: ps)
    | _, _ => none
def putD {κ : Type} [DecidableEq κ] (kvs : List (κ × D)) (k : κ) (v : D) : List (κ × D) :=
  if (kvs.any fun kv => decide (kv.1 = k)) = true then kvs.map fun kv => if kv.1 = k then (kv.1, v) else kv else kvs ++ [(k, v)]
def mergeD (kvs more : List (Key × D)) : List (Key × D) := more.foldl (fun acc kv => putD acc kv.1 kv.2) kvs
/-- entries, side by side -/
def RelE {κ : Type} (K : PySem.W.Frag) (io : Nat → Addr) (F : Addr → Prop) (n : Nat) (H : Hp) : List (κ × D) → List (κ × V) → Prop
  | [], [] => True
  | d :: ds, v :: vs => (d.1 = v.1 ∧ RelD K io F n H d.2 v.2) ∧ RelE K io F n H ds vs
  | _, _ => False
section
variable {κ : Type} {K : PySem.W.Frag} {io : Nat → Addr} {F : Addr → Prop} {n : Nat} {H : Hp}
theorem RelE.split : ∀ {ds : List (κ × D)} {vs : List (κ × V)}, RelE K io F n H ds vs → vs.map (·.1) = ds.map (·.1) ∧ RelDs K io F n H (ds.map (·.2)) (vs.map (·.2))
  | [], [], _ => ⟨rfl, by simp only [List.map_nil, RelDs]⟩
  | [], _ :: _, h => by simp only [RelE] at h
  | _ :: _, [], h => by simp only [RelE] at h
  | d :: ds, v :: vs, h => by
    simp only [RelE] at h
    obtain ⟨h1, h2⟩ := RelE.split h.2
    simp only [List.map_cons, RelDs]
    exact ⟨by rw [h1, h.1.1], h.1.2, h2⟩
theorem RelE.join : ∀ {ds : List (κ × D)} {vs : List (κ × V)}, vs.map (·.1) = ds.map (·.1) → RelDs K io F n H (ds.map (·.2)) (vs.map (·.2)) → RelE K io F n H ds vs
  | [], [], _, _ => by simp only [RelE]
  | [], _ :: _, h, _ => by cases h
  | _ :: _, [], h, _ => by cases h
  | d :: ds, v :: vs, h, r => by
    simp only [List.map_cons, RelDs] at r
    simp only [List.map_cons, List.cons.injEq] at h
    simp only [RelE]
    exact ⟨⟨h.1.symm, r.1⟩, RelE.join h.2 r.2⟩
theorem RelE.app : ∀ {ds es : List (κ × D)} {vs ws : List (κ × V)}, RelE K io F n H ds vs → RelE K io F n H es ws → RelE K io F n H (ds ++ es) (vs ++ ws)
  | [], _, [], _, _, k => k
  | [], _, _ :: _, _, h, _ => by simp only [RelE] at h
  | _ :: _, _, [], _, h, _ => by simp only [RelE] at h
  | _ :: ds, _, _ :: vs, _, h, k => by
    simp only [RelE] at h
    simp only [List.cons_append, RelE]
    exact ⟨h.1, RelE.app h.2 k⟩
variable [DecidableEq κ]
theorem RelE.any {k : κ} : ∀ {ds : List (κ × D)} {vs : List (κ × V)}, RelE K io F n H ds vs → (ds.any fun kv => decide (kv.1 = k)) = (vs.any fun kv => decide (kv.1 = k))
  | [], [], _ => rfl
  | [], _ :: _, h => by simp only [RelE] at h
  | _ :: _, [], h => by simp only [RelE] at h
  | d :: ds, v :: vs, h => by
    simp only [RelE] at h
    simp only [List.any_cons, RelE.any h.2, h.1.1]
theorem RelE.repl {k : κ} {d : D} {v : V} (r : RelD K io F n H d v) : ∀ {ds : List (κ × D)} {vs : List (κ × V)}, RelE K io F n H ds vs → RelE K io F n H (ds.map fun kv => if kv.1 = k then (kv.1, d) else kv) (vs.map fun kv => if kv.1 = k then (kv.1, v) else kv)
  | [], [], _ => by simp only [List.map_nil, RelE]
  | [], _ :: _, h => by simp only [RelE] at h
  | _ :: _, [], h => by simp only [RelE] at h
  | e :: ds, u :: vs, h => by
    simp only [RelE] at h
    simp only [List.map_cons, RelE]
    refine ⟨?_, RelE.repl r h.2⟩
    rw [h.1.1]
    by_cases hk : u.1 = k
    · simp only [if_pos hk]; exact ⟨trivial, r⟩
    · simp only [if_neg hk]; exact h.1
theorem RelE.put {k : κ} {d : D} {v : V} {ds : List (κ × D)} {vs : List (κ × V)} (h : RelE K io F n H ds vs) (r : RelD K io F n H d v) : RelE K io F n H (putD ds k d) (putK vs k v) := by
  unfold putD putK
  rw [h.any]
  split
  · exact h.repl r
  · exact h.app (by simp only [RelE]; exact ⟨⟨trivial, r⟩, trivial⟩)
end
theorem RelE.merge {K : PySem.W.Frag} {io : Nat → Addr} {F : Addr → Prop} {n : Nat} {H : Hp} : ∀ {es : List (Key × D)} {ws : List (Key × V)} {ds : List (Key × D)} {vs : List (Key × V)}, RelE K io F n H ds vs → RelE K io F n H es ws → RelE K io F n H (mergeD ds es) (mergeK vs ws)
  | [], [], ds, vs, h, _ => h
  | [], _ :: _, _, _, _, h => by simp only [RelE] at h
  | _ :: _, [], _, _, _, h => by simp only [RelE] at h
  | e :: es, w :: ws, ds, vs, h, r => by
    simp only [RelE] at r
    unfold mergeD mergeK
    rw [List.foldl_cons, List.foldl_cons, r.1.1]
    exact RelE.merge (h.put r.1.2) r.2
theorem dictK_rel {K : PySem.W.Frag} {io : Nat → Addr} {F : Addr → Prop} {n : Nat} {H : Hp} : ∀ {ds : List (D × D)} {vs : List (V × V)} {ps : List (Key × D)}, RelPs K io F n H ds vs → dictK ds = some ps → ∃ ws : List (Key × V), vs = ws.map (fun kv => (kV kv.1, kv.2)) ∧ RelE K io F n H ps ws
  | [], [], ps, _, e => by simp only [dictK, Option.some.injEq] at e; subst e; exact ⟨[], rfl, by simp only [RelE]⟩
  | [], _ :: _, _, r, _ => by simp only [RelPs] at r
  | _ :: _, [], _, r, _ => by simp only [RelPs] at r
  | (kk, d) :: ds, v :: vs, ps, r, e => by
    simp only [RelPs] at r
    unfold dictK at e
    split at e
    · rename_i x qs e1 e2
      cases e
      obtain ⟨ws, rfl, h2⟩ := dictK_rel r.2 e2
      refine ⟨(x, v.2) :: ws, ?_, ?_⟩
      · rw [List.map_cons, ← keyOf_rel r.1.1 e1]
      · simp only [RelE]; exact ⟨⟨trivial, r.1.2⟩, h2⟩
    · cases e
def mDict (p : MP) : ME := fun s m => (p s m).bind fun ps m1 => match dictK ps with
  | some es => if es.length ≤ 15 then .ok (.dk ((mergeD [] es).map (·.1)) ((mergeD [] es).map (·.2))) m1 else .bad
  | none => .bad
def mNewD (p : MP) : ME := fun s m => (p s m).bind fun ps m1 => match dictK ps with
  | some es => if es.length ≤ 15 then .ok (.ref m1.nx) (m1.add (.dk ((mergeD [] es).map (·.1)) ((mergeD [] es).map (·.2)))) else .bad
  | none => .bad
theorem d_dict {keys : List (Option Expr)} {values : List Expr} {cp : MP} (h : DPs X W pos keys values cp) (h1 : (keys.all fun x => x.isSome) = true := by rfl) (h2 : keys.length = values.length := by rfl) (h3 : keys ≠ [] := by exact fun z => by cases z) (h4 : keys.length ≤ 15 := by decide) :
    PE X (.Dict keys values pos) (tE (ctOf X) W (mDict cp)) := by
  obtain ⟨trs, hp, hr⟩ := h.ex
  refine pe_imp (pe_disp hp h1 h2 h3 h4) fun σ H Q h q hq => ?_
  obtain ⟨io, F, m, sd, S, rs, ps⟩ := h
  obtain ⟨S1, E1⟩ := S.extra (o := .dK []) hq
  have L1 := Loose.new S hq
  refine hr _ _ _ ⟨io, F, m, sd, S1, rs.mono (S.mono E1), ?_⟩
  unfold mDict at ps
  cases e0 : cp sd m with
  | bad => rw [e0] at ps; exact ps.elim
  | exc C fs m1 => rw [e0] at ps; exact ps.ext E1
  | ok qs m1 =>
    rw [e0] at ps
    intro io1 F1 H2 vs E2 S2 r
    obtain ⟨L2, hq2⟩ := L1.ext (p := q) (H := upd H q (.dK [])) E2 upd_same
    refine ⟨hq2, ?_⟩
    simp only [Res.bind_ok] at ps
    split at ps
    · rename_i es e1
      split at ps
      · rename_i hl
        obtain ⟨ws, rfl, rE⟩ := dictK_rel r e1
        have hlen : ws.length = es.length := by
          have := (RelE.split rE).1
          have := congrArg List.length this
          simpa using this
        refine ⟨ws, rfl, by rw [hlen]; exact hl, ?_⟩
        have S3 := L2.put (o' := .dK (mergeK [] ws)) S2
        have rM := (RelE.merge (ds := []) (vs := []) (by simp only [RelE]) rE).split
        obtain ⟨S4, M4⟩ := S3.ownF L2 upd_same
        refine ps io1 (orF F1 q) _ _ ((Ext.loose hq E2).ownF hq) S4 ?_
        simp only [RD, RelD]
        exact ⟨q, mergeK [] ws, rfl, .inr rfl, .inl upd_same, rM.1, (rM.2.mono (L2.mono (o' := .dK (mergeK [] ws)))).mono M4⟩
      · exact ps.elim
    · exact ps.elim
theorem d_newD {keys : List (Option Expr)} {values : List Expr} {cp : MP} (h : DPs X W pos keys values cp) (h1 : (keys.all fun x => x.isSome) = true := by rfl) (h2 : keys.length = values.length := by rfl) (h3 : keys ≠ [] := by exact fun z => by cases z) (h4 : keys.length ≤ 15 := by decide) :
    PE X (.Dict keys values pos) (tE (ctOf X) W (mNewD cp)) := by
  obtain ⟨trs, hp, hr⟩ := h.ex
  refine pe_imp (pe_disp hp h1 h2 h3 h4) fun σ H Q h q hq => ?_
  obtain ⟨io, F, m, sd, S, rs, ps⟩ := h
  obtain ⟨S1, E1⟩ := S.extra (o := .dK []) hq
  have L1 := Loose.new S hq
  refine hr _ _ _ ⟨io, F, m, sd, S1, rs.mono (S.mono E1), ?_⟩
  unfold mNewD at ps
  cases e0 : cp sd m with
  | bad => rw [e0] at ps; exact ps.elim
  | exc C fs m1 => rw [e0] at ps; exact ps.ext E1
  | ok qs m1 =>
    rw [e0] at ps
    intro io1 F1 H2 vs E2 S2 r
    obtain ⟨L2, hq2⟩ := L1.ext (p := q) (H := upd H q (.dK [])) E2 upd_same
    refine ⟨hq2, ?_⟩
    simp only [Res.bind_ok] at ps
    split at ps
    · rename_i es e1
      split at ps
      · rename_i hl
        obtain ⟨ws, rfl, rE⟩ := dictK_rel r e1
        have hlen : ws.length = es.length := by
          have := (RelE.split rE).1
          have := congrArg List.length this
          simpa using this
        refine ⟨ws, rfl, by rw [hlen]; exact hl, ?_⟩
        have S3 := L2.put (o' := .dK (mergeK [] ws)) S2
        have rM := (RelE.merge (ds := []) (vs := []) (by simp only [RelE]) rE).split
        have hu : RelO (ctOf X) (ioN io1 m1.nx q) F1 (m1.nx + 1) (upd H2 q (.dK (mergeK [] ws))) (.dk ((mergeD [] es).map (·.1)) ((mergeD [] es).map (·.2))) q := by
          refine ⟨mergeK [] ws, upd_same, rM.1, (rM.2.mono (L2.mono (o' := .dK (mergeK [] ws)))).mono ?_⟩
          exact ⟨Nat.le_succ _, fun i h => ioN_lt h, fun _ h => h, fun _ _ _ h => h, fun _ _ _ h => h, fun _ _ _ _ h => h, fun _ _ _ h => h, fun _ _ _ h => h, fun _ _ _ h => h⟩
        obtain ⟨S4, M4⟩ := S3.ownO (u := .dk ((mergeD [] es).map (·.1)) ((mergeD [] es).map (·.2))) L2 hu
        refine ps _ F1 _ _ ((Ext.loose hq E2).ownO hq) S4 ?_
        simp only [RD, RelD]
        exact ⟨Nat.lt_succ_self _, by rw [ioN_self]⟩
      · exact ps.elim
    · exact ps.elim
/-- {} -/
def mNewK : ME := fun _ m => .ok (.ref m.nx) (m.add (.dk [] []))
def mNewT : ME := fun _ m => .ok (.ref m.nx) (m.add (.dt [] []))
theorem d_newK : PE X (.Dict [] [] pos) (tE (ctOf X) W mNewK) := pe_imp pe_dnewK fun σ H Q h q hq => by
  obtain ⟨io, F, m, sd, S, rs, p⟩ := h
  refine p _ _ _ _ (Ext.alloc S hq) (S.alloc hq ⟨[], upd_same, rfl, by simp only [List.map_nil, RelDs]⟩) ?_
  simp only [RD, RelD]
  exact ⟨Nat.lt_succ_self _, by rw [ioN_self]⟩
theorem d_newT : PE X (.Dict [] [] pos) (tE (ctOf X) W mNewT) := pe_imp pe_dnewT fun σ H Q h q hq => by
  obtain ⟨io, F, m, sd, S, rs, p⟩ := h
  refine p _ _ _ _ (Ext.alloc S hq) (S.alloc hq ⟨[], upd_same, rfl, by simp only [List.map_nil, RelDs]⟩) ?_
  simp only [RD, RelD]
  exact ⟨Nat.lt_succ_self _, by rw [ioN_self]⟩

/-! ### slices -/
abbrev MO := Slots → Mem → Res (Option Int)
abbrev ROI : RelT (Option Int) (Option Int) := fun _ _ _ _ a b => a = b
def mPartN : MO := fun _ m => .ok none m
def mPart (a : ME) : MO := fun s m => (a s m).bind fun d m1 => match view m1 d with
  | .int i => .ok (some i) m1
  | _ => .bad
structure DPo (X : Cx) (W : WT) (e : Option Expr) (c : MO) : Prop where
  ex : ∃ t, PO X e t ∧ ∀ σ H Q, tG ROI (ctOf X) W c σ H Q → t σ H Q
theorem d_poN : DPo X W none mPartN := ⟨_, po_none, fun σ H Q h => by
  obtain ⟨io, F, m, sd, S, rs, p⟩ := h
  exact Post.now (R := ROI) S p rfl⟩
theorem d_po (ha : PE X a (tE (ctOf X) W ca)) : DPo X W (some a) (mPart ca) := ⟨_, po_some ha, fun σ H Q h =>
  (tG.bind (R := RD (ctOf X)) (c := ca) (k := fun d s m1 => match view m1 d with | .int i => .ok (some i) m1 | _ => .bad) h).imp fun x H1 h2 => by
    obtain ⟨io, F, m, sd, d, S, rs, r, p⟩ := h2
    simp only at p
    split at p
    · rename_i i e1
      exact ⟨i, is_int r e1, Post.now (R := ROI) S p rfl⟩
    · exact p.elim⟩
def cutD {α : Type} (xs : List α) (lo hi : Option Int) : List α := List.take (HT.sIx xs.length xs.length hi - HT.sIx xs.length 0 lo) (List.drop (HT.sIx xs.length 0 lo) xs)
theorem cut_rel {K : PySem.W.Frag} {io : Nat → Addr} {F : Addr → Prop} {n : Nat} {H : Hp} {ds : List D} {vs : List V} (lo hi : Option Int) (r : RelDs K io F n H ds vs) : RelDs K io F n H (cutD ds lo hi) (cutV vs lo hi) := by
  unfold cutD cutV
  rw [r.len]
  exact (r.drop _).take _
def opSl (x : D) (lo hi : Option Int) (m : Mem) : Option D := match view m x with
  | .str z => if z.length ≤ sizeLine then some (.str (cutS z lo hi)) else none
  | .tup ds => some (.tup (cutD ds lo hi))
  | .lst ds => some (.lst (cutD ds lo hi))
  | .scr ns => some (.lst ((cutD ns lo hi).map D.int))
  | _ => none
def mSl (a : ME) (lo hi : MO) : ME := fun s m => (a s m).bind fun x m1 => (lo s m1).bind fun l m2 => (hi s m2).bind fun h m3 => Res.of (opSl x l h m3) m3
def rSlD (T : Ct) : V → Option Int → Option Int → Hp → VK → Prop := fun x lo hi H Q => ∃ io F m d, Sim T io F m H ∧ RelD T.K io F m.nx H d x ∧ ∃ z, opSl d lo hi m = some z ∧ Then T io F m H z Q
theorem cut_map {α β : Type} (f : α → β) (xs : List α) (lo hi : Option Int) : cutD (xs.map f) lo hi = (cutD xs lo hi).map f := by
  unfold cutD
  rw [List.length_map, ← List.map_drop, ← List.map_take]
theorem cut_all {α : Type} (xs : List α) (lo hi : Option Int) (h1 : HT.sIx xs.length 0 lo = 0) (h2 : HT.sIx xs.length xs.length hi = xs.length) : cutD xs lo hi = xs := by
  unfold cutD
  rw [h1, h2]
  simp
theorem sl_D : SlR X (rSlD (ctOf X)) := by
  intro pins s σ H x v vl vu lo hi sl Q I rx hs pl pu h
  obtain ⟨io, F, m, d, S, r, z, hz, kk⟩ := h
  unfold opSl at hz
  split at hz
  · rename_i t e1
    split at hz
    · rename_i hl
      cases hz
      exact sl_str pins s σ H _ v vl vu lo hi sl Q I rx hs pl pu ⟨t, is_str r e1, hl, kk.now S (by simp only [RelD])⟩
    · cases hz
  · rename_i t e1
    cases hz
    obtain ⟨a, xs, rfl, tt, q⟩ := is_tup r e1
    refine sl_tupA pins s σ H _ v vl vu lo hi sl Q I rx hs pl pu ⟨a, xs, rfl, tt.sq, fun hh => ?_, fun _ p hp => kk.newT S hp (cut_rel lo hi q)⟩
    have hl := q.len
    rw [cut_all t lo hi (by rw [hl]; exact hh.1) (by rw [hl]; exact hh.2)] at kk
    exact kk.now S (by simp only [RelD]; exact ⟨a, xs, rfl, tt, q⟩)
  · rename_i t e1
    cases hz
    obtain ⟨a, xs, rfl, tt, q⟩ := at_lst S r e1
    exact sl_list pins s σ H _ v vl vu lo hi sl Q I rx hs pl pu ⟨a, xs, rfl, .inl (.inl tt), fun p hp => kk.newL S hp (cut_rel lo hi q)⟩
  · rename_i t e1
    cases hz
    obtain ⟨a, rfl, tt⟩ := is_scr r e1
    refine sl_list pins s σ H _ v vl vu lo hi sl Q I rx hs pl pu ⟨a, _, rfl, tt.sq, fun p hp => kk.newL S hp ?_⟩
    rw [← cut_map D.int]
    exact cut_rel lo hi (ints_rel _ _ _ _ _ _)
  · cases hz
theorem d_sl {lo hi : Option Expr} {cl ch : MO} {p2 : Pos} (ha : PE X a (tE (ctOf X) W ca)) (hl : DPo X W lo cl) (hh : DPo X W hi ch) : PE X (.Subscript a (.Slice lo hi none p2) pos) (tE (ctOf X) W (mSl ca cl ch)) := by
  obtain ⟨t1, p1, h1⟩ := hl.ex
  obtain ⟨t2, p2, h2⟩ := hh.ex
  refine pe_imp (pe_slice sl_D ha p1 p2) fun σ H Q h => ?_
  refine (tG.bind (R := RD (ctOf X)) (c := ca) (k := fun x s m1 => (cl s m1).bind fun l m2 => (ch s m2).bind fun h m3 => Res.of (opSl x l h m3) m3) h).imp fun x H1 h3 => ?_
  refine h1 _ _ _ ((tK.bind (R := ROI) (monoD _) h3).imp fun l H2 h4 => ?_)
  refine h2 _ _ _ ((tK.bind (R := ROI) (monoP (R' := ROI) (monoD _) ⟨fun _ q => q⟩) h4).imp fun u H3 h5 => ?_)
  obtain ⟨io, F, m, sd, ⟨⟨d, l'⟩, u'⟩, S, rs, ⟨⟨r1, r2⟩, r3⟩, p⟩ := h5
  cases r2
  cases r3
  obtain ⟨z, hz, kk⟩ := p.of_
  exact ⟨io, F, m, d, S, r1, z, hz, kk⟩
end
end Ev

set_option Elab.async false
set_option linter.all false
set_option maxRecDepth 100000
set_option autoImplicit false
/-! Ev7: statements, loops, comprehensions. -/
namespace Ev
open PySem PySem.Spec PyProof.Rows L2
theorem ps_imp {X : Cx} {st : Stmt} {t t' : TS} (h : PS X st t) (i : ∀ D σ H, t' D σ H → t D σ H) : PS X st t' := ⟨fun pins s σ H D I q => h.run pins s σ H D I (i _ _ _ q)⟩
theorem pss_imp {X : Cx} {st : List Stmt} {t t' : TS} (h : PSs X st t) (i : ∀ D σ H, t' D σ H → t D σ H) : PSs X st t' := ⟨fun pins s σ H D I q => h.run pins s σ H D I (i _ _ _ q)⟩
section
variable {X : Cx} {k : Nat} {W : WT} {a b c e : Expr} {es : List Expr} {p pos pos' : Pos} {ca cb cc : ME} {cA : MA} {st : Stmt} {sts sts' : List Stmt} {sa sb : MS} {ta : MT}

/-! ### blocks -/
def mSkip : MS := fun s m => .nx s m
def mSeq (a b : MS) : MS := fun s m => match a s m with
  | .nx s1 m1 => b s1 m1
  | o => o
theorem d_snil : PSs X [] (tS (ctOf X) W mSkip) := pss_imp pss_nil fun D σ H h => by
  obtain ⟨io, F, m, sd, S, rs, p⟩ := h
  exact p io F H σ (Ext.refl S) S rs
theorem tSeq_of {D : Ends} {σ : L2.St} {H : Hp} (h : tS (ctOf X) W (mSeq sa sb) D σ H) : tSeq (tS (ctOf X) W sa) (tS (ctOf X) W sb) D σ H := by
  obtain ⟨io, F, m, sd, S, rs, p⟩ := h
  refine ⟨io, F, m, sd, S, rs, ?_⟩
  unfold mSeq at p
  cases q : sa sd m with
  | nx s1 m1 =>
    rw [q] at p
    exact fun io' F' H' σ' E S' r => ⟨io', F', m1, s1, S', r, p.ext E⟩
  | bk s1 m1 => rw [q] at p; exact p
  | ct s1 m1 => rw [q] at p; exact p
  | rt d m1 => rw [q] at p; exact p
  | xc C fs s1 m1 => rw [q] at p; exact p
  | bad => rw [q] at p; exact p
theorem d_scons (ha : PS X st (tS (ctOf X) W sa)) (hb : PSs X sts (tS (ctOf X) W sb)) : PSs X (st :: sts) (tS (ctOf X) W (mSeq sa sb)) := pss_imp (pss_cons ha hb) fun D σ H h => tSeq_of h
theorem d_sone (ha : PS X st (tS (ctOf X) W sa)) : PSs X [st] (tS (ctOf X) W sa) := pss_one ha

/-! ### one expression -/
/-- what an expression's end is to a statement -/
def Res.then_ {α : Type} (r : Res α) (s : Slots) (f : α → Mem → Out) : Out := match r with
  | .ok a m => f a m
  | .exc C fs m => .xc C fs s m
  | .bad => .bad
@[simp] theorem Res.then_ok {α : Type} (a : α) (m : Mem) (s : Slots) (f : α → Mem → Out) : (Res.ok a m).then_ s f = f a m := rfl
@[simp] theorem Res.then_exc {α : Type} (C : Str) (fs : List (Str × D)) (m : Mem) (s : Slots) (f : α → Mem → Out) : (Res.exc C fs m : Res α).then_ s f = .xc C fs s m := rfl
@[simp] theorem Res.then_bad {α : Type} (s : Slots) (f : α → Mem → Out) : (Res.bad : Res α).then_ s f = .bad := rfl
theorem PostS.then_ {α β : Type} {R : RelT α β} {T : Ct} {io : Nat → Addr} {F : Addr → Prop} {m : Mem} {H : Hp} {r : Res α} {sd : Slots} {σ : L2.St} {f : α → Mem → Out} {D : Ends} (S : Sim T io F m H) (rs : RelSl T.K io F m.nx H sd σ)
    (h : PostS T W io F m H (r.then_ sd f) D) : Post R T (fun cls d H' => W cls d σ H') io F m H r fun b H1 => ∃ io1 F1 m1 a, Sim T io1 F1 m1 H1 ∧ RelSl T.K io1 F1 m1.nx H1 sd σ ∧ R io1 F1 m1.nx H1 a b ∧ PostS T W io1 F1 m1 H1 (f a m1) D := by
  cases r with
  | ok a m1 => exact fun io' F' H' b E S' q => ⟨io', F', m1, a, S', rs.mono (S.mono E), q, h.ext E⟩
  | exc C fs m1 => exact fun io' F' H' cls d E S' x => h io' F' H' cls d σ E S' x (rs.mono (S.mono E))
  | bad => exact h
theorem tS.then_ {α β : Type} {R : RelT α β} {T : Ct} {cx : Slots → Mem → Res α} {f : α → Slots → Mem → Out} {D : Ends} {σ : L2.St} {H : Hp} (h : tS T W (fun s m => (cx s m).then_ s fun a m1 => f a s m1) D σ H) :
    tG R T W cx σ H fun b H1 => ∃ io1 F1 m1 sd a, Sim T io1 F1 m1 H1 ∧ RelSl T.K io1 F1 m1.nx H1 sd σ ∧ R io1 F1 m1.nx H1 a b ∧ PostS T W io1 F1 m1 H1 (f a sd m1) D := by
  obtain ⟨io, F, m, sd, S, rs, p⟩ := h
  refine ⟨io, F, m, sd, S, rs, (PostS.then_ S rs p).imp fun b H1 ⟨io1, F1, m1, a, h1, h2, h3, h4⟩ => ⟨io1, F1, m1, sd, a, h1, h2, h3, h4⟩⟩
def mRet (a : ME) : MS := fun s m => (a s m).then_ s fun d m1 => .rt d m1
def mRetN : MS := fun _ m => .rt .non m
def mDrop (a : ME) : MS := fun s m => (a s m).then_ s fun _ m1 => .nx s m1
def mSet (i : Nat) (a : ME) : MS := fun s m => (a s m).then_ s fun d m1 => .nx (s.set i (some d)) m1
def mIf (t : MT) (a b : MS) : MS := fun s m => (t s m).then_ s fun c m1 => if c = true then a s m1 else b s m1
theorem d_ret (ha : PE X a (tE (ctOf X) W ca)) : PS X (.Return (some a) pos) (tS (ctOf X) W (mRet ca)) := ps_imp (ps_ret ha) fun D σ H h =>
  (tS.then_ (R := RD (ctOf X)) (cx := ca) (f := fun d _ m1 => .rt d m1) h).imp fun v H1 ⟨io, F, m, sd, d, S, rs, r, p⟩ => p io F H1 v (Ext.refl S) S r
theorem d_retN : PS X (.Return none pos) (tS (ctOf X) W mRetN) := ps_imp ps_retN fun D σ H h => by
  obtain ⟨io, F, m, sd, S, rs, p⟩ := h
  exact p io F H .non (Ext.refl S) S (by simp only [RelD])
theorem d_drop (ha : PE X a (tE (ctOf X) W ca)) (hs : swapsWith a none pos.line X.env = pure false := by rfl) : PS X (.Expr a pos) (tS (ctOf X) W (mDrop ca)) := ps_imp (ps_expr ha hs) fun D σ H h =>
  (tS.then_ (R := RD (ctOf X)) (cx := ca) (f := fun d sd m1 => .nx sd m1) h).imp fun v H1 ⟨io, F, m, sd, d, S, rs, r, p⟩ => p io F H1 σ (Ext.refl S) S rs
theorem tSet_of {i : Nat} {D : Ends} {σ : L2.St} {H : Hp} (h : tS (ctOf X) W (mSet i ca) D σ H) : tAsg (tE (ctOf X) W ca) (gName i) D σ H :=
  (tS.then_ (R := RD (ctOf X)) (cx := ca) (f := fun d sd m1 => .nx (sd.set i (some d)) m1) h).imp fun v H1 ⟨io, F, m, sd, d, S, rs, r, p⟩ => p io F H1 (σ.set i (some v)) (Ext.refl S) S (rs.set r)
theorem d_set {i : Nat} {x : Str} (hh : Here k W X) (ha : PE X a (tE (ctOf X) W ca)) (hi : X.N[i]? = some x := by rfl) (hl : L2.Loc X.env.scope x := by first | exact .inl rfl | exact .inr rfl) (hs : swapsWith a (some (.Name x pos')) pos.line X.env = pure false := by rfl)
    (hf : X.fn x = true ∨ X.env.scope.names.lookup x = some .local := by first | exact .inl rfl | exact .inr rfl) : PS X (.Assign [.Name x pos'] a pos) (tS (ctOf X) W (mSet i ca)) :=
  ps_imp (ps_set hh.nd hi hl ha hs hf) fun D σ H h => tSet_of h
theorem d_if (ht : PT X c (tT (ctOf X) W ta)) (ha : PSs X sts (tS (ctOf X) W sa)) (hb : PSs X sts' (tS (ctOf X) W sb)) : PS X (.If c sts sts' pos) (tS (ctOf X) W (mIf ta sa sb)) := ps_imp (ps_if ht ha hb) fun D σ H h =>
  (tS.then_ (R := RB) (cx := ta) (f := fun c sd m1 => if c = true then sa sd m1 else sb sd m1) h).imp fun v H1 ⟨io, F, m, sd, d, S, rs, r, p⟩ => by
    cases r
    cases v with
    | true => exact ⟨io, F, m, sd, S, rs, p⟩
    | false => exact ⟨io, F, m, sd, S, rs, p⟩
def mBrk : MS := fun s m => .bk s m
def mCont : MS := fun s m => .ct s m
theorem d_pass : PS X (.Pass pos) (tS (ctOf X) W mSkip) := ps_imp ps_pass fun D σ H h => by
  obtain ⟨io, F, m, sd, S, rs, p⟩ := h
  exact p io F H σ (Ext.refl S) S rs
theorem d_brk : PS X (.Break pos) (tS (ctOf X) W mBrk) := ps_imp ps_break fun D σ H h => by
  obtain ⟨io, F, m, sd, S, rs, p⟩ := h
  exact p io F H σ (Ext.refl S) S rs
theorem d_cont : PS X (.Continue pos) (tS (ctOf X) W mCont) := ps_imp ps_continue fun D σ H h => by
  obtain ⟨io, F, m, sd, S, rs, p⟩ := h
  exact p io F H σ (Ext.refl S) S rs
/-- what is never reached -/
def mBad : MS := fun _ _ => .bad
theorem d_never : PS X st (tS (ctOf X) W mBad) := ps_imp ps_never fun D σ H h => by
  obtain ⟨io, F, m, sd, S, rs, p⟩ := h
  exact p.elim
/-- at a slot the list is frozen -/
def mFrz (i : Nat) : MS := fun s m => match s[i]? with
  | some (some (.ref j)) => (match m.ob j with
    | some (.lst ds) => .nx (s.set i (some (.lst ds))) (m.kill j)
    | _ => .bad)
  | _ => .bad
theorem frz_of {i : Nat} {D : Ends} {σ : L2.St} {H : Hp} (h : tS (ctOf X) W (mSeq (mFrz i) sa) D σ H) : tS (ctOf X) W sa D σ H := by
  obtain ⟨io, F, m, sd, S, rs, p⟩ := h
  unfold mSeq mFrz at p
  cases q : sd[i]? with
  | none => rw [q] at p; exact p.elim
  | some o =>
    rw [q] at p
    cases o with
    | none => exact p.elim
    | some d =>
      cases d with
      | ref j =>
        simp only at p
        cases q2 : m.ob j with
        | none => rw [q2] at p; exact p.elim
        | some u =>
          rw [q2] at p
          cases u with
          | lst ds =>
            simp only at p
            obtain ⟨S', E⟩ := S.frz q2
            obtain ⟨xs, h1, h2⟩ := S.ob j _ q2
            obtain ⟨v, e1, e2⟩ := rs.2 i _ q
            simp only [RelD] at e2
            have rs' := (rs.mono (S.mono E)).set (i := i) (d := .lst ds) (v := v) (by
              simp only [RelD]
              exact ⟨io j, xs, e2.2, .inr rfl, h1, h2.mono (S.mono E)⟩)
            have ev : σ.set i (some v) = σ := by
              apply List.ext_getElem?
              intro n
              by_cases hn : i = n
              · subst hn
                rw [e1, List.getElem?_set_self (by
                  obtain ⟨hl, _⟩ := List.getElem?_eq_some_iff.mp e1
                  exact hl)]
              · rw [List.getElem?_set_ne hn]
            rw [ev] at rs'
            exact ⟨io, _, m.kill j, _, S', rs', p.ext E⟩
          | dk _ _ => exact p.elim
          | dt _ _ => exact p.elim
          | ins _ _ => exact p.elim
          | exn _ _ => exact p.elim
      | _ => exact p.elim
theorem d_frz {i : Nat} (h : PS X st (tS (ctOf X) W sa)) : PS X st (tS (ctOf X) W (mSeq (mFrz i) sa)) := ps_imp h fun D σ H q => frz_of q
theorem d_frzs {i : Nat} (h : PSs X sts (tS (ctOf X) W sa)) : PSs X sts (tS (ctOf X) W (mSeq (mFrz i) sa)) := pss_imp h fun D σ H q => frz_of q

/-! ### targets -/
abbrev As := D → Slots → Option Slots
def SameBut (ts : List Nat) (σ σ' : L2.St) : Prop := σ'.length = σ.length ∧ ∀ i, i ∉ ts → σ'[i]? = σ[i]?
theorem SameBut.wipe {ts vs : List Nat} {σ σ' : L2.St} (h : SameBut ts σ σ') (hs : ∀ i ∈ ts, i ∈ vs) : L2.wipe σ' vs = L2.wipe σ vs := by
  have get : ∀ (vs : List Nat) (σ : L2.St) (n : Nat), (L2.wipe σ vs)[n]? = if n ∈ vs ∧ n < σ.length then some none else σ[n]? := by
    intro vs
    induction vs with
    | nil => intro σ n; simp [L2.wipe]
    | cons v vs ih =>
      intro σ n
      unfold L2.wipe
      by_cases hv : v = n
      · subst hv
        by_cases hl : v < σ.length
        · rw [List.getElem?_set_self (by rw [L2.wipe_length]; exact hl), if_pos ⟨List.mem_cons_self, hl⟩]
        · rw [List.getElem?_eq_none (by rw [List.length_set, L2.wipe_length]; omega), if_neg (fun z => hl z.2), List.getElem?_eq_none (by omega)]
      · rw [List.getElem?_set_ne hv, ih]
        have : (n ∈ v :: vs) ↔ n ∈ vs := by
          rw [List.mem_cons]
          exact ⟨fun z => z.elim (fun e => (hv e.symm).elim) id, .inr⟩
        simp only [this]
  apply List.ext_getElem?
  intro n
  rw [get, get, h.1]
  by_cases hn : n ∈ vs ∧ n < σ.length
  · rw [if_pos hn, if_pos hn]
  · rw [if_neg hn, if_neg hn]
    by_cases hl : n < σ.length
    · exact h.2 n fun z => hn ⟨hs n z, hl⟩
    · rw [List.getElem?_eq_none (by rw [h.1]; omega), List.getElem?_eq_none (by omega)]
/-- a target -/
structure DTg (X : Cx) (tg : Expr) (g : TG) (as : As) (ts : List Nat) : Prop where
  p : PG X tg g
  k : ∀ (io : Nat → Addr) (F : Addr → Prop) (m : Mem) (H : Hp) (σ : L2.St) (sd sd' : Slots) (d : D) (v : V) (Q : L2.St → Hp → Prop), Sim (ctOf X) io F m H → RelSl X.K io F m.nx H sd σ → RelD X.K io F m.nx H d v → as d sd = some sd' →
    (∀ σ', RelSl X.K io F m.nx H sd' σ' → SameBut ts σ σ' → Q σ' H) → g v σ H Q
structure DTgs (X : Cx) (tg : List Expr) (g : TGs) (as : List D → Slots → Option Slots) (ts : List Nat) : Prop where
  p : PGs X tg g
  k : ∀ (io : Nat → Addr) (F : Addr → Prop) (m : Mem) (H : Hp) (σ : L2.St) (sd sd' : Slots) (ds : List D) (vs : List V) (Q : L2.St → Hp → Prop), Sim (ctOf X) io F m H → RelSl X.K io F m.nx H sd σ → RelDs X.K io F m.nx H ds vs → as ds sd = some sd' →
    (∀ σ', RelSl X.K io F m.nx H sd' σ' → SameBut ts σ σ' → Q σ' H) → g vs σ H Q
def aName (i : Nat) : As := fun d s => some (s.set i (some d))
def aTup (n : Nat) (f : List D → Slots → Option Slots) : As := fun d s => match d with
  | .tup ds => if ds.length = n then f ds s else none
  | _ => none
def aLst (n : Nat) (f : List D → Slots → Option Slots) : As := fun d s => match d with
  | .lst ds => if ds.length = n then f ds s else none
  | _ => none
def aNil : List D → Slots → Option Slots := fun ds s => match ds with
  | [] => some s
  | _ => none
def aCons (f : As) (g : List D → Slots → Option Slots) : List D → Slots → Option Slots := fun ds s => match ds with
  | d :: r => (match f d s with
    | some s1 => g r s1
    | none => none)
  | [] => none
theorem d_gname {i : Nat} {x : Str} (nd : X.N.Nodup) (hi : X.N[i]? = some x := by rfl) (hl : L2.Loc X.env.scope x := by first | exact .inl rfl | exact .inr rfl) (hf : X.fn x = true ∨ X.env.scope.names.lookup x = some .local := by first | exact .inl rfl | exact .inr rfl) :
    DTg X (.Name x pos) (gName i) (aName i) [i] := by
  refine ⟨pg_name nd hi hl hf, fun io F m H σ sd sd' d v Q S rs r e h => ?_⟩
  cases e
  refine h _ (rs.set r) ⟨List.length_set, fun j hj => ?_⟩
  rw [List.getElem?_set_ne (fun z => hj (by rw [z]; exact List.mem_singleton.mpr rfl))]
theorem d_gnil : DTgs X [] gNil aNil [] := by
  refine ⟨pgs_nil, fun io F m H σ sd sd' ds vs Q S rs r e h => ?_⟩
  cases ds with
  | nil =>
    cases vs with
    | nil => cases e; exact ⟨rfl, h σ rs ⟨rfl, fun _ _ => rfl⟩⟩
    | cons _ _ => simp only [RelDs] at r
  | cons _ _ => cases e
theorem d_gcons {tg : Expr} {tgs : List Expr} {f : As} {g : List D → Slots → Option Slots} {t1 t2 : List Nat} {g1 : TG} {g2 : TGs} (h1 : DTg X tg g1 f t1) (h2 : DTgs X tgs g2 g t2)
    (ha : (assignEach (tg :: tgs) X.env).map (·.2) = assign tg X.env :: (assignEach tgs X.env).map (·.2) := by rfl) : DTgs X (tg :: tgs) (gCons g1 g2) (aCons f g) (t1 ++ t2) := by
  obtain ⟨p1, k1⟩ := h1
  obtain ⟨p2, k2⟩ := h2
  refine ⟨pgs_cons p1 p2 ha, fun io F m H σ sd sd' ds vs Q S rs r e h => ?_⟩
  cases ds with
  | nil => cases e
  | cons d ds =>
    cases vs with
    | nil => simp only [RelDs] at r
    | cons v vs =>
      simp only [RelDs] at r
      unfold aCons at e
      simp only at e
      split at e
      · rename_i s1 e1
        refine ⟨v, vs, rfl, k1 io F m H σ sd s1 d v _ S rs r.1 e1 fun σ1 rs1 sb1 => ?_⟩
        refine k2 io F m H σ1 s1 sd' ds vs _ S rs1 r.2 e fun σ2 rs2 sb2 => h σ2 rs2 ⟨sb2.1.trans sb1.1, fun i hi => ?_⟩
        rw [sb2.2 i fun z => hi (List.mem_append_right _ z), sb1.2 i fun z => hi (List.mem_append_left _ z)]
      · cases e
theorem d_gtup {tgs : List Expr} {g : List D → Slots → Option Slots} {ts : List Nat} {n kk : Nat} {g1 : TGs} (hc : X.calm = true) (h : DTgs X tgs g1 g ts) (hl : (assignEach tgs X.env).length = n := by rfl) (hn : (assignEach tgs X.env).findIdx? (·.1) = none := by rfl) :
    DTg X (.Tuple tgs kk pos) (gTup X.K n g1) (aTup n g) ts := by
  obtain ⟨p1, k1⟩ := h
  refine ⟨pg_tup hc p1 hl hn, fun io F m H σ sd sd' d v Q S rs r e h => ?_⟩
  unfold aTup at e
  split at e
  · rename_i ds
    split at e
    · rename_i hl
      simp only [RelD] at r
      obtain ⟨a, xs, rfl, t, q⟩ := r
      exact ⟨a, xs, rfl, t.sq, by rw [← q.len]; exact hl, k1 io F m H σ sd sd' ds xs _ S rs q e h⟩
    · cases e
  · cases e
theorem d_glst {tgs : List Expr} {g : List D → Slots → Option Slots} {ts : List Nat} {n kk : Nat} {g1 : TGs} (hc : X.calm = true) (h : DTgs X tgs g1 g ts) (hl : (assignEach tgs X.env).length = n := by rfl) (hn : (assignEach tgs X.env).findIdx? (·.1) = none := by rfl) :
    DTg X (.Tuple tgs kk pos) (gLst X.K n g1) (aLst n g) ts := by
  obtain ⟨p1, k1⟩ := h
  refine ⟨pg_lst hc p1 hl hn, fun io F m H σ sd sd' d v Q S rs r e h => ?_⟩
  unfold aLst at e
  split at e
  · rename_i ds
    split at e
    · rename_i hl
      simp only [RelD] at r
      obtain ⟨a, xs, rfl, f, t, q⟩ := r
      exact ⟨a, xs, rfl, .inl (.inl t), by rw [← q.len]; exact hl, k1 io F m H σ sd sd' ds xs _ S rs q e h⟩
    · cases e
  · cases e
/-- target = e -/
def mAsg (as : As) (a : ME) : MS := fun s m => (a s m).then_ s fun d m1 => match as d s with
  | some s1 => .nx s1 m1
  | none => .bad
theorem d_asg {tg : Expr} {g : TG} {as : As} {ts : List Nat} (ht : DTg X tg g as ts) (ha : PE X a (tE (ctOf X) W ca)) (h1 : swapsWithSole [tg] a pos.line X.env = pure false := by rfl) (h2 : swappedStores [tg] a X.env = pure none := by rfl)
    (h3 : (assignEach [tg] X.env).map (·.2) = [assign tg X.env] := by rfl) : PS X (.Assign [tg] a pos) (tS (ctOf X) W (mAsg as ca)) := by
  obtain ⟨pg, kg⟩ := ht
  refine ps_imp (ps_asg ha pg h1 h2 h3) fun D σ H h => ?_
  refine (tS.then_ (R := RD (ctOf X)) (cx := ca) (f := fun d sd m1 => match as d sd with | some s1 => .nx s1 m1 | none => .bad) h).imp fun v H1 ⟨io, F, m, sd, d, S, rs, r, p⟩ => ?_
  split at p
  · rename_i s1 e1
    exact kg io F m H1 σ sd s1 d v _ S rs r e1 fun σ' rs' _ => p io F H1 σ' (Ext.refl S) S rs'
  · exact p.elim

/-! ### what a for walks -/
/-- an iterator yields these -/
structure ItOk (T : Ct) (io : Nat → Addr) (F : Addr → Prop) (m : Mem) (H : Hp) (ds : List D) (J : It) : Prop where
  go : ∀ i io' F' m' H', Ext io F m H io' F' m' H' → Sim T io' F' m' H' → i < ds.length → J.go i H'
  stop : ∀ i io' F' m' H', Ext io F m H io' F' m' H' → Sim T io' F' m' H' → i = ds.length → J.stop i H'
  yld : ∀ i io' F' m' H' x H'' d, Ext io F m H io' F' m' H' → Sim T io' F' m' H' → ds[i]? = some d → J.yld i H' x H'' →
    ∃ io'' F'', Ext io' F' m' H' io'' F'' m' H'' ∧ Sim T io'' F'' m' H'' ∧ RelD T.K io'' F'' m'.nx H'' d x
abbrev MI := Slots → Mem → Res (List D)
structure DIt (X : Cx) (W : WT) (tg iter : Expr) (ci : MI) : Prop where
  ex : ∃ wi, PI X tg iter wi ∧ ∀ (σ : L2.St) (H : Hp) (R : It → Hp → Prop) (io : Nat → Addr) (F : Addr → Prop) (m : Mem) (sd : Slots), Sim (ctOf X) io F m H → RelSl X.K io F m.nx H sd σ →
    (match ci sd m with
    | .ok ds m1 => ∀ io' F' H' J, Ext io F m H io' F' m1 H' → Sim (ctOf X) io' F' m1 H' → ItOk (ctOf X) io' F' m1 H' ds J → R J H'
    | .exc C fs m1 => ∀ io' F' H' cls d, Ext io F m H io' F' m1 H' → Sim (ctOf X) io' F' m1 H' → ExR (ctOf X) io' F' m1.nx H' C fs cls d → W cls d σ H'
    | .bad => False) → wi σ H R
/-- a list, a tuple, a text as it stands -/
def chars (z : Str) : List D := z.cps.toList.map fun c => .str ⟨#[c]⟩
def itemsOf (m : Mem) (d : D) : Option (List D) := match d with
  | .tup ds => some ds
  | .lst ds => some ds
  | .scr ns => some (ns.map D.int)
  | .str z => some (chars z)
  | _ => none
def mIter (a : ME) : MI := fun s m => (a s m).bind fun d m1 => Res.of (itemsOf m1 d) m1
theorem pi_or {tg iter : Expr} {w w' : TI} (h : PI X tg iter w) (h' : PI X tg iter w') : PI X tg iter (fun σ H R => w σ H R ∨ w' σ H R) :=
  ⟨fun pins s σ H R I q => q.elim (h.run pins s σ H R I) (h'.run pins s σ H R I)⟩
theorem it_lst {T : Ct} {io : Nat → Addr} {F : Addr → Prop} {m : Mem} {H : Hp} {a : Addr} {xs : List V} {ds : List D} (S : Sim T io F m H) (q : RelDs T.K io F m.nx H ds xs) (hs : ∀ io' F' m' H', Ext io F m H io' F' m' H' → SqL T.K H' a xs) : ItOk T io F m H ds (Itl T.K a) := by
  refine ⟨fun i io' F' m' H' E S' hi => ?_, fun i io' F' m' H' E S' hi => ⟨xs, hs _ _ _ _ E, by rw [hi, q.len]; exact Nat.le_refl _⟩, fun i io' F' m' H' x H'' d E S' e y => ?_⟩
  · obtain ⟨v, e1, _⟩ := q.get (List.getElem?_eq_getElem hi)
    exact ⟨xs, v, hs _ _ _ _ E, e1⟩
  · obtain ⟨rfl, y⟩ := y
    obtain ⟨v, e1, e2⟩ := q.get e
    have := y xs (hs _ _ _ _ E)
    rw [e1] at this
    cases this
    exact ⟨io', F', Ext.refl S', S', e2.mono (S.mono E)⟩
theorem it_tup {T : Ct} {io : Nat → Addr} {F : Addr → Prop} {m : Mem} {H : Hp} {a : Addr} {xs : List V} {ds : List D} (S : Sim T io F m H) (q : RelDs T.K io F m.nx H ds xs) (hs : ∀ io' F' m' H', Ext io F m H io' F' m' H' → SqT T.K H' a xs) : ItOk T io F m H ds (Itt T.K a) := by
  refine ⟨fun i io' F' m' H' E S' hi => ?_, fun i io' F' m' H' E S' hi => ⟨xs, hs _ _ _ _ E, by rw [hi, q.len]; exact Nat.le_refl _⟩, fun i io' F' m' H' x H'' d E S' e y => ?_⟩
  · obtain ⟨v, e1, _⟩ := q.get (List.getElem?_eq_getElem hi)
    exact ⟨xs, v, hs _ _ _ _ E, e1⟩
  · obtain ⟨rfl, y⟩ := y
    obtain ⟨v, e1, e2⟩ := q.get e
    have := y xs (hs _ _ _ _ E)
    rw [e1] at this
    cases this
    exact ⟨io', F', Ext.refl S', S', e2.mono (S.mono E)⟩
theorem TupF.later {T : Ct} {io io' : Nat → Addr} {F F' : Addr → Prop} {m m' : Mem} {H H' : Hp} {a : Addr} {xs : List V} (S : Sim T io F m H) (t : TupF T.K F H a xs) (E : Ext io F m H io' F' m' H') : SqT T.K H' a xs := by
  rcases t with ⟨f, t⟩ | t
  · exact .inl (.inl ((S.mono E).kt a xs f t))
  · exact .inr t.1
theorem it_str {T : Ct} {io : Nat → Addr} {F : Addr → Prop} {m : Mem} {H : Hp} {z : Str} : ItOk T io F m H (chars z) (Its z) := by
  have hl : (chars z).length = z.cps.size := by unfold chars; rw [List.length_map, Array.length_toList]
  refine ⟨fun i io' F' m' H' E S' hi => by rw [hl] at hi; exact hi, fun i io' F' m' H' E S' hi => by rw [hl] at hi; exact Nat.le_of_eq hi.symm, fun i io' F' m' H' x H'' d E S' e y => ?_⟩
  obtain ⟨rfl, c, e1, rfl⟩ := y
  refine ⟨io', F', Ext.refl S', S', ?_⟩
  unfold chars at e
  rw [List.getElem?_map, Array.getElem?_toList, e1] at e
  cases e
  simp only [RelD]
theorem d_iter {tg : Expr} (ha : PE X a (tE (ctOf X) W ca)) : DIt X W tg a (mIter ca) := by
  refine ⟨_, pi_or (pi_tup (tg := tg) ha) (pi_or (pi_list (tg := tg) ha) (pi_str (tg := tg) ha)), fun σ H R io F m sd S rs h => ?_⟩
  unfold mIter at h
  cases q : ca sd m with
  | bad => rw [q] at h; exact h.elim
  | exc C fs m1 => rw [q] at h; exact .inl ⟨io, F, m, sd, S, rs, by rw [q]; exact h⟩
  | ok d m1 =>
    rw [q] at h
    simp only [Res.bind_ok] at h
    cases d with
    | tup ds =>
      refine .inl ⟨io, F, m, sd, S, rs, ?_⟩
      rw [q]
      intro io' F' H' v E S' r
      simp only [RD, RelD] at r
      obtain ⟨a, xs, rfl, t, qq⟩ := r
      exact ⟨a, rfl, ⟨xs, t.sq⟩, h io' F' H' _ E S' (it_tup S' qq fun _ _ _ _ E' => t.later S' E')⟩
    | lst ds =>
      refine .inr (.inl ⟨io, F, m, sd, S, rs, ?_⟩)
      rw [q]
      intro io' F' H' v E S' r
      simp only [RD, RelD] at r
      obtain ⟨a, xs, rfl, f, t, qq⟩ := r
      exact ⟨a, rfl, ⟨xs, .inl (.inl t)⟩, h io' F' H' _ E S' (it_lst S' qq fun _ _ _ _ E' => .inl (.inl ((S'.mono E').kl a xs f t)))⟩
    | scr ns =>
      refine .inr (.inl ⟨io, F, m, sd, S, rs, ?_⟩)
      rw [q]
      intro io' F' H' v E S' r
      simp only [RD, RelD] at r
      obtain ⟨a, rfl, t⟩ := r
      refine ⟨a, rfl, ⟨_, t.sq⟩, h io' F' H' _ E S' (it_lst S' (ints_rel _ _ _ _ _ _) fun _ _ _ _ E' => ?_)⟩
      rcases t with ⟨f, o, t⟩ | t
      · exact .inl (.inr ⟨o, (S'.mono E').kf a o _ f t⟩)
      · exact .inr t
    | str z =>
      refine .inr (.inr ⟨io, F, m, sd, S, rs, ?_⟩)
      rw [q]
      intro io' F' H' v E S' r
      simp only [RD, RelD] at r
      exact ⟨z, r, h io' F' H' _ E S' it_str⟩
    | _ => exact h.elim
/-- ranges -/
def upto (lo : Int) (n : Nat) : List D := (List.range n).map fun (i : Nat) => .int (lo + (i : Int))
theorem it_rng {T : Ct} {io : Nat → Addr} {F : Addr → Prop} {m : Mem} {H : Hp} {lo : Int} {n : Nat} : ItOk T io F m H (upto lo n) (Itr lo n) := by
  have hl : (upto lo n).length = n := by unfold upto; rw [List.length_map, List.length_range]
  refine ⟨fun i io' F' m' H' E S' hi => by rw [hl] at hi; exact hi, fun i io' F' m' H' E S' hi => by rw [hl] at hi; exact Nat.le_of_eq hi.symm, fun i io' F' m' H' x H'' d E S' e y => ?_⟩
  obtain ⟨rfl, rfl⟩ := y
  refine ⟨io', F', Ext.refl S', S', ?_⟩
  have hi : i < n := by
    rw [← hl]
    exact (List.getElem?_eq_some_iff.mp e).1
  unfold upto at e
  rw [List.getElem?_map, List.getElem?_range hi] at e
  cases e
  simp only [RelD]
@[irreducible] def small (i : Int) : Bool := decide (-(2 ^ 62) ≤ i) && decide (i < 2 ^ 62)
def rng1 (ds : List D) : Option (List D) := match ds with
  | [.int j] => if small j = true then some (upto 0 j.toNat) else none
  | _ => none
def rng2 (ds : List D) : Option (List D) := match ds with
  | [.int i, .int j] => if small i = true ∧ small j = true then some (upto i (j - i).toNat) else none
  | _ => none
def mRange (f : List D → Option (List D)) (a : MA) : MI := fun s m => (a s m).bind fun ds m1 => Res.of (f ds) m1
theorem small_of {i : Int} (h : small i = true) : -(2 ^ 62) ≤ i ∧ i < 2 ^ 62 := by
  unfold small at h
  simp only [Bool.and_eq_true, decide_eq_true_eq] at h
  exact h
theorem d_range1 {tg : Expr} (hg : Gl X "range") (hm : X.mg "range" = none) (ha : PA X [a] (tA (ctOf X) W cA)) (hs : starEach [a] X.env = [(false, eval a X.env)] := by rfl) : DIt X W tg (.Call (.Name "range" p) [a] [] pos) (mRange rng1 cA) := by
  refine ⟨_, pi_range1 hg hm ha hs, fun σ H R io F m sd S rs h => ?_⟩
  unfold mRange at h
  refine ⟨io, F, m, sd, S, rs, ?_⟩
  cases q : cA sd m with
  | bad => rw [q] at h; exact h.elim
  | exc C fs m1 => rw [q] at h; exact h
  | ok ds m1 =>
    rw [q] at h
    simp only [Res.bind_ok] at h
    intro io' F' H' v E S' r
    cases e : rng1 ds with
    | none => rw [e] at h; exact h.elim
    | some ys =>
      rw [e] at h
      unfold rng1 at e
      split at e
      · rename_i j
        split at e
        · rename_i hj
          cases e
          obtain ⟨w, rfl, rw_⟩ := one_rel r
          simp only [RelD] at rw_
          subst rw_
          exact ⟨j, rfl, (small_of hj).1, (small_of hj).2, h io' F' H' _ E S' it_rng⟩
        · cases e
      · cases e
theorem d_range2 {tg : Expr} (hg : Gl X "range") (hm : X.mg "range" = none) (ha : PA X [a, b] (tA (ctOf X) W cA)) (hs : starEach [a, b] X.env = [(false, eval a X.env), (false, eval b X.env)] := by rfl) (hs2 : starEach [b] X.env = [(false, eval b X.env)] := by rfl) :
    DIt X W tg (.Call (.Name "range" p) [a, b] [] pos) (mRange rng2 cA) := by
  refine ⟨_, pi_range2 hg hm ha hs hs2, fun σ H R io F m sd S rs h => ?_⟩
  unfold mRange at h
  refine ⟨io, F, m, sd, S, rs, ?_⟩
  cases q : cA sd m with
  | bad => rw [q] at h; exact h.elim
  | exc C fs m1 => rw [q] at h; exact h
  | ok ds m1 =>
    rw [q] at h
    simp only [Res.bind_ok] at h
    intro io' F' H' v E S' r
    cases e : rng2 ds with
    | none => rw [e] at h; exact h.elim
    | some ys =>
      rw [e] at h
      unfold rng2 at e
      split at e
      · rename_i i j
        split at e
        · rename_i hj
          cases e
          obtain ⟨w, u, rfl, rw_, ru⟩ := two_rel r
          simp only [RelD] at rw_ ru
          subst rw_ ru
          exact ⟨i, j, rfl, ⟨(small_of hj.1).1, (small_of hj.1).2, (small_of hj.2).1, (small_of hj.2).2⟩, h io' F' H' _ E S' it_rng⟩
        · cases e
      · cases e

/-! ### loops -/
def loopF (as : As) (b : MS) : List D → Slots → Mem → Out
  | [], s, m => .nx s m
  | d :: ds, s, m => match as d s with
    | none => .bad
    | some s1 => (match b s1 m with
      | .nx s2 m2 => loopF as b ds s2 m2
      | .ct s2 m2 => loopF as b ds s2 m2
      | .bk s2 m2 => .nx s2 m2
      | o => o)
def mFor (ci : MI) (as : As) (b : MS) : MS := fun s m => (ci s m).then_ s fun ds m1 => loopF as b ds s m1
theorem d_for {tg iter : Expr} {ci : MI} {g : TG} {as : As} {ts : List Nat} (hh : Here k W X) (hi : DIt X W tg iter ci) (ht : DTg X tg g as ts) (hb : PSs X sts (tS (ctOf X) W sa)) (hs : ∀ x, foldedSetIterable iter X.env x = pure x := by intro _; rfl) :
    PS X (.For tg iter sts [] pos) (tS (ctOf X) W (mFor ci as sa)) := by
  obtain ⟨wi, p1, k1⟩ := hi.ex
  obtain ⟨p2, k2⟩ := ht
  refine ps_imp (ps_for hh.po hh.calm p1 p2 hb hs) fun D σ H h => ?_
  obtain ⟨io, F, m, sd, S, rs, p⟩ := h
  refine k1 σ H _ io F m sd S rs ?_
  unfold mFor at p
  cases q : ci sd m with
  | bad => rw [q] at p; exact p.elim
  | exc C fs m1 => rw [q] at p; exact fun io' F' H' cls d E S' x => p io' F' H' cls d σ E S' x (rs.mono (S.mono E))
  | ok ds m1 =>
    rw [q] at p
    simp only [Res.then_ok] at p
    intro io1 F1 H1 J E1 S1 IO
    refine ⟨fun i n σ' H' => n = ds.length - i ∧ i ≤ ds.length ∧ ∃ io' F' m' sd', Ext io1 F1 m1 H1 io' F' m' H' ∧ Sim (ctOf X) io' F' m' H' ∧ RelSl X.K io' F' m'.nx H' sd' σ' ∧ PostS (ctOf X) W io' F' m' H' (loopF as sa (ds.drop i) sd' m') D,
      ⟨ds.length, by omega, Nat.zero_le _, io1, F1, m1, sd, Ext.refl S1, S1, rs.mono (S.mono E1), p.ext E1⟩, fun i n σ' H' hW => ?_⟩
    obtain ⟨hn, hle, io', F', m', sd', E', S', rs', p'⟩ := hW
    by_cases hi : i < ds.length
    · refine .inr ⟨IO.go i io' F' m' H' E' S' hi, ?_⟩
      have ed : ds.drop i = ds[i] :: ds.drop (i + 1) := List.drop_eq_getElem_cons hi
      rw [ed] at p'
      unfold loopF at p'
      cases q1 : as ds[i] sd' with
      | none => rw [q1] at p'; exact p'.elim
      | some s1 =>
        rw [q1] at p'
        simp only at p'
        refine ⟨fun σ2 H2 => ∃ io2 F2 m2 sd2, Ext io1 F1 m1 H1 io2 F2 m2 H2 ∧ Sim (ctOf X) io2 F2 m2 H2 ∧ RelSl X.K io2 F2 m2.nx H2 sd2 σ2 ∧ PostS (ctOf X) W io2 F2 m2 H2 (loopF as sa (ds.drop (i + 1)) sd2 m2) D, fun σ2 H2 hN => ?_, fun x H'' y => ?_⟩
        · exact ⟨ds.length - (i + 1), by omega, rfl, hi, hN⟩
        · obtain ⟨io2, F2, E2, S2, r2⟩ := IO.yld i io' F' m' H' x H'' ds[i] E' S' (List.getElem?_eq_getElem hi) y
          refine k2 io2 F2 m' H'' σ' sd' s1 ds[i] x _ S2 (rs'.mono (S'.mono E2)) r2 q1 fun σ3 rs3 _ => ?_
          refine ⟨io2, F2, m', s1, S2, rs3, ?_⟩
          have p2 := p'.ext E2
          cases q3 : sa s1 m' with
          | bad => rw [q3] at p2; exact p2
          | rt d m3 => rw [q3] at p2; exact p2
          | xc C fs s3 m3 => rw [q3] at p2; exact p2
          | bk s3 m3 => rw [q3] at p2; exact p2
          | nx s3 m3 =>
            rw [q3] at p2
            exact fun io4 F4 H4 σ4 E4 S4 rs4 => ⟨io4, F4, m3, s3, (E'.trans E2).trans E4, S4, rs4, p2.ext E4⟩
          | ct s3 m3 =>
            rw [q3] at p2
            exact fun io4 F4 H4 σ4 E4 S4 rs4 => ⟨io4, F4, m3, s3, (E'.trans E2).trans E4, S4, rs4, p2.ext E4⟩
    · have e : i = ds.length := by omega
      subst e
      rw [List.drop_length] at p'
      exact .inl ⟨IO.stop _ io' F' m' H' E' S' rfl, p' io' F' H' σ' (Ext.refl S') S' rs'⟩
def loopW (t : MT) (b : MS) : Nat → Slots → Mem → Out
  | 0, _, _ => .bad
  | n + 1, s, m => (t s m).then_ s fun c m1 => if c = true then (match b s m1 with
      | .nx s2 m2 => loopW t b n s2 m2
      | .ct s2 m2 => loopW t b n s2 m2
      | .bk s2 m2 => .nx s2 m2
      | o => o) else .nx s m1
def mWhile (n : Nat) (t : MT) (b : MS) : MS := fun s m => loopW t b n s m
theorem d_while {n : Nat} (hh : Here k W X) (ht : PT X c (tT (ctOf X) W ta)) (hb : PSs X sts (tS (ctOf X) W sa)) : PS X (.While c sts [] pos) (tS (ctOf X) W (mWhile n ta sa)) := by
  refine ps_imp (ps_while hh.po ht hb) fun D σ H h => ?_
  obtain ⟨io, F, m, sd, S, rs, p⟩ := h
  refine ⟨fun n σ' H' => ∃ io' F' m' sd', Sim (ctOf X) io' F' m' H' ∧ RelSl X.K io' F' m'.nx H' sd' σ' ∧ PostS (ctOf X) W io' F' m' H' (loopW ta sa n sd' m') D, ⟨n, io, F, m, sd, S, rs, p⟩, fun j σ' H' hW => ?_⟩
  obtain ⟨io', F', m', sd', S', rs', p'⟩ := hW
  cases j with
  | zero => exact p'.elim
  | succ j =>
    unfold loopW at p'
    have h1 := PostS.then_ (R := RB) S' rs' p'
    refine ⟨io', F', m', sd', S', rs', h1.imp fun bb H1 ⟨io1, F1, m1, a, S1, rs1, r, p1⟩ => ?_⟩
    cases r
    cases bb with
    | false => exact p1 io1 F1 H1 σ' (Ext.refl S1) S1 rs1
    | true =>
      refine (if_pos rfl).mpr ⟨fun σ2 H2 => ∃ io2 F2 m2 sd2, Sim (ctOf X) io2 F2 m2 H2 ∧ RelSl X.K io2 F2 m2.nx H2 sd2 σ2 ∧ PostS (ctOf X) W io2 F2 m2 H2 (loopW ta sa j sd2 m2) D, fun σ2 H2 hN => ⟨j, Nat.lt_succ_self _, hN⟩, ?_⟩
      refine ⟨io1, F1, m1, sd', S1, rs1, ?_⟩
      simp only [if_true] at p1
      cases q3 : sa sd' m1 with
      | bad => rw [q3] at p1; exact p1
      | rt d m3 => rw [q3] at p1; exact p1
      | xc C fs s3 m3 => rw [q3] at p1; exact p1
      | bk s3 m3 => rw [q3] at p1; exact p1
      | nx s3 m3 =>
        rw [q3] at p1
        exact fun io4 F4 H4 σ4 E4 S4 rs4 => ⟨io4, F4, m3, s3, S4, rs4, p1.ext E4⟩
      | ct s3 m3 =>
        rw [q3] at p1
        exact fun io4 F4 H4 σ4 E4 S4 rs4 => ⟨io4, F4, m3, s3, S4, rs4, p1.ext E4⟩
end
end Ev

set_option Elab.async false
set_option linter.all false
set_option maxRecDepth 100000
set_option autoImplicit false
/-! Ev8: comprehensions; stores. -/
namespace Ev
open PySem PySem.Spec PyProof.Rows L2
theorem Ext.putL {io io' : Nat → Addr} {F F' : Addr → Prop} {m m' : Mem} {H H' : Hp} {p : Addr} {o : HO} (E : Ext io F m H io' F' m' H') (hp : H p = none) : Ext io F m H io' F' m' (upd H' p o) :=
  ⟨E.nx, E.eio, E.eF, fun a z h hl => by rw [upd_ne (ne_of_none h hp)]; exact E.keep a z h hl, E.new, E.dead, E.lt,
    fun a z h => by rw [upd_ne (ne_of_none h hp)]; exact E.there a z h, E.newF⟩
def wipeS (s : Slots) : List Nat → Slots
  | [] => s
  | v :: vs => (wipeS s vs).set v none
theorem wipeS_len (s : Slots) : ∀ vs : List Nat, (wipeS s vs).length = s.length
  | [] => rfl
  | v :: vs => by unfold wipeS; rw [List.length_set, wipeS_len s vs]
theorem RelSl.wipe {K : PySem.W.Frag} {io : Nat → Addr} {F : Addr → Prop} {n : Nat} {H : Hp} {sd : Slots} {σ : L2.St} (h : RelSl K io F n H sd σ) : ∀ vs : List Nat, RelSl K io F n H (wipeS sd vs) (L2.wipe σ vs)
  | [] => h
  | v :: vs => by
    have ih := RelSl.wipe h vs
    unfold wipeS L2.wipe
    refine ⟨by rw [List.length_set, List.length_set]; exact ih.1, fun i d e => ?_⟩
    by_cases hv : v = i
    · subst hv
      by_cases hl : v < (wipeS sd vs).length
      · rw [List.getElem?_set_self hl] at e; cases e
      · rw [List.getElem?_eq_none (by rw [List.length_set]; omega)] at e; cases e
    · rw [List.getElem?_set_ne hv] at e
      obtain ⟨w, h1, h2⟩ := ih.2 i d e
      exact ⟨w, by rw [List.getElem?_set_ne hv]; exact h1, h2⟩
def loopC (as : As) (t : MT) (e : ME) (s : Slots) : List D → List D → Mem → Res (List D)
  | [], acc, m => .ok acc m
  | d :: ds, acc, m => match as d s with
    | none => .bad
    | some s1 => (match t s1 m with
      | .ok true m1 => (match e s1 m1 with
        | .ok y m2 => if acc.length < sizeLine then loopC as t e s ds (acc ++ [y]) m2 else .bad
        | _ => .bad)
      | .ok false m1 => loopC as t e s ds acc m1
      | _ => .bad)
def mYes : MT := fun _ m => .ok true m
/-- the items of [e for tg in it if t]; own: the places of the names within -/
def mComp (own : List Nat) (ci : MI) (as : As) (t : MT) (e : ME) : MA := fun s m => (ci s m).bind fun ds m1 => loopC as t e (wipeS s own) ds [] m1
def mLc (own : List Nat) (ci : MI) (as : As) (t : MT) (e : ME) : ME := fun s m => (mComp own ci as t e s m).bind fun acc m1 => .ok (.lst acc) m1
def mNewLc (own : List Nat) (ci : MI) (as : As) (t : MT) (e : ME) : ME := fun s m => (mComp own ci as t e s m).bind fun acc m1 => .ok (.ref m1.nx) (m1.add (.lst acc))
section
variable {X : Cx} {k : Nat} {W : WT} {elt tg iter : Expr} {ifs : List Expr} {scope : Scope} {own : List (Str × Nat)} {p pos spos py : Pos} {ci : MI} {as : As} {ts : List Nat} {ct : MT} {ce : ME} {g : TG} {tt : TT}
/-- the tests of a comprehension -/
structure DIfs (X : Cx) (W : WT) (ifs : List Expr) (tt : TT) (ct : MT) : Prop where
  p : PTs X ifs tt
  k : ∀ σ H Q, tT (ctOf X) W ct σ H Q → tt σ H Q
theorem d_if0 : DIfs X W [] tYes mYes := ⟨pts_nil, fun σ H Q h => by
  obtain ⟨io, F, m, sd, S, rs, p⟩ := h
  exact Post.now (R := RB) S p rfl⟩
theorem d_if1 {c : Expr} (h : PT X c (tT (ctOf X) W ct)) : DIfs X W [c] (tT (ctOf X) W ct) ct := ⟨pts_one h, fun σ H Q q => q⟩
theorem lc_of {wi : TI} {fin : List D → Mem → Res D}
    (k1 : ∀ (σ : L2.St) (H : Hp) (R : It → Hp → Prop) (io : Nat → Addr) (F : Addr → Prop) (m : Mem) (sd : Slots), Sim (ctOf X) io F m H → RelSl X.K io F m.nx H sd σ →
      (match ci sd m with
      | .ok ds m1 => ∀ io' F' H' J, Ext io F m H io' F' m1 H' → Sim (ctOf X) io' F' m1 H' → ItOk (ctOf X) io' F' m1 H' ds J → R J H'
      | .exc C fs m1 => ∀ io' F' H' cls d, Ext io F m H io' F' m1 H' → Sim (ctOf X) io' F' m1 H' → ExR (ctOf X) io' F' m1.nx H' C fs cls d → W cls d σ H'
      | .bad => False) → wi σ H R)
    (k2 : ∀ (io : Nat → Addr) (F : Addr → Prop) (m : Mem) (H : Hp) (σ : L2.St) (sd sd' : Slots) (d : D) (v : V) (Q : L2.St → Hp → Prop), Sim (ctOf X) io F m H → RelSl X.K io F m.nx H sd σ → RelD X.K io F m.nx H d v → as d sd = some sd' →
      (∀ σ', RelSl X.K io F m.nx H sd' σ' → SameBut ts σ σ' → Q σ' H) → g v σ H Q)
    (k3 : ∀ σ H Q, tT (ctOf X) W0 ct σ H Q → tt σ H Q) (hts : ∀ i ∈ ts, i ∈ own.map (·.2))
    (hfin : ∀ (io io1 : Nat → Addr) (F F1 : Addr → Prop) (m m1 : Mem) (H H1 : Hp) (acc : List D) (xs : List V) (q : Addr) (σ : L2.St) (Q : VK), Ext io F m H io1 F1 m1 H1 → Sim (ctOf X) io1 F1 m1 H1 → Loose io1 F1 m1 q → H q = none → H1 q = some (.lst xs) → RelDs X.K io1 F1 m1.nx H1 acc xs →
      Post (RD (ctOf X)) (ctOf X) (fun cls d H' => W cls d σ H') io F m H (fin acc m1) Q → Q (.ref q) H1)
    {σ : L2.St} {H : Hp} {Q : VK} (h : tE (ctOf X) W (fun s m => (mComp (own.map (·.2)) ci as ct ce s m).bind fin) σ H Q) : tLc wi g tt (tE (ctOf X) W0 ce) (own.map (·.2)) σ H Q := by
  obtain ⟨io, F, m, sd, S, rs, p⟩ := h
  refine k1 σ H _ io F m sd S rs ?_
  unfold mComp at p
  dsimp only at p
  cases q : ci sd m with
  | bad => rw [q] at p; exact p.elim
  | exc C fs m1 => rw [q] at p; exact p
  | ok ds m1 =>
    rw [q] at p
    simp only [Res.bind_ok] at p
    intro io1 F1 H1 J E1 S1 IO D hD
    have L1 := Loose.new S1 hD
    obtain ⟨S1', E1'⟩ := S1.extra (o := .lst []) hD
    have rsw := (rs.mono (S.mono E1)).wipe (own.map (·.2))
    refine ⟨fun i n H' => n = ds.length - i ∧ i ≤ ds.length ∧ ∃ io' F' m' acc xs, Ext io1 F1 m1 H1 io' F' m' H' ∧ Sim (ctOf X) io' F' m' H' ∧ Loose io' F' m' D ∧ H' D = some (.lst xs) ∧ RelDs X.K io' F' m'.nx H' acc xs ∧
        Post (RD (ctOf X)) (ctOf X) (fun cls d H' => W cls d σ H') io1 F1 m1 H1 ((loopC as ct ce (wipeS sd (own.map (·.2))) (ds.drop i) acc m').bind fin) Q,
      ⟨ds.length, by omega, Nat.zero_le _, io1, F1, m1, [], [], E1', S1', L1, upd_same, by simp only [RelDs], p.ext E1⟩, fun i n H' hW => ?_⟩
    obtain ⟨hn, hle, io', F', m', acc, xs, E', S', L', eD, rA, p'⟩ := hW
    by_cases hi : i < ds.length
    · refine .inr ⟨IO.go i io' F' m' H' E' S' hi, ?_⟩
      have ed : ds.drop i = ds[i] :: ds.drop (i + 1) := List.drop_eq_getElem_cons hi
      rw [ed] at p'
      unfold loopC at p'
      cases q1 : as ds[i] (wipeS sd (own.map (·.2))) with
      | none => rw [q1] at p'; exact p'.elim
      | some s1 =>
        rw [q1] at p'
        simp only at p'
        refine ⟨fun H2 => ∃ io2 F2 m2 acc xs, Ext io1 F1 m1 H1 io2 F2 m2 H2 ∧ Sim (ctOf X) io2 F2 m2 H2 ∧ Loose io2 F2 m2 D ∧ H2 D = some (.lst xs) ∧ RelDs X.K io2 F2 m2.nx H2 acc xs ∧
          Post (RD (ctOf X)) (ctOf X) (fun cls d H' => W cls d σ H') io1 F1 m1 H1 ((loopC as ct ce (wipeS sd (own.map (·.2))) (ds.drop (i + 1)) acc m2).bind fin) Q, fun H2 hN => ⟨ds.length - (i + 1), by omega, rfl, hi, hN⟩, fun x H'' y => ?_⟩
        obtain ⟨io2, F2, E2, S2, r2⟩ := IO.yld i io' F' m' H' x H'' ds[i] E' S' (List.getElem?_eq_getElem hi) y
        obtain ⟨L2', eD2⟩ := L'.ext E2 eD
        have rsw2 := (rsw.mono (S1.mono E')).mono (S'.mono E2)
        refine k2 io2 F2 m' H'' (L2.wipe σ (own.map (·.2))) _ s1 ds[i] x _ S2 rsw2 r2 q1 fun σ3 rs3 sb => ?_
        refine ⟨?_, k3 _ _ _ ⟨io2, F2, m', s1, S2, rs3, ?_⟩⟩
        · rw [sb.wipe hts]
          have id : SameBut (own.map (·.2)) σ (L2.wipe σ (own.map (·.2))) := by
            refine ⟨L2.wipe_length _ _, fun j hj => ?_⟩
            clear hts
            generalize own.map (·.2) = vs at hj
            induction vs with
            | nil => rfl
            | cons v vs ih =>
              unfold L2.wipe
              rw [List.getElem?_set_ne (fun z => hj (by rw [z]; exact List.mem_cons_self))]
              exact ih fun z => hj (List.mem_cons_of_mem _ z)
          exact id.wipe fun _ z => z
        · cases q3 : ct s1 m' with
          | bad => rw [q3] at p'; exact p'.elim
          | exc C fs m3 => rw [q3] at p'; exact p'.elim
          | ok bb m3 =>
            rw [q3] at p'
            intro io3 F3 H3 b' E3 S3 r
            cases r
            obtain ⟨L3, eD3⟩ := L2'.ext E3 eD2
            have rA3 := (rA.mono (S'.mono E2)).mono (S2.mono E3)
            cases bb with
            | false => exact (if_neg (by decide)).mpr ⟨io3, F3, m3, acc, xs, (E'.trans E2).trans E3, S3, L3, eD3, rA3, p'⟩
            | true =>
              refine (if_pos rfl).mpr ⟨io3, F3, m3, s1, S3, rs3.mono (S2.mono E3), ?_⟩
              simp only at p'
              cases q4 : ce s1 m3 with
              | bad => rw [q4] at p'; exact p'.elim
              | exc C fs m4 => rw [q4] at p'; exact p'.elim
              | ok y m4 =>
                rw [q4] at p'
                simp only at p'
                intro io4 F4 H4 yv E4 S4 ry
                obtain ⟨L4, eD4⟩ := L3.ext E4 eD3
                have rA4 := rA3.mono (S3.mono E4)
                split at p'
                · rename_i hl
                  refine ⟨xs, eD4, by rw [← rA4.len]; exact hl, io4, F4, m4, acc ++ [y], xs ++ [yv], (((E'.trans E2).trans E3).trans E4).putL hD, L4.put S4, L4, upd_same, ?_, p'⟩
                  exact (RelDs.app rA4 (by simp only [RelDs]; exact ⟨ry, trivial⟩)).mono L4.mono
                · exact p'.elim
    · have e : i = ds.length := by omega
      subst e
      rw [List.drop_length] at p'
      exact .inl ⟨IO.stop _ io' F' m' H' E' S' rfl, hfin _ _ _ _ _ _ _ _ _ _ _ σ Q E' S' L' hD eD rA p'⟩
theorem fin_I (io io1 : Nat → Addr) (F F1 : Addr → Prop) (m m1 : Mem) (H H1 : Hp) (acc : List D) (xs : List V) (q : Addr) (σ : L2.St) (Q : VK) (E : Ext io F m H io1 F1 m1 H1) (S : Sim (ctOf X) io1 F1 m1 H1) (L : Loose io1 F1 m1 q) (hq : H q = none) (h1 : H1 q = some (.lst xs))
    (r : RelDs X.K io1 F1 m1.nx H1 acc xs) (p : Post (RD (ctOf X)) (ctOf X) (fun cls d H' => W cls d σ H') io F m H ((fun acc m1 => Res.ok (D.lst acc) m1) acc m1) Q) : Q (.ref q) H1 := by
  obtain ⟨S4, M4⟩ := S.ownF L h1
  refine p io1 (orF F1 q) _ _ (E.ownF hq) S4 ?_
  simp only [RD, RelD]
  exact ⟨q, xs, rfl, .inr rfl, h1, r.mono M4⟩
theorem fin_M (io io1 : Nat → Addr) (F F1 : Addr → Prop) (m m1 : Mem) (H H1 : Hp) (acc : List D) (xs : List V) (q : Addr) (σ : L2.St) (Q : VK) (E : Ext io F m H io1 F1 m1 H1) (S : Sim (ctOf X) io1 F1 m1 H1) (L : Loose io1 F1 m1 q) (hq : H q = none) (h1 : H1 q = some (.lst xs))
    (r : RelDs X.K io1 F1 m1.nx H1 acc xs) (p : Post (RD (ctOf X)) (ctOf X) (fun cls d H' => W cls d σ H') io F m H ((fun acc m1 => Res.ok (D.ref m1.nx) (m1.add (.lst acc))) acc m1) Q) : Q (.ref q) H1 := by
  have hu : RelO (ctOf X) (ioN io1 m1.nx q) F1 (m1.nx + 1) H1 (.lst acc) q :=
    ⟨xs, h1, r.mono ⟨Nat.le_succ _, fun i h => ioN_lt h, fun _ h => h, fun _ _ _ h => h, fun _ _ _ h => h, fun _ _ _ _ h => h, fun _ _ _ h => h, fun _ _ _ h => h, fun _ _ _ h => h⟩⟩
  obtain ⟨S4, M4⟩ := S.ownO (u := .lst acc) L hu
  refine p _ F1 _ _ (E.ownO hq) S4 ?_
  simp only [RD, RelD]
  exact ⟨Nat.lt_succ_self _, by rw [ioN_self]⟩
theorem d_lc (hh : Here k W X) (hi : DIt X W tg iter ci) (ok : BlkOk X.N X.env.scope scope own) (hg : ∀ (s : Shared) (H : Hp) (C : Addr) (cl : List (Str × Addr)) (fp : List Addr), Here k W0 (X.blk s H scope (compEnvC scope cl C X.env) fp) → DTg (X.blk s H scope (compEnvC scope cl C X.env) fp) tg g as ts)
    (ht : ∀ (s : Shared) (H : Hp) (C : Addr) (cl : List (Str × Addr)) (fp : List Addr), Here k W0 (X.blk s H scope (compEnvC scope cl C X.env) fp) → DIfs (X.blk s H scope (compEnvC scope cl C X.env) fp) W0 ifs tt ct)
    (he : ∀ (s : Shared) (H : Hp) (C : Addr) (cl : List (Str × Addr)) (fp : List Addr), Here k W0 (X.blk s H scope (compEnvC scope cl C X.env) fp) → PE (X.blk s H scope (compEnvC scope cl C X.env) fp) elt (tE (ctOf X) W0 ce))
    (hts : ∀ i ∈ ts, i ∈ own.map (·.2) := by decide) (hs : ∀ x, foldedSetIterable iter X.env x = pure x := by intro _; rfl) :
    PE X (.ListComp elt [⟨tg, iter, ifs, 0⟩] scope pos) (tE (ctOf X) W (mLc (own.map (·.2)) ci as ct ce)) := by
  obtain ⟨wi, p1, k1⟩ := hi.ex
  exact pe_imp (pe_lc hh.calm hh.nd p1 ok (fun s H C cl fp => (hg s H C cl fp (hh.blk s H _ _ fp)).p) (fun s H C cl fp => (ht s H C cl fp (hh.blk s H _ _ fp)).p) (fun s H C cl fp => he s H C cl fp (hh.blk s H _ _ fp)) hs) fun σ H Q h => lc_of k1 (hg {} (fun _ => none) 0 [] [] (hh.blk _ _ _ _ _)).k (ht {} (fun _ => none) 0 [] [] (hh.blk _ _ _ _ _)).k hts fin_I h
theorem d_newLc (hh : Here k W X) (hi : DIt X W tg iter ci) (ok : BlkOk X.N X.env.scope scope own) (hg : ∀ (s : Shared) (H : Hp) (C : Addr) (cl : List (Str × Addr)) (fp : List Addr), Here k W0 (X.blk s H scope (compEnvC scope cl C X.env) fp) → DTg (X.blk s H scope (compEnvC scope cl C X.env) fp) tg g as ts)
    (ht : ∀ (s : Shared) (H : Hp) (C : Addr) (cl : List (Str × Addr)) (fp : List Addr), Here k W0 (X.blk s H scope (compEnvC scope cl C X.env) fp) → DIfs (X.blk s H scope (compEnvC scope cl C X.env) fp) W0 ifs tt ct)
    (he : ∀ (s : Shared) (H : Hp) (C : Addr) (cl : List (Str × Addr)) (fp : List Addr), Here k W0 (X.blk s H scope (compEnvC scope cl C X.env) fp) → PE (X.blk s H scope (compEnvC scope cl C X.env) fp) elt (tE (ctOf X) W0 ce))
    (hts : ∀ i ∈ ts, i ∈ own.map (·.2) := by decide) (hs : ∀ x, foldedSetIterable iter X.env x = pure x := by intro _; rfl) :
    PE X (.ListComp elt [⟨tg, iter, ifs, 0⟩] scope pos) (tE (ctOf X) W (mNewLc (own.map (·.2)) ci as ct ce)) := by
  obtain ⟨wi, p1, k1⟩ := hi.ex
  exact pe_imp (pe_lc hh.calm hh.nd p1 ok (fun s H C cl fp => (hg s H C cl fp (hh.blk s H _ _ fp)).p) (fun s H C cl fp => (ht s H C cl fp (hh.blk s H _ _ fp)).p) (fun s H C cl fp => he s H C cl fp (hh.blk s H _ _ fp)) hs) fun σ H Q h => lc_of k1 (hg {} (fun _ => none) 0 [] [] (hh.blk _ _ _ _ _)).k (ht {} (fun _ => none) 0 [] [] (hh.blk _ _ _ _ _)).k hts fin_M h
/-- name = [..] -/
theorem d_setLc {i : Nat} {y : Str} (hh : Here k W X) (hi : DIt X W tg iter ci) (ok : BlkOk X.N X.env.scope scope own) (hg : ∀ (s : Shared) (H : Hp) (C : Addr) (cl : List (Str × Addr)) (fp : List Addr), Here k W0 (X.blk s H scope (compEnvC scope cl C X.env) fp) → DTg (X.blk s H scope (compEnvC scope cl C X.env) fp) tg g as ts)
    (ht : ∀ (s : Shared) (H : Hp) (C : Addr) (cl : List (Str × Addr)) (fp : List Addr), Here k W0 (X.blk s H scope (compEnvC scope cl C X.env) fp) → DIfs (X.blk s H scope (compEnvC scope cl C X.env) fp) W0 ifs tt ct)
    (he : ∀ (s : Shared) (H : Hp) (C : Addr) (cl : List (Str × Addr)) (fp : List Addr), Here k W0 (X.blk s H scope (compEnvC scope cl C X.env) fp) → PE (X.blk s H scope (compEnvC scope cl C X.env) fp) elt (tE (ctOf X) W0 ce)) (hi2 : X.N[i]? = some y := by rfl) (hyl : X.env.scope.names.lookup y = some .local := by rfl)
    (hsw : swapsWith (.ListComp elt [⟨tg, iter, ifs, 0⟩] scope pos) (some (.Name y py)) spos.line X.env = pure true := by exact sw_true rfl rfl rfl (by decide +kernel))
    (hts : ∀ i ∈ ts, i ∈ own.map (·.2) := by decide) (hs : ∀ x, foldedSetIterable iter X.env x = pure x := by intro _; rfl) :
    PS X (.Assign [.Name y py] (.ListComp elt [⟨tg, iter, ifs, 0⟩] scope pos) spos) (tS (ctOf X) W (mSet i (mLc (own.map (·.2)) ci as ct ce))) := by
  obtain ⟨wi, p1, k1⟩ := hi.ex
  exact ps_imp (ps_setLc hh.calm hh.nd hi2 hyl hsw p1 ok (fun s H C cl fp => (hg s H C cl fp (hh.blk s H _ _ fp)).p) (fun s H C cl fp => (ht s H C cl fp (hh.blk s H _ _ fp)).p) (fun s H C cl fp => he s H C cl fp (hh.blk s H _ _ fp)) hs) fun D σ H h => lc_of k1 (hg {} (fun _ => none) 0 [] [] (hh.blk _ _ _ _ _)).k (ht {} (fun _ => none) 0 [] [] (hh.blk _ _ _ _ _)).k hts fin_I (tSet_of h)
theorem d_setNewLc {i : Nat} {y : Str} (hh : Here k W X) (hi : DIt X W tg iter ci) (ok : BlkOk X.N X.env.scope scope own) (hg : ∀ (s : Shared) (H : Hp) (C : Addr) (cl : List (Str × Addr)) (fp : List Addr), Here k W0 (X.blk s H scope (compEnvC scope cl C X.env) fp) → DTg (X.blk s H scope (compEnvC scope cl C X.env) fp) tg g as ts)
    (ht : ∀ (s : Shared) (H : Hp) (C : Addr) (cl : List (Str × Addr)) (fp : List Addr), Here k W0 (X.blk s H scope (compEnvC scope cl C X.env) fp) → DIfs (X.blk s H scope (compEnvC scope cl C X.env) fp) W0 ifs tt ct)
    (he : ∀ (s : Shared) (H : Hp) (C : Addr) (cl : List (Str × Addr)) (fp : List Addr), Here k W0 (X.blk s H scope (compEnvC scope cl C X.env) fp) → PE (X.blk s H scope (compEnvC scope cl C X.env) fp) elt (tE (ctOf X) W0 ce)) (hi2 : X.N[i]? = some y := by rfl) (hyl : X.env.scope.names.lookup y = some .local := by rfl)
    (hsw : swapsWith (.ListComp elt [⟨tg, iter, ifs, 0⟩] scope pos) (some (.Name y py)) spos.line X.env = pure true := by exact sw_true rfl rfl rfl (by decide +kernel))
    (hts : ∀ i ∈ ts, i ∈ own.map (·.2) := by decide) (hs : ∀ x, foldedSetIterable iter X.env x = pure x := by intro _; rfl) :
    PS X (.Assign [.Name y py] (.ListComp elt [⟨tg, iter, ifs, 0⟩] scope pos) spos) (tS (ctOf X) W (mSet i (mNewLc (own.map (·.2)) ci as ct ce))) := by
  obtain ⟨wi, p1, k1⟩ := hi.ex
  exact ps_imp (ps_setLc hh.calm hh.nd hi2 hyl hsw p1 ok (fun s H C cl fp => (hg s H C cl fp (hh.blk s H _ _ fp)).p) (fun s H C cl fp => (ht s H C cl fp (hh.blk s H _ _ fp)).p) (fun s H C cl fp => he s H C cl fp (hh.blk s H _ _ fp)) hs) fun D σ H h => lc_of k1 (hg {} (fun _ => none) 0 [] [] (hh.blk _ _ _ _ _)).k (ht {} (fun _ => none) 0 [] [] (hh.blk _ _ _ _ _)).k hts fin_M (tSet_of h)
end

/-! ### stores -/
section
variable {X : Cx} {k : Nat} {W : WT} {o i value a b e : Expr} {pos pos' apos cpos : Pos} {co ci cv ca cb : ME} {cA : MA}
/-- o[i] = e, o a dict that may change -/
def mDPut (co ci cv : ME) : MS := fun s m => (cv s m).then_ s fun v m1 => (co s m1).then_ s fun x m2 => (ci s m2).then_ s fun y m3 => match x with
  | .ref j => (match m3.ob j with
    | some (.dk ks ds) => (match keyOf (view m3 y) with
      | some kk => if ks.length < sizeLine ∧ ks.length = ds.length then .nx s (m3.put j (.dk ((putD (ks.zip ds) kk v).map (·.1)) ((putD (ks.zip ds) kk v).map (·.2)))) else .bad
      | none => .bad)
    | some (.dt ks ds) => (match view m3 y with
      | .tup es => (match ikeysOf es with
        | some kk => if ks.length < sizeLine ∧ ks.length = ds.length then .nx s (m3.put j (.dt ((putD (ks.zip ds) kk v).map (·.1)) ((putD (ks.zip ds) kk v).map (·.2)))) else .bad
        | none => .bad)
      | _ => .bad)
    | _ => .bad)
  | _ => .bad
theorem zip_rel {κ : Type} {K : PySem.W.Frag} {io : Nat → Addr} {F : Addr → Prop} {n : Nat} {H : Hp} {ks : List κ} {ds : List D} {kvs : List (κ × V)} (h1 : kvs.map (·.1) = ks) (h2 : RelDs K io F n H ds (kvs.map (·.2))) : RelE K io F n H (ks.zip ds) kvs := by
  have hl := h2.len
  rw [List.length_map] at hl
  have hk : ks.length = ds.length := by rw [hl, ← h1, List.length_map]
  refine RelE.join ?_ ?_
  · rw [List.map_fst_zip (by omega), h1]
  · rw [List.map_snd_zip (by omega)]; exact h2
theorem d_dput (hh : Here k W X) (ho : PE X o (tE (ctOf X) W co)) (hi : PE X i (tE (ctOf X) W ci)) (hv : PE X value (tE (ctOf X) W cv)) (hs : swapsWith value (some (.Subscript o i pos')) pos.line X.env = pure false := by rfl) :
    PS X (.Assign [.Subscript o i pos'] value pos) (tS (ctOf X) W (mDPut co ci cv)) := by
  refine ps_imp (ps_dput (Nat.lt_of_le_of_lt (by omega) hh.hu) ho hi hv hs) fun D σ H h => ?_
  obtain ⟨io, F, m, sd, S, rs, p⟩ := h
  refine ⟨io, F, m, sd, S, rs, (PostS.then_ (R := RD (ctOf X)) S rs p).imp fun v H1 ⟨io1, F1, m1, d1, S1, rs1, r1, p1⟩ => ?_⟩
  have q2 := PostS.then_ (R := RD (ctOf X)) S1 rs1 p1
  refine ⟨io1, F1, m1, sd, S1, rs1, ?_⟩
  cases e2 : co sd m1 with
  | bad => rw [e2] at q2; exact q2
  | exc C fs m2 => rw [e2] at q2; exact q2
  | ok d2 m2 =>
    rw [e2] at p1
    simp only [Res.then_ok] at p1
    intro io2 F2 H2 x E2 S2 r2
    have r1' := r1.mono (S1.mono E2)
    have rs2 := rs1.mono (S1.mono E2)
    have p2 := p1.ext E2
    have q3 := PostS.then_ (R := RD (ctOf X)) S2 rs2 p2
    refine ⟨io2, F2, m2, sd, S2, rs2, ?_⟩
    cases e3 : ci sd m2 with
    | bad => rw [e3] at q3; exact q3
    | exc C fs m3 => rw [e3] at q3; exact q3
    | ok d3 m3 =>
      rw [e3] at p2
      simp only [Res.then_ok] at p2
      intro io3 F3 H3 y E3 S3 r3
      have r1'' := r1'.mono (S2.mono E3)
      have r2' := r2.mono (S2.mono E3)
      have rs3 := rs2.mono (S2.mono E3)
      have p3 := p2.ext E3
      cases d2 with
      | ref j =>
        simp only at p3
        simp only [RelD] at r2'
        cases q : m3.ob j with
        | none => rw [q] at p3; exact p3.elim
        | some u =>
          rw [q] at p3
          cases u with
          | dk ks ds =>
            simp only at p3
            cases q5 : keyOf (view m3 d3) with
            | none => rw [q5] at p3; exact p3.elim
            | some kk =>
              rw [q5] at p3
              simp only at p3
              split at p3
              · rename_i hl
                obtain ⟨kvs, g1, g2, g3⟩ := S3.ob j _ q
                have ey := keyOf_view r3 q5
                have hlen : kvs.length < sizeLine := by have := hl.1; rw [← g2, List.length_map] at this; exact this
                have rE := (zip_rel g2 g3).put (k := kk) r1''
                refine ⟨io3 j, _, r2'.2, .inl ⟨kvs, kk, g1, ey, hlen, rfl⟩, ?_⟩
                have E4 := Ext.put (u' := .dk ((putD (ks.zip ds) kk d1).map (·.1)) ((putD (ks.zip ds) kk d1).map (·.2))) (o := .dK (putK kvs kk v)) S3 q
                have rE' := rE.split
                exact p3 io3 F3 _ σ E4 (S3.put q ⟨putK kvs kk v, upd_same, rE'.1, rE'.2.mono (S3.mono E4)⟩) (rs3.mono (S3.mono E4))
              · exact p3.elim
          | dt ks ds =>
            simp only at p3
            split at p3
            · rename_i es e5
              cases q5 : ikeysOf es with
              | none => rw [q5] at p3; exact p3.elim
              | some kk =>
                rw [q5] at p3
                simp only at p3
                split at p3
                · rename_i hl
                  obtain ⟨kvs, g1, g2, g3⟩ := S3.ob j _ q
                  obtain ⟨b, xs, rfl, t, qq⟩ := is_tup r3 e5
                  have ey := keysOf_rel qq (ikeys_keys q5)
                  subst ey
                  have tH : H3 b = some (.tup (kk.map kV)) := by
                    rcases t with ⟨_, t⟩ | ⟨t, z, r, e⟩
                    · exact t
                    · cases es with
                      | nil => simp only [ikeysOf, Option.some.injEq] at q5; subst q5; cases e
                      | cons d es =>
                        cases d with
                        | int i =>
                          simp only [ikeysOf, Option.map_eq_some_iff] at q5
                          obtain ⟨r', _, rfl⟩ := q5
                          cases e
                        | _ => simp only [ikeysOf] at q5; cases q5
                  have hlen : kvs.length < sizeLine := by have := hl.1; rw [← g2, List.length_map] at this; exact this
                  have rE := (zip_rel g2 g3).put (k := kk) r1''
                  refine ⟨io3 j, _, r2'.2, .inr ⟨kvs, kk, b, g1, rfl, tH, hlen, rfl⟩, ?_⟩
                  have E4 := Ext.put (u' := .dt ((putD (ks.zip ds) kk d1).map (·.1)) ((putD (ks.zip ds) kk d1).map (·.2))) (o := .dT (putK kvs kk v)) S3 q
                  have rE' := rE.split
                  exact p3 io3 F3 _ σ E4 (S3.put q ⟨putK kvs kk v, upd_same, rE'.1, rE'.2.mono (S3.mono E4)⟩) (rs3.mono (S3.mono E4))
                · exact p3.elim
            · exact p3.elim
          | lst _ => exact p3.elim
          | ins _ _ => exact p3.elim
          | exn _ _ => exact p3.elim
      | _ => exact p3.elim
/-- l.append(e), l.extend(e) -/
def isL (m : Mem) (x : D) : Bool := match x with
  | .ref j => (match m.ob j with
    | some (.lst _) => true
    | _ => false)
  | _ => false
def appD (x y : D) (m : Mem) : Res D := match x with
  | .ref j => (match m.ob j with
    | some (.lst ds) => if ds.length < sizeLine then .ok .non (m.put j (.lst (ds ++ [y]))) else .bad
    | _ => .bad)
  | _ => .bad
def extD (x y : D) (m : Mem) : Res D := match x with
  | .ref j => (match m.ob j with
    | some (.lst ds) => (match view m y with
      | .lst es => if ds.length + es.length ≤ sizeLine then .ok .non (m.put j (.lst (ds ++ es))) else .bad
      | _ => .bad)
    | _ => .bad)
  | _ => .bad
def mL1 (f : D → D → Mem → Res D) (co ca : ME) : ME := fun s m => (co s m).bind fun x m1 => if isL m1 x = true then (ca s m1).bind fun y m2 => f x y m2 else .bad
theorem isL_rel {T : Ct} {io : Nat → Addr} {F : Addr → Prop} {m : Mem} {H : Hp} {d : D} {v : V} (S : Sim T io F m H) (r : RelD T.K io F m.nx H d v) (h : isL m d = true) : tyV T.K "list" v H := by
  unfold isL at h
  split at h
  · rename_i j
    split at h
    · rename_i ds q
      simp only [RelD] at r
      obtain ⟨xs, h1, _⟩ := S.ob j _ q
      rw [r.2]
      exact .inl ⟨rfl, xs, .inl (.inl h1)⟩
    · cases h
  · cases h
theorem lst_of {T : Ct} {io : Nat → Addr} {F : Addr → Prop} {m : Mem} {H : Hp} {x : D} {v : V} (S : Sim T io F m H) (r : RelD T.K io F m.nx H x v) {j : Nat} {ds : List D} (ex : x = .ref j) (q : m.ob j = some (.lst ds)) : ∃ xs, v = .ref (io j) ∧ H (io j) = some (.lst xs) ∧ RelDs T.K io F m.nx H ds xs := by
  subst ex
  simp only [RelD] at r
  obtain ⟨xs, h1, h2⟩ := S.ob j _ q
  exact ⟨xs, r.2, h1, h2⟩
theorem tL1_of {f : D → D → Mem → Res D} {σ : L2.St} {H : Hp} {Q : VK} (h : tE (ctOf X) W (mL1 f co ca) σ H Q) : tE (ctOf X) W co σ H fun x H1 => tyV X.K "list" x H1 ∧ tE (ctOf X) W ca σ H1 fun y H2 =>
    ∃ io F m d e, Sim (ctOf X) io F m H2 ∧ RelD X.K io F m.nx H2 d x ∧ RelD X.K io F m.nx H2 e y ∧ Post (RD (ctOf X)) (ctOf X) (fun cls d H' => W cls d σ H') io F m H2 (f d e m) Q := by
  refine (tG.bind (R := RD (ctOf X)) (R' := RD (ctOf X)) (c := co) (k := fun x s m1 => if isL m1 x = true then (ca s m1).bind fun y m2 => f x y m2 else .bad) h).imp fun x H1 h2 => ?_
  obtain ⟨io, F, m, sd, d, S, rs, r, p⟩ := h2
  dsimp only at p
  split at p
  · rename_i hl
    refine ⟨isL_rel S r hl, ?_⟩
    have h3 : tK (RD (ctOf X)) (RD (ctOf X)) (ctOf X) W (fun x s m1 => (ca s m1).bind fun y m2 => f x y m2) x σ H1 Q := ⟨io, F, m, sd, d, S, rs, r, p⟩
    refine (tK.bind (R := RD (ctOf X)) (monoD _) h3).imp fun y H2 h4 => ?_
    obtain ⟨io, F, m, sd, ⟨d, e⟩, S, rs, ⟨r1, r2⟩, p⟩ := h4
    exact ⟨io, F, m, d, e, S, r1, r2, p⟩
  · exact p.elim
theorem d_append (ho : PE X o (tE (ctOf X) W co)) (ha : PE X a (tE (ctOf X) W ca)) (h1 : attributeBase o "append" X.env (eval o X.env) = eval o X.env := by rfl)
    (h2 : (((backTo cpos (starEach [a] X.env)).all fun x => !x.1) && ((backToKw cpos (keywordEach [] X.env)).all fun x => x.1.isSome) && decide (([a].length + ([] : List Keyword).length + if ([] : List Keyword).isEmpty = true then 0 else 1) < 30)) = true := by rfl)
    (h3 : (apos.endLine == cpos.line) = true := by rfl) (h4 : starEach [a] X.env = (false, eval a X.env) :: starEach [] X.env := by rfl) (h5 : (backTo cpos (starEach [] X.env)).any (·.1) = false := by rfl) :
    PE X (.Call (.Attribute o "append" apos) [a] [] cpos) (tE (ctOf X) W (mL1 appD co ca)) :=
  pe_imp (pe_bm PySem.F.plainAttrs_list PySem.F.slot_list_append PySem.F.type_list_append mt_append ho (pa_cons ha pa_nil h4) h1 h2 h3 h4 h5) fun σ H Q h => (tL1_of h).imp fun x H1 ⟨ty, h2⟩ => ⟨ty, h2.imp fun y H2 h3 => by
    obtain ⟨io, F, m, d, e, S, r1, r2, p⟩ := h3
    unfold appD at p
    split at p
    · rename_i j
      split at p
      · rename_i ds q
        split at p
        · rename_i hl
          obtain ⟨xs, ev, g1, g2⟩ := lst_of S r1 rfl q
          refine ⟨io j, xs, y, ev, rfl, g1, by rw [← g2.len]; exact hl, ?_⟩
          have E := Ext.put (u' := .lst (ds ++ [e])) (o := .lst (xs ++ [y])) S q
          refine p io F _ _ E (S.put q ⟨xs ++ [y], upd_same, ?_⟩) (by simp only [RD, RelD])
          exact (RelDs.app g2 (by simp only [RelDs]; exact ⟨r2, trivial⟩)).mono (S.mono E)
        · exact p.elim
      · exact p.elim
    · exact p.elim⟩
theorem d_extend (ho : PE X o (tE (ctOf X) W co)) (ha : PE X a (tE (ctOf X) W ca)) (h1 : attributeBase o "extend" X.env (eval o X.env) = eval o X.env := by rfl)
    (h2 : (((backTo cpos (starEach [a] X.env)).all fun x => !x.1) && ((backToKw cpos (keywordEach [] X.env)).all fun x => x.1.isSome) && decide (([a].length + ([] : List Keyword).length + if ([] : List Keyword).isEmpty = true then 0 else 1) < 30)) = true := by rfl)
    (h3 : (apos.endLine == cpos.line) = true := by rfl) (h4 : starEach [a] X.env = (false, eval a X.env) :: starEach [] X.env := by rfl) (h5 : (backTo cpos (starEach [] X.env)).any (·.1) = false := by rfl) :
    PE X (.Call (.Attribute o "extend" apos) [a] [] cpos) (tE (ctOf X) W (mL1 extD co ca)) :=
  pe_imp (pe_bm PySem.F.plainAttrs_list PySem.F.slot_list_extend PySem.F.type_list_extend mt_extend ho (pa_cons ha pa_nil h4) h1 h2 h3 h4 h5) fun σ H Q h => (tL1_of h).imp fun x H1 ⟨ty, h2⟩ => ⟨ty, h2.imp fun y H2 h3 => by
    obtain ⟨io, F, m, d, e, S, r1, r2, p⟩ := h3
    unfold extD at p
    split at p
    · rename_i j
      split at p
      · rename_i ds q
        split at p
        · rename_i es qe
          split at p
          · rename_i hl
            obtain ⟨xs, ev, g1, g2⟩ := lst_of S r1 rfl q
            obtain ⟨b, ys, rfl, tb, qb⟩ := at_lst S r2 qe
            refine ⟨io j, b, xs, ys, ev, rfl, g1, tb, by rw [← g2.len, ← qb.len]; exact hl, ?_⟩
            have E := Ext.put (u' := .lst (ds ++ es)) (o := .lst (xs ++ ys)) S q
            refine p io F _ _ E (S.put q ⟨xs ++ ys, upd_same, ?_⟩) (by simp only [RD, RelD])
            exact (RelDs.app g2 qb).mono (S.mono E)
          · exact p.elim
        · exact p.elim
      · exact p.elim
    · exact p.elim⟩
end
end Ev

set_option Elab.async false
set_option linter.all false
set_option maxRecDepth 100000
set_option autoImplicit false
/-! Ev9: the end: the law's own call. -/
namespace Ev
open PySem PySem.Spec PyProof.Rows L2
def mem0 : Mem := ⟨0, fun _ => none⟩
theorem sim0 (T : Ct) (io : Nat → Addr) (H : Hp) : Sim T io (fun b => H b ≠ none) mem0 H := by
  refine ⟨fun _ _ _ _ z => ?_, fun _ _ z => ?_, fun _ _ z => ?_, fun _ _ z => ?_, fun b z => ?_⟩
  · exact nomatch z
  · exact nomatch z
  · exact nomatch z
  · exact nomatch z
  · cases q : H b with
    | none => exact absurd q z
    | some o => exact ⟨o, rfl⟩
/-- the law's call, from its computation -/
theorem lawG {P : Program} {w : World} {K : PySem.W.Frag} {mg mb : Str → Option Value} {k : Nat} {fa a : Addr} {fd : FuncData} {x : Str} {g : List D → Mem → Res D} {s : Shared} {vs : List Value} {ns : List Int}
    (hK : K.In s.heap) (hG : s.heap.Ns mainGlobals mg) (hB : s.heap.Ns builtinsNs mb) (hBB : ∀ x : Str, x ≠ "__name__" → mb x = bootBuiltins x) (hL : s.heap.NoLimit) (hg : s.gens = #[])
    (ha : s.heap.get? a = some { cls := .type "list", data := .seq vs.toArray }) (hi : IntsAre vs ns) (hl : ns.length ≤ sizeLine) (hr : Room k callerA)
    (U : ∀ base : Heap, K.In base → base.Ns mainGlobals mg → FnG P w K mg base k fa fd [x] (spM ⟨K, mg⟩ 1 g)) (hb : ∀ (s : Shared) (u : Value), BindsTo s fd ⟨[u], []⟩ [(x, u)])
    (ht : ∃ m', g [.scr ns] mem0 = .ok (.bl true) m') :
    codeAny (model P w) callerA (.call (.ref fa) ⟨[.ref a], []⟩)
      (fun r s' => r = .ok (.ret (.bool true)) ∧ OldK s.heap s'.heap ∧ s'.os = s.os ∧ AllBare s'.gens) s := by
  have rv := vals_ints hi
  have lv := hi.length
  obtain ⟨H, hO, hS, hok, hA, hKa⟩ : ∃ H : Hp, Only H ∧ ScrF K (fun b => H b ≠ none) H a ns ∧ HOk P w H s.heap ∧
      (∀ b, H b ≠ none → b = a) ∧ (H a ≠ none → K.lookup a = none) := by
    cases hk : K.lookup a with
    | some o =>
      have e := hK a o hk
      rw [ha] at e
      cases e
      refine ⟨fun _ => none, fun _ => .inl rfl, .inr ⟨_, vs.toArray, _, hk, rfl, rfl, rfl, ?_, by simpa using rv⟩, fun b u z => ?_, fun b z => absurd rfl z, fun z => absurd rfl z⟩
      · rw [List.size_toArray, lv]; exact hl
      · exact absurd z (by simp)
    | none =>
      have at_ : ∀ b, (if b = a then some (HO.frz { cls := .type "list", data := .seq vs.toArray } (.lst (ns.map V.int))) else none) ≠ none → b = a := fun b z => by
        by_cases e : b = a
        · exact e
        · rw [if_neg e] at z; exact absurd rfl z
      refine ⟨fun b => if b = a then some (.frz { cls := .type "list", data := .seq vs.toArray } (.lst (ns.map V.int))) else none, fun b => ?_, .inl ⟨?_, _, if_pos rfl⟩, fun b u z => ?_, at_, fun _ => rfl⟩
      · by_cases e : b = a
        · exact .inr ⟨_, _, if_pos e⟩
        · exact .inl (if_neg e)
      · dsimp only; rw [if_pos rfl]; simp
      · dsimp only at z
        have e : b = a := at_ b (by rw [z]; simp)
        subst e
        rw [if_pos rfl] at z
        cases z
        exact ⟨ha, by rw [List.length_map]; exact hl, vs, _, rv, ha⟩
  have free : ∀ {b : Addr} {o : Obj}, s.heap.get? b = some o → (∀ es ep, o.data = .dict es ep → H b = none) := fun {b o} e es ep d => by
    cases q : H b with
    | none => rfl
    | some u =>
      have e' := hA b (by rw [q]; simp)
      subst e'
      rw [ha] at e
      cases e
      cases (show Data.seq vs.toArray _ = Data.dict es ep from d)
  have nsK : ∀ {b : Addr} {m : Str → Option Value}, s.heap.Ns b m → (hidT s.heap H).Ns b m := by
    rintro b m ⟨o, es, ep, e, d, r⟩
    exact ⟨o, es, ep, hidT_get e (free e es ep d), d, r⟩
  have inK : K.In (hidT s.heap H) := fun b o e => by
    refine hidT_get (hK b o e) ?_
    cases q : H b with
    | none => rfl
    | some u =>
      have e' := hA b (by rw [q]; simp)
      subst e'
      rw [hKa (by rw [q]; simp)] at e
      cases e
  obtain ⟨mc, c1, c2⟩ := hL
  have hM : Mod K mg (hidT s.heap H) := ⟨inK, nsK hG, ⟨mb, nsK hB, hBB⟩, mc, nsK c1, c2⟩
  have e0 : Env0 P w K mg (hidT s.heap H) callerA [] s H :=
    ⟨rfl, hM, fun b o e => of_hidT e, Nat.le_of_eq (hidT_size _ _), trivial, fun b hb => absurd (show b ∈ ([] : List Addr) from hb) (by simp), hok, .of_eq hg⟩
  obtain ⟨m', hm⟩ := ht
  have sp : spM ⟨K, mg⟩ 1 g [.ref a] H (fun v _ => v = .bl true) fun _ _ _ => False := by
    refine ⟨rfl, fun _ => a, fun b => H b ≠ none, mem0, [.scr ns], sim0 _ _ _, ?_, ?_⟩
    · simp only [RelDs, RelD]
      exact ⟨⟨a, rfl, hS⟩, trivial⟩
    · rw [hm]
      intro io' F' H' v E S r
      simpa only [RD, RelD] using r
  refine codeAny_mono ((U _ inK (nsK hG)).run callerA [] s H ⟨[.ref a], []⟩ [.ref a] [.ref a] _ _ rfl hr e0 (hb s (.ref a)) (.cons rfl .nil) sp) fun r s' h => ?_
  cases r with
  | error e =>
    obtain ⟨_, _, _, _, _, _, _, _, _, _, _, _, z⟩ := h
    exact z.elim
  | ok fl =>
    cases fl with
    | next => exact h.elim
    | brk => exact h.elim
    | cont => exact h.elim
    | ret u =>
      obtain ⟨v, H', os, bare, un, hok', r', q⟩ := h
      obtain rfl : v = .bl true := q
      obtain rfl : u = Value.bool true := r'
      refine ⟨rfl, OldK.of_keep fun b o e => ?_, os, bare⟩
      cases q : H b with
      | none => exact un.keep b o e q (by simp [frs]) (by simp)
      | some u =>
        rcases hO b with z | ⟨ob, xs, z⟩
        · rw [q] at z; cases z
        · have z2 := un.frzs b ob _ z
          obtain ⟨e1, _⟩ := hok b _ z
          obtain ⟨e2, _⟩ := hok' b _ z2
          rw [e] at e1
          cases e1
          exact e2
/-- the goal that k_head leaves, from the computation of the law -/
theorem walkG {l : PySem.W.OpenLaw} {n k : Nat} {q : Program} {loose : List Str} {XP : (Str → Option Value) → Heap → Prop} {YP : World → Heap → Prop} {d : DefRec} {K : Params → PySem.W.Frag} {x : Str} {g : List D → Mem → Res D}
    (hn : l.most = some n) (hn2 : n ≤ sizeLine) (hdf : d.params.defaults = []) (hr : Room k callerA) (hY : ∀ (w : World) (h : Heap), YP w h → (K w.params).In h)
    (U : ∀ (w : World) (mg : Str → Option Value) (fa : Addr) (h : Heap), (K w.params).In h → h.Ns mainGlobals mg → mg d.name = some (.ref fa) →
      ∃ fd : FuncData, (∀ (s : Shared) (u : Value), BindsTo s fd ⟨[u], []⟩ [(x, u)]) ∧ ∀ base : Heap, (K w.params).In base → base.Ns mainGlobals mg → FnG l.prog w (K w.params) mg base k fa fd [x] (spM ⟨K w.params, mg⟩ 1 g))
    (ht : ∀ ns : List Int, ns.length ≤ n → ∃ m', g [.scr ns] mem0 = .ok (.bl true) m') : PySem.W.WalkO q loose XP YP l.row.toRowW d [] (fun f vs => PySem.call f vs) := by
  refine Att.attach_call hn hdf fun w s₀ s₁ mg mb fa o pm cd doc a vs ns G Y ho hd hcd hmg hobj hints hlen hg => ?_
  have KX := hY w _ Y
  obtain ⟨fd, hb, hF⟩ := U w mg fa _ KX G.T.g hmg
  exact lawG KX G.T.g G.T.b G.T.builtins G.T.nolimit hg hobj hints (Nat.le_trans hlen hn2) hr hF hb (ht ns hlen)
end Ev

set_option Elab.async false
set_option linter.all false
set_option maxRecDepth 100000
set_option autoImplicit false
/-! Ev10: short words for the printed walks; constants of the module. -/
namespace Ev
open PySem PySem.Spec PyProof.Rows L2
def fuelW : Nat := 1000000000000
theorem d_v {X : Cx} {W : WT} {pos : Pos} {x : Str} (i : Nat) (hN : X.N[i]? = some x := by rfl) (hv : Vis X.env.scope x := by first | exact .inl rfl | exact .inr (.inl rfl) | exact .inr (.inr rfl)) (hd : (x == ("__debug__" : Str)) = false := by decide)
    (hcd : (x == ("__classdict__" : Str)) = false := by decide) : PE X (.Name x pos) (tE (ctOf X) W (mV i)) := d_var hN hv hd hcd
theorem defG_bad {P : Program} {w : World} {K : PySem.W.Frag} {mg : Str → Option Value} {base : Heap} {x : Str} {st : Stmt} {ps : List Str} {f : Addr} {fd : FuncData} (A : DefAt K mg x st ps f fd) : DefG P w K mg base 0 x ps.length (fun _ _ => .bad) :=
  ⟨⟨f, fd, ps, ⟨fun vs H Q E q => by
    obtain ⟨_, io, F, m, ds, S, r, p⟩ := q
    exact p.elim, fun A outer s H args us vs Q E hg hr he hb hv hs => by
    obtain ⟨_, io, F, m, ds, S, r, p⟩ := hs
    exact p.elim⟩, A.mg_, A.U.kp, .all A.bd⟩, fun ds m h => rfl⟩
section
variable {K : PySem.W.Frag} {mg : Str → Option Value} {h : Heap} {x : Str}
theorem glob_int {i : Int} {t : Tok} (X : K.In h) (G : h.Ns mainGlobals mg) (a : PySem.W.nsIn K mainGlobals x = some (some (.int i t))) : GlobOk ⟨K, mg⟩ x (.int i) :=
  ⟨.int i, _, PySem.W.mg_of X G a, ⟨_, rfl⟩, fun _ _ _ _ => by simp only [RelD]⟩
theorem glob_str {i : Str} {t : Tok} (X : K.In h) (G : h.Ns mainGlobals mg) (a : PySem.W.nsIn K mainGlobals x = some (some (.str i t))) : GlobOk ⟨K, mg⟩ x (.str i) :=
  ⟨.str i, _, PySem.W.mg_of X G a, ⟨_, rfl⟩, fun _ _ _ _ => by simp only [RelD]⟩
/-- a written tuple of ints and texts, the first a text -/
def flatW : D → Value → Bool
  | .int i, .int j _ => i == j
  | .str s, .str z _ => s == z
  | _, _ => false
def flatWs : List D → List Value → Bool
  | [], [] => true
  | d :: ds, v :: vs => flatW d v && flatWs ds vs
  | _, _ => false
def vOf : D → V
  | .int i => .int i
  | .str s => .str s
  | _ => .non
theorem flatWs_rel {K : PySem.W.Frag} {io : Nat → Addr} {F : Addr → Prop} {n : Nat} {H : Hp} : ∀ {ds : List D} {vs : List Value}, flatWs ds vs = true → Vals (ds.map vOf) vs ∧ RelDs K io F n H ds (ds.map vOf)
  | [], [], _ => ⟨.nil, by simp only [List.map_nil, RelDs]⟩
  | [], _ :: _, h => by cases h
  | _ :: _, [], h => by cases h
  | d :: ds, v :: vs, h => by
    unfold flatWs at h
    rw [Bool.and_eq_true] at h
    obtain ⟨h1, h2⟩ := flatWs_rel (K := K) (io := io) (F := F) (n := n) (H := H) h.2
    have h0 := h.1
    unfold flatW at h0
    split at h0
    · have e := eq_of_beq h0
      subst e
      exact ⟨.cons ⟨_, rfl⟩ h1, by simp only [List.map_cons, RelDs, vOf, RelD]; exact ⟨trivial, h2⟩⟩
    · have e := eq_of_beq h0
      subst e
      exact ⟨.cons ⟨_, rfl⟩ h1, by simp only [List.map_cons, RelDs, vOf, RelD]; exact ⟨trivial, h2⟩⟩
    · cases h0
theorem glob_tup {p : Addr} {od : Option Addr} {its : Array Value} {n : Nat} {sl : Array (Option Value)} {s : Str} {ds : List D} (X : K.In h) (G : h.Ns mainGlobals mg) (a : PySem.W.nsIn K mainGlobals x = some (some (.ref p)))
    (l : K.lookup p = some ⟨.type "tuple", od, .seq its n, sl⟩) (hf : flatWs (.str s :: ds) its.toList = true) (hz : its.size ≤ sizeLine) : GlobOk ⟨K, mg⟩ x (.tup (.str s :: ds)) := by
  refine ⟨.ref p, _, PySem.W.mg_of X G a, rfl, fun io F n H => ?_⟩
  obtain ⟨h1, h2⟩ := flatWs_rel (K := K) (io := io) (F := F) (n := n) (H := H) hf
  simp only [RelD]
  exact ⟨p, _, rfl, .inr ⟨⟨_, its, _, l, rfl, rfl, hz, h1⟩, s, ds.map vOf, rfl⟩, h2⟩
end
end Ev

set_option Elab.async false
set_option linter.all false
set_option maxRecDepth 100000
set_option autoImplicit false
/-! Ev11: what a computation comes to, told backwards. -/
namespace Ev
open PySem PySem.Spec PyProof.Rows L2
abbrev XQ := Str → List (Str × D) → Mem → Prop
abbrev XS := Str → List (Str × D) → Slots → Mem → Prop
def wp {α : Type} (r : Res α) (Q : α → Mem → Prop) (X : XQ) : Prop := match r with
  | .ok a m => Q a m
  | .exc C fs m => X C fs m
  | .bad => False
def ws (o : Out) (N : Slots → Mem → Prop) (R : D → Mem → Prop) (B C : Slots → Mem → Prop) (X : XS) : Prop := match o with
  | .nx s m => N s m
  | .bk s m => B s m
  | .ct s m => C s m
  | .rt d m => R d m
  | .xc K fs s m => X K fs s m
  | .bad => False
abbrev noX : XQ := fun _ _ _ => False
abbrev noS : Slots → Mem → Prop := fun _ _ => False
abbrev noXs : XS := fun _ _ _ _ => False
/-- a store in a dict -/
def dputP (x y v : D) (m : Mem) (P : Mem → Prop) : Prop := ∃ j ks ds kk, x = .ref j ∧ m.ob j = some (.dk ks ds) ∧ keyOf (view m y) = some kk ∧ ks.length < sizeLine ∧ ks.length = ds.length ∧
  P (m.put j (.dk ((putD (ks.zip ds) kk v).map (·.1)) ((putD (ks.zip ds) kk v).map (·.2))))
def dictP (ps : List (D × D)) (Q : D → Mem → Prop) (m : Mem) : Prop := ∃ es, dictK ps = some es ∧ es.length ≤ 15 ∧ Q (.dk ((mergeD [] es).map (·.1)) ((mergeD [] es).map (·.2))) m
def dictN (ps : List (D × D)) (Q : D → Mem → Prop) (m : Mem) : Prop := ∃ es, dictK ps = some es ∧ es.length ≤ 15 ∧ Q (.ref m.nx) (m.add (.dk ((mergeD [] es).map (·.1)) ((mergeD [] es).map (·.2))))
/-- by a truth -/
def pick (c : Bool) (A B : Prop) : Prop := (c = true → A) ∧ (c = false → B)
theorem pick_t {c : Bool} {A B : Prop} (h : c = true) (a : A) : pick c A B := ⟨fun _ => a, fun z => by rw [h] at z; cases z⟩
theorem pick_f {c : Bool} {A B : Prop} (h : c = false) (b : B) : pick c A B := ⟨fun z => by rw [h] at z; (cases z), fun _ => b⟩
theorem pick_d {p : Prop} [Decidable p] {A B : Prop} (a : p → A) (b : ¬ p → B) : pick (decide p) A B := ⟨fun h => a (of_decide_eq_true h), fun h => b (of_decide_eq_false h)⟩
theorem pick_nd {p : Prop} [Decidable p] {A B : Prop} (a : ¬ p → A) (b : p → B) : pick (!(decide p)) A B := ⟨fun h => a (by simpa using h), fun h => b (by simpa using h)⟩
theorem pick_b {c : Bool} {A B : Prop} (a : c = true → A) (b : c = false → B) : pick c A B := ⟨a, b⟩
theorem pick_dT {p : Prop} [Decidable p] {A B : Prop} (h : p) (a : A) : pick (decide p) A B := pick_t (decide_eq_true h) a
theorem pick_dF {p : Prop} [Decidable p] {A B : Prop} (h : ¬ p) (b : B) : pick (decide p) A B := pick_f (decide_eq_false h) b
theorem pick_if {c : Bool} {N : Prop → Prop} {A B : Prop} (h : pick c A B) : if c = true then A else B := by
  cases c
  · exact h.2 rfl
  · exact h.1 rfl
section
variable {α β : Type} {Q : α → Mem → Prop} {X : XQ} {m : Mem}
theorem wp_ok {a : α} (h : Q a m) : wp (.ok a m) Q X := h
theorem wp_bind {r : Res β} {k : β → Mem → Res α} (h : wp r (fun b m1 => wp (k b m1) Q X) X) : wp (r.bind k) Q X := by
  cases r with
  | ok a m => exact h
  | exc C fs m => exact h
  | bad => exact h
theorem wp_of {o : Option α} {a : α} (e : o = some a) (h : Q a m) : wp (Res.of o m) Q X := by subst e; exact h
theorem wp_mono {r : Res α} {Q' : α → Mem → Prop} {X' : XQ} (h : wp r Q' X') (i : ∀ a m, Q' a m → Q a m) (j : ∀ C fs m, X' C fs m → X C fs m) : wp r Q X := by
  cases r with
  | ok a m => exact i _ _ h
  | exc C fs m => exact j _ _ _ h
  | bad => exact h
theorem wp_imp {r : Res α} {Q' : α → Mem → Prop} (h : wp r Q' noX) (i : ∀ a m, Q' a m → Q a m) : wp r Q X := wp_mono h i fun _ _ _ z => z.elim
theorem wp_det {r : Res α} (h : wp r Q noX) : ∃ a m, r = .ok a m ∧ Q a m := by
  cases r with
  | ok a m => exact ⟨a, m, rfl, h⟩
  | exc C fs m => exact h.elim
  | bad => exact h.elim
theorem wp_eq {r r' : Res α} (e : r = r') (h : wp r' Q X) : wp r Q X := by subst e; exact h
end
section
variable {N : Slots → Mem → Prop} {R : D → Mem → Prop} {B C : Slots → Mem → Prop} {X : XS} {Q : D → Mem → Prop} {QT : Bool → Mem → Prop} {QA : List D → Mem → Prop} {XX : XQ} {s : Slots} {m : Mem} {a b c : ME} {ar : MA} {sa sb : MS} {t u : MT}
theorem ws_mono {o : Out} {N' : Slots → Mem → Prop} {R' : D → Mem → Prop} {B' C' : Slots → Mem → Prop} {X' : XS} (h : ws o N' R' B' C' X') (hn : ∀ s m, N' s m → N s m) (hr : ∀ d m, R' d m → R d m) (hb : ∀ s m, B' s m → B s m) (hc : ∀ s m, C' s m → C s m)
    (hx : ∀ K fs s m, X' K fs s m → X K fs s m) : ws o N R B C X := by
  cases o with
  | nx s m => exact hn _ _ h
  | bk s m => exact hb _ _ h
  | ct s m => exact hc _ _ h
  | rt d m => exact hr _ _ h
  | xc K fs s m => exact hx _ _ _ _ h
  | bad => exact h
/-! statements -/
theorem w_seq (h : ws (sa s m) (fun s1 m1 => ws (sb s1 m1) N R B C X) R B C X) : ws (mSeq sa sb s m) N R B C X := by
  unfold mSeq
  cases q : sa s m <;> rw [q] at h <;> exact h
theorem w_then {α : Type} {r : Res α} {f : α → Mem → Out} (h : wp r (fun a m1 => ws (f a m1) N R B C X) (fun K fs m1 => X K fs s m1)) : ws (r.then_ s f) N R B C X := by
  cases r with
  | ok a m => exact h
  | exc K fs m => exact h
  | bad => exact h
theorem w_skip (h : N s m) : ws (mSkip s m) N R B C X := h
theorem w_brk (h : B s m) : ws (mBrk s m) N R B C X := h
theorem w_cont (h : C s m) : ws (mCont s m) N R B C X := h
theorem w_ret (h : wp (a s m) R (fun K fs m1 => X K fs s m1)) : ws (mRet a s m) N R B C X := w_then h
theorem w_retN (h : R .non m) : ws (mRetN s m) N R B C X := h
theorem w_drop (h : wp (a s m) (fun _ m1 => N s m1) (fun K fs m1 => X K fs s m1)) : ws (mDrop a s m) N R B C X := w_then h
theorem w_set {i : Nat} (h : wp (a s m) (fun d m1 => N (s.set i (some d)) m1) (fun K fs m1 => X K fs s m1)) : ws (mSet i a s m) N R B C X := w_then h
theorem w_if (h : wp (t s m) (fun c m1 => pick c (ws (sa s m1) N R B C X) (ws (sb s m1) N R B C X)) (fun K fs m1 => X K fs s m1)) : ws (mIf t sa sb s m) N R B C X := by
  refine w_then (wp_mono h (fun c m1 p => ?_) fun _ _ _ z => z)
  cases c
  · exact p.2 rfl
  · exact p.1 rfl
theorem w_frz {i j : Nat} {ds : List D} (h1 : s[i]? = some (some (.ref j))) (h2 : m.ob j = some (.lst ds)) (h : N (s.set i (some (.lst ds))) (m.kill j)) : ws (mFrz i s m) N R B C X := by
  unfold mFrz; rw [h1]; dsimp only; rw [h2]; exact h
theorem w_asg {as : As} (h : wp (a s m) (fun d m1 => ∃ s1, as d s = some s1 ∧ N s1 m1) (fun K fs m1 => X K fs s m1)) : ws (mAsg as a s m) N R B C X := by
  refine w_then (wp_mono h (fun d m1 p => ?_) fun _ _ _ z => z)
  obtain ⟨s1, e, p⟩ := p
  rw [e]; exact p
theorem w_for {ci : MI} {as : As} (h : wp (ci s m) (fun ds m1 => ws (loopF as sa ds s m1) N R B C X) (fun K fs m1 => X K fs s m1)) : ws (mFor ci as sa s m) N R B C X := w_then h
theorem w_loop {as : As} {ds : List D} (I : List D → Slots → Mem → Prop) (h0 : I ds s m) (h1 : ∀ s m, I [] s m → N s m)
    (h2 : ∀ d ds s m, I (d :: ds) s m → ∃ s1, as d s = some s1 ∧ ws (sa s1 m) (fun s2 m2 => I ds s2 m2) R N (fun s2 m2 => I ds s2 m2) X) : ws (loopF as sa ds s m) N R B C X := by
  induction ds generalizing s m with
  | nil => exact h1 _ _ h0
  | cons d ds ih =>
    obtain ⟨s1, e, w⟩ := h2 _ _ _ _ h0
    unfold loopF
    rw [e]
    dsimp only
    cases q : sa s1 m with
    | nx s2 m2 => rw [q] at w; exact ih w
    | ct s2 m2 => rw [q] at w; exact ih w
    | bk s2 m2 => rw [q] at w; exact w
    | rt d m2 => rw [q] at w; exact w
    | xc K fs s2 m2 => rw [q] at w; exact w
    | bad => rw [q] at w; exact w
/-- n: how often at most -/
theorem w_while {n : Nat} (I : Nat → Slots → Mem → Prop) (j : Nat) (hj : j < n) (h0 : I j s m)
    (h2 : ∀ j s m, I j s m → wp (t s m) (fun c m1 => pick c (j ≠ 0 ∧ ws (sa s m1) (fun s2 m2 => I (j - 1) s2 m2) R N (fun s2 m2 => I (j - 1) s2 m2) X) (N s m1)) (fun K fs m1 => X K fs s m1)) : ws (mWhile n t sa s m) N R B C X := by
  show ws (loopW t sa n s m) N R B C X
  induction n generalizing j s m with
  | zero => omega
  | succ n ih =>
    unfold loopW
    refine w_then (wp_mono (h2 _ _ _ h0) (fun c m1 p => ?_) fun _ _ _ z => z)
    cases c
    · exact p.2 rfl
    · obtain ⟨hz, w⟩ := p.1 rfl
      rw [if_pos rfl]
      cases q : sa s m1 with
      | nx s2 m2 => rw [q] at w; exact ih (j - 1) (by omega) w
      | ct s2 m2 => rw [q] at w; exact ih (j - 1) (by omega) w
      | bk s2 m2 => rw [q] at w; exact w
      | rt d m2 => rw [q] at w; exact w
      | xc K fs s2 m2 => rw [q] at w; exact w
      | bad => rw [q] at w; exact w
theorem w_body {np n : Nat} {cm : MS} {ds : List D} (hl : ds.length = np) (h : ws (cm (entry n ds) m) (fun _ m1 => Q .non m1) Q noS noS (fun K fs _ m1 => XX K fs m1)) : wp (body np n cm ds m) Q XX := by
  unfold body
  rw [if_pos hl]
  cases q : cm (entry n ds) m <;> rw [q] at h <;> first | exact h | exact h.elim
/-! expressions -/
theorem v_c {d : D} (h : Q d m) : wp (mC d s m) Q XX := h
theorem v_v {i : Nat} {d : D} (e : s[i]? = some (some d)) (h : Q d m) : wp (mV i s m) Q XX := by unfold mV; rw [e]; exact h
theorem v_op {f : O2} (h : wp (a s m) (fun x m1 => wp (b s m1) (fun y m2 => wp (Res.of (f x y m2) m2) Q XX) XX) XX) : wp (mOp f a b s m) Q XX :=
  wp_bind (wp_mono h (fun _ _ z => wp_bind z) fun _ _ _ z => z)
theorem v_o1 {f : O1} (h : wp (a s m) (fun x m1 => wp (Res.of (f x m1) m1) Q XX) XX) : wp (mO1 f a s m) Q XX := wp_bind h
theorem v_isN (h : wp (a s m) (fun x m1 => Q (.bl (isNon x)) m1) XX) : wp (mIsN a s m) Q XX := wp_bind h
theorem v_notN (h : wp (a s m) (fun x m1 => Q (.bl (!isNon x)) m1) XX) : wp (mNotN a s m) Q XX := wp_bind h
theorem v_cb {f : OL} (h : wp (ar s m) (fun x m1 => wp (Res.of (f x m1) m1) Q XX) XX) : wp (mCB f ar s m) Q XX := wp_bind h
theorem v_call {g : List D → Mem → Res D} (h : wp (ar s m) (fun x m1 => wp (g x m1) Q XX) XX) : wp (mCall g ar s m) Q XX := wp_bind h
theorem a_nil (h : QA [] m) : wp (mNil s m) QA XX := h
theorem a_cons (h : wp (a s m) (fun d m1 => wp (ar s m1) (fun ds m2 => QA (d :: ds) m2) XX) XX) : wp (mCons a ar s m) QA XX :=
  wp_bind (wp_mono h (fun _ _ z => wp_bind z) fun _ _ _ z => z)
theorem v_tup (h : wp (ar s m) (fun ds m1 => ds.length ≤ sizeLine ∧ Q (.tup ds) m1) XX) : wp (mTup ar s m) Q XX :=
  wp_bind (wp_mono h (fun ds m1 z => by rw [if_pos z.1]; exact z.2) fun _ _ _ z => z)
theorem v_lst (h : wp (ar s m) (fun ds m1 => ds.length ≤ sizeLine ∧ Q (.lst ds) m1) XX) : wp (mLst ar s m) Q XX :=
  wp_bind (wp_mono h (fun ds m1 z => by rw [if_pos z.1]; exact z.2) fun _ _ _ z => z)
theorem v_newL (h : wp (ar s m) (fun ds m1 => ds.length ≤ sizeLine ∧ Q (.ref m1.nx) (m1.add (.lst ds))) XX) : wp (mNewL ar s m) Q XX :=
  wp_bind (wp_mono h (fun ds m1 z => by rw [if_pos z.1]; exact z.2) fun _ _ _ z => z)
theorem v_and (h : wp (a s m) (fun d m1 => ∃ c, d = .bl c ∧ pick c (wp (b s m1) Q XX) (Q (.bl false) m1)) XX) : wp (mAndV a b s m) Q XX :=
  wp_bind (wp_mono h (fun d m1 z => by
    obtain ⟨c, rfl, z⟩ := z
    cases c
    · exact z.2 rfl
    · exact z.1 rfl) fun _ _ _ z => z)
theorem v_or (h : wp (a s m) (fun d m1 => ∃ c, d = .bl c ∧ pick c (Q (.bl true) m1) (wp (b s m1) Q XX)) XX) : wp (mOrV a b s m) Q XX :=
  wp_bind (wp_mono h (fun d m1 z => by
    obtain ⟨c, rfl, z⟩ := z
    cases c
    · exact z.2 rfl
    · exact z.1 rfl) fun _ _ _ z => z)
theorem v_ifE (h : wp (t s m) (fun c m1 => pick c (wp (a s m1) Q XX) (wp (b s m1) Q XX)) XX) : wp (mIfE t a b s m) Q XX :=
  wp_bind (wp_mono h (fun c m1 z => by
    cases c
    · exact z.2 rfl
    · exact z.1 rfl) fun _ _ _ z => z)
theorem v_chain {f g : O2} (h : wp (a s m) (fun x m1 => wp (b s m1) (fun y m2 => ∃ q, f x y m2 = some (.bl q) ∧ pick q (wp (c s m2) (fun z m3 => wp (Res.of (g y z m3) m3) Q XX) XX) (Q (.bl false) m2)) XX) XX) : wp (mChain f g a b c s m) Q XX :=
  wp_bind (wp_mono h (fun x m1 z => wp_bind (wp_mono z (fun y m2 z => by
    obtain ⟨q, e, z⟩ := z
    rw [e]
    cases q
    · exact z.2 rfl
    · exact wp_bind (z.1 rfl)) fun _ _ _ z => z)) fun _ _ _ z => z)
theorem v_sl {lo hi : MO} (h : wp (a s m) (fun x m1 => wp (lo s m1) (fun l m2 => wp (hi s m2) (fun h m3 => wp (Res.of (opSl x l h m3) m3) Q XX) XX) XX) XX) : wp (mSl a lo hi s m) Q XX :=
  wp_bind (wp_mono h (fun _ _ z => wp_bind (wp_mono z (fun _ _ z => wp_bind z) fun _ _ _ z => z)) fun _ _ _ z => z)
theorem o_partN {Q : Option Int → Mem → Prop} (h : Q none m) : wp (mPartN s m) Q XX := h
theorem o_part {Q : Option Int → Mem → Prop} (h : wp (a s m) (fun d m1 => ∃ i, view m1 d = .int i ∧ Q (some i) m1) XX) : wp (mPart a s m) Q XX :=
  wp_bind (wp_mono h (fun d m1 z => by
    obtain ⟨i, e, z⟩ := z
    rw [e]
    exact z) fun _ _ _ z => z)
theorem t_t (h : wp (a s m) (fun d m1 => ∃ c, d = .bl c ∧ QT c m1) XX) : wp (mT a s m) QT XX :=
  wp_bind (wp_mono h (fun d m1 z => by
    obtain ⟨c, rfl, z⟩ := z
    exact z) fun _ _ _ z => z)
theorem t_not (h : wp (t s m) (fun c m1 => QT (!c) m1) XX) : wp (mNot t s m) QT XX := wp_bind h
theorem t_and (h : wp (t s m) (fun c m1 => pick c (wp (u s m1) QT XX) (QT false m1)) XX) : wp (mAnd t u s m) QT XX :=
  wp_bind (wp_mono h (fun c m1 z => by
    cases c
    · exact z.2 rfl
    · exact z.1 rfl) fun _ _ _ z => z)
theorem t_or (h : wp (t s m) (fun c m1 => pick c (QT true m1) (wp (u s m1) QT XX)) XX) : wp (mOr t u s m) QT XX :=
  wp_bind (wp_mono h (fun c m1 z => by
    cases c
    · exact z.2 rfl
    · exact z.1 rfl) fun _ _ _ z => z)
theorem t_yes (h : QT true m) : wp (mYes s m) QT XX := h
theorem i_iter (h : wp (a s m) (fun d m1 => wp (Res.of (itemsOf m1 d) m1) QA XX) XX) : wp (mIter a s m) QA XX := wp_bind h
theorem i_range {f : List D → Option (List D)} (h : wp (ar s m) (fun ds m1 => wp (Res.of (f ds) m1) QA XX) XX) : wp (mRange f ar s m) QA XX := wp_bind h
theorem p_nil {Q : List (D × D) → Mem → Prop} (h : Q [] m) : wp (mPn s m) Q XX := h
theorem p_cons {Q : List (D × D) → Mem → Prop} {r : MP} (h : wp (a s m) (fun x m1 => wp (b s m1) (fun y m2 => wp (r s m2) (fun ps m3 => Q ((x, y) :: ps) m3) XX) XX) XX) : wp (mPc a b r s m) Q XX :=
  wp_bind (wp_mono h (fun _ _ z => wp_bind (wp_mono z (fun _ _ z => wp_bind z) fun _ _ _ z => z)) fun _ _ _ z => z)
theorem v_dict {p : MP} (h : wp (p s m) (fun ps m1 => dictP ps Q m1) XX) : wp (mDict p s m) Q XX :=
  wp_bind (wp_mono h (fun ps m1 z => by
    obtain ⟨es, e, l, z⟩ := z
    rw [e]; dsimp only; rw [if_pos l]; exact z) fun _ _ _ z => z)
theorem v_newD {p : MP} (h : wp (p s m) (fun ps m1 => dictN ps Q m1) XX) : wp (mNewD p s m) Q XX :=
  wp_bind (wp_mono h (fun ps m1 z => by
    obtain ⟨es, e, l, z⟩ := z
    rw [e]; dsimp only; rw [if_pos l]; exact z) fun _ _ _ z => z)
theorem v_newK (h : Q (.ref m.nx) (m.add (.dk [] []))) : wp (mNewK s m) Q XX := h
theorem v_newT (h : Q (.ref m.nx) (m.add (.dt [] []))) : wp (mNewT s m) Q XX := h
theorem v_comp {own : List Nat} {ci : MI} {as : As} {e : ME} (h : wp (ci s m) (fun ds m1 => wp (loopC as t e (wipeS s own) ds [] m1) QA XX) XX) : wp (mComp own ci as t e s m) QA XX := wp_bind h
theorem v_lc {own : List Nat} {ci : MI} {as : As} {e : ME} (h : wp (ci s m) (fun ds m1 => wp (loopC as t e (wipeS s own) ds [] m1) (fun acc m2 => Q (.lst acc) m2) XX) XX) : wp (mLc own ci as t e s m) Q XX := wp_bind (v_comp h)
theorem v_newLc {own : List Nat} {ci : MI} {as : As} {e : ME} (h : wp (ci s m) (fun ds m1 => wp (loopC as t e (wipeS s own) ds [] m1) (fun acc m2 => Q (.ref m2.nx) (m2.add (.lst acc))) XX) XX) : wp (mNewLc own ci as t e s m) Q XX := wp_bind (v_comp h)
theorem v_loopC {as : As} {e : ME} {ds acc : List D} (I : List D → List D → Mem → Prop) (h0 : I ds acc m) (h1 : ∀ acc m, I [] acc m → QA acc m)
    (h2 : ∀ d ds acc m, I (d :: ds) acc m → ∃ s1, as d s = some s1 ∧ wp (t s1 m) (fun c m1 => pick c (wp (e s1 m1) (fun y m2 => acc.length < sizeLine ∧ I ds (acc ++ [y]) m2) noX) (I ds acc m1)) noX) : wp (loopC as t e s ds acc m) QA XX := by
  induction ds generalizing acc m with
  | nil => exact h1 _ _ h0
  | cons d ds ih =>
    obtain ⟨s1, e1, w⟩ := h2 _ _ _ _ h0
    unfold loopC
    rw [e1]
    dsimp only
    obtain ⟨c, m1, q, w⟩ := wp_det w
    rw [q]
    cases c
    · exact ih (w.2 rfl)
    · obtain ⟨y, m2, q2, w2⟩ := wp_det (w.1 rfl)
      dsimp only
      rw [q2]
      dsimp only
      rw [if_pos w2.1]
      exact ih w2.2
theorem v_l1 {f : D → D → Mem → Res D} (h : wp (a s m) (fun x m1 => isL m1 x = true ∧ wp (b s m1) (fun y m2 => wp (f x y m2) Q XX) XX) XX) : wp (mL1 f a b s m) Q XX :=
  wp_bind (wp_mono h (fun _ _ z => by rw [if_pos z.1]; exact wp_bind z.2) fun _ _ _ z => z)
theorem v_app {j : Nat} {ds : List D} {y : D} (e : m.ob j = some (.lst ds)) (hl : ds.length < sizeLine) (h : Q .non (m.put j (.lst (ds ++ [y])))) : wp (appD (.ref j) y m) Q XX := by
  unfold appD; dsimp only; rw [e]; dsimp only; rw [if_pos hl]; exact h
theorem w_dput {co ci cv : ME} (h : wp (cv s m) (fun v m1 => wp (co s m1) (fun x m2 => wp (ci s m2) (fun y m3 => dputP x y v m3 fun m4 => N s m4) (fun K fs m1 => X K fs s m1)) (fun K fs m1 => X K fs s m1)) (fun K fs m1 => X K fs s m1)) : ws (mDPut co ci cv s m) N R B C X := by
  unfold mDPut
  refine w_then (wp_mono h (fun v m1 h => w_then (wp_mono h (fun x m2 h => w_then (wp_mono h (fun y m3 h => ?_) fun _ _ _ z => z)) fun _ _ _ z => z)) fun _ _ _ z => z)
  obtain ⟨j, ks, ds, kk, rfl, e1, e2, l1, l2, h⟩ := h
  dsimp only
  rw [e1]; dsimp only; rw [e2]; dsimp only; rw [if_pos ⟨l1, l2⟩]; exact h
end
end Ev

set_option Elab.async false
set_option linter.all false
set_option maxRecDepth 100000
set_option autoImplicit false
/-! Ev11b: plain values: equality and repr, told of D. -/
namespace Ev
open PySem PySem.Spec PyProof.Rows L2
mutual
/-- plain: of None, truths, ints, texts, tuples, lists alone -/
def plD : D → Bool
  | .non => true
  | .bl _ => true
  | .int _ => true
  | .str s => PyData.strOk s
  | .tup ds => plDs ds
  | .lst ds => plDs ds
  | _ => false
def plDs : List D → Bool
  | [] => true
  | d :: ds => plD d && plDs ds
end
mutual
def dpD : D → Nat
  | .tup ds => dpDs ds + 1
  | .lst ds => dpDs ds + 1
  | _ => 0
def dpDs : List D → Nat
  | [] => 0
  | d :: ds => max (dpD d) (dpDs ds)
end
mutual
/-- no truths -/
def nbD : D → Bool
  | .bl _ => false
  | .tup ds => nbDs ds
  | .lst ds => nbDs ds
  | _ => true
def nbDs : List D → Bool
  | [] => true
  | d :: ds => nbD d && nbDs ds
end
mutual
/-- a bound of what repr tells -/
def szD : D → Nat
  | .non => 4
  | .bl _ => 5
  | .int i => i.natAbs.log2 + 2
  | .str s => 10 * s.length + 2
  | .tup ds => szDs ds + 3
  | .lst ds => szDs ds + 3
  | _ => 0
def szDs : List D → Nat
  | [] => 0
  | d :: ds => szD d + 2 + szDs ds
end
mutual
/-- ints of at most 1919 bits -/
def inD : D → Bool
  | .int i => decide (i.natAbs.log2 < 1920)
  | .tup ds => inDs ds
  | .lst ds => inDs ds
  | _ => true
def inDs : List D → Bool
  | [] => true
  | d :: ds => inD d && inDs ds
end
mutual
def deq : D → D → Bool
  | .non, .non => true
  | .bl a, .bl b => a == b
  | .bl a, .int j => (if a then 1 else 0) == j
  | .int i, .bl b => i == (if b then 1 else 0)
  | .int i, .int j => i == j
  | .str x, .str y => x == y
  | .lst xs, .lst ys => deqs xs ys
  | .tup xs, .tup ys => deqs xs ys
  | _, _ => false
def deqs : List D → List D → Bool
  | [], [] => true
  | x :: xs, y :: ys => deq x y && deqs xs ys
  | _, _ => false
end
mutual
def pyD : D → PyData
  | .non => .none
  | .bl b => .bool b
  | .int i => .int i
  | .str s => .str s
  | .tup ds => .tuple (pyDs ds)
  | .lst ds => .list (pyDs ds)
  | _ => .none
def pyDs : List D → List PyData
  | [] => []
  | d :: ds => pyD d :: pyDs ds
end
mutual
theorem py_of : ∀ {d : D}, plD d = true → toPy d = some (pyD d)
  | .non, _ => by simp only [toPy, pyD]
  | .bl _, _ => by simp only [toPy, pyD]
  | .int _, _ => by simp only [toPy, pyD]
  | .str _, _ => by simp only [toPy, pyD]
  | .tup ds, h => by
    simp only [plD] at h
    simp only [toPy, pyD, pys_of h, Option.map_some]
  | .lst ds, h => by
    simp only [plD] at h
    simp only [toPy, pyD, pys_of h, Option.map_some]
  | .scr _, h => by simp only [plD] at h; cases h
  | .dk _ _, h => by simp only [plD] at h; cases h
  | .dt _ _, h => by simp only [plD] at h; cases h
  | .ref _, h => by simp only [plD] at h; cases h
theorem pys_of : ∀ {ds : List D}, plDs ds = true → toPys ds = some (pyDs ds)
  | [], _ => by simp only [toPys, pyDs]
  | d :: ds, h => by
    simp only [plDs, Bool.and_eq_true] at h
    simp only [toPys, pyDs, py_of h.1, pys_of h.2]
end
mutual
theorem lay_of : ∀ {d : D}, plD d = true → (pyD d).canLay0 = true
  | .non, _ => by simp only [pyD, PyData.canLay0]
  | .bl _, _ => by simp only [pyD, PyData.canLay0]
  | .int _, _ => by simp only [pyD, PyData.canLay0]
  | .str _, h => by simp only [plD] at h; simp only [pyD, PyData.canLay0]; exact h
  | .tup ds, h => by
    simp only [plD] at h
    simp only [pyD, PyData.canLay0]; exact lays_of h
  | .lst ds, h => by
    simp only [plD] at h
    simp only [pyD, PyData.canLay0]; exact lays_of h
  | .scr _, h => by simp only [plD] at h; cases h
  | .dk _ _, h => by simp only [plD] at h; cases h
  | .dt _ _, h => by simp only [plD] at h; cases h
  | .ref _, h => by simp only [plD] at h; cases h
theorem lays_of : ∀ {ds : List D}, plDs ds = true → PyData.canLayAll0 (pyDs ds) = true
  | [], _ => by simp only [PyData.canLayAll0, pyDs]
  | d :: ds, h => by
    simp only [plDs, Bool.and_eq_true] at h
    simp only [pyDs, PyData.canLayAll0, lay_of h.1, lays_of h.2, Bool.and_self]
end
mutual
theorem depth_of : ∀ d : D, (pyD d).depth = dpD d
  | .non => by simp only [pyD, PyData.depth, dpD]
  | .bl _ => by simp only [pyD, PyData.depth, dpD]
  | .int _ => by simp only [pyD, PyData.depth, dpD]
  | .str _ => by simp only [pyD, PyData.depth, dpD]
  | .tup ds => by simp only [pyD, PyData.depth, dpD, depths_of ds]
  | .lst ds => by simp only [pyD, PyData.depth, dpD, depths_of ds]
  | .scr _ => by simp only [pyD, PyData.depth, dpD]
  | .dk _ _ => by simp only [pyD, PyData.depth, dpD]
  | .dt _ _ => by simp only [pyD, PyData.depth, dpD]
  | .ref _ => by simp only [pyD, PyData.depth, dpD]
theorem depths_of : ∀ ds : List D, PyData.depthAll (pyDs ds) = dpDs ds
  | [] => by simp only [pyDs, PyData.depthAll, dpDs]
  | d :: ds => by simp only [pyDs, PyData.depthAll, dpDs, depth_of d, depths_of ds]
end
theorem shaped_of {d : D} (h : plD d = true) (hd : dpD d ≤ 64) : SeqAt.shaped (pyD d) = true := by
  unfold SeqAt.shaped
  rw [lay_of h, depth_of, decide_eq_true hd]; rfl
mutual
theorem eqv_of : ∀ {x y : D}, plD x = true → plD y = true → PyData.eqv (pyD x) (pyD y) = deq x y
  | .scr _, _, h, _ => by simp only [plD] at h; cases h
  | .dk _ _, _, h, _ => by simp only [plD] at h; cases h
  | .dt _ _, _, h, _ => by simp only [plD] at h; cases h
  | .ref _, _, h, _ => by simp only [plD] at h; cases h
  | .tup xs, y, hx, hy => by
    cases y <;> first | (simp only [plD] at hy; cases hy; done) | (simp only [pyD, PyData.eqv, deq]) | (simp only [pyD, PyData.eqv, deq, Bool.false_eq_true]; done) | skip
    simp only [plD] at hx hy
    exact eqvs_of hx hy
  | .lst xs, y, hx, hy => by
    cases y <;> first | (simp only [plD] at hy; cases hy; done) | (simp only [pyD, PyData.eqv, deq]) | skip
    simp only [plD] at hx hy
    exact eqvs_of hx hy
  | .non, y, hx, hy => by cases y <;> first | (simp only [plD] at hy; cases hy; done) | (simp only [pyD, PyData.eqv, deq])
  | .bl _, y, hx, hy => by cases y <;> first | (simp only [plD] at hy; cases hy; done) | (simp only [pyD, PyData.eqv, deq])
  | .int _, y, hx, hy => by cases y <;> first | (simp only [plD] at hy; cases hy; done) | (simp only [pyD, PyData.eqv, deq])
  | .str _, y, hx, hy => by cases y <;> first | (simp only [plD] at hy; cases hy; done) | (simp only [pyD, PyData.eqv, deq])
theorem eqvs_of : ∀ {xs ys : List D}, plDs xs = true → plDs ys = true → PyData.eqvAll (pyDs xs) (pyDs ys) = deqs xs ys
  | [], [], _, _ => by simp only [pyDs, PyData.eqvAll, deqs]
  | [], _ :: _, _, _ => by simp only [pyDs, PyData.eqvAll, deqs]
  | _ :: _, [], _, _ => by simp only [pyDs, PyData.eqvAll, deqs]
  | x :: xs, y :: ys, hx, hy => by
    simp only [plDs, Bool.and_eq_true] at hx hy
    simp only [pyDs, PyData.eqvAll, deqs, eqv_of hx.1 hy.1, eqvs_of hx.2 hy.2]
end
mutual
theorem deq_refl : ∀ {d : D}, plD d = true → deq d d = true
  | .non, _ => by simp only [deq]
  | .bl _, _ => by simp only [deq, beq_self_eq_true]
  | .int _, _ => by simp only [deq, beq_self_eq_true]
  | .str _, _ => by simp only [deq, beq_self_eq_true]
  | .tup ds, h => by simp only [plD] at h; simp only [deq]; exact deqs_refl h
  | .lst ds, h => by simp only [plD] at h; simp only [deq]; exact deqs_refl h
  | .scr _, h => by simp only [plD] at h; cases h
  | .dk _ _, h => by simp only [plD] at h; cases h
  | .dt _ _, h => by simp only [plD] at h; cases h
  | .ref _, h => by simp only [plD] at h; cases h
theorem deqs_refl : ∀ {ds : List D}, plDs ds = true → deqs ds ds = true
  | [], _ => by simp only [deqs]
  | d :: ds, h => by
    simp only [plDs, Bool.and_eq_true] at h
    simp only [deqs, deq_refl h.1, deqs_refl h.2, Bool.and_self]
end
mutual
theorem deq_eq : ∀ {x y : D}, nbD x = true → nbD y = true → deq x y = true → x = y
  | .non, y, hx, hy, h => by cases y <;> first | rfl | (simp only [deq] at h; cases h; done)
  | .bl _, _, hx, _, _ => by simp only [nbD] at hx; cases hx
  | .int i, y, hx, hy, h => by
    cases y <;> first | (simp only [nbD] at hy; cases hy; done) | (simp only [deq, beq_iff_eq] at h; subst h; rfl) | (simp only [deq] at h; cases h; done)
  | .str i, y, hx, hy, h => by
    cases y <;> first | (simp only [nbD] at hy; cases hy; done) | (simp only [deq, beq_iff_eq] at h; subst h; rfl) | (simp only [deq] at h; cases h; done)
  | .tup xs, y, hx, hy, h => by
    cases y with
    | tup ys =>
      simp only [nbD] at hx hy
      simp only [deq] at h
      rw [deqs_eq hx hy h]
    | _ => simp only [deq] at h; cases h
  | .lst xs, y, hx, hy, h => by
    cases y with
    | lst ys =>
      simp only [nbD] at hx hy
      simp only [deq] at h
      rw [deqs_eq hx hy h]
    | _ => simp only [deq] at h; cases h
  | .scr _, y, _, _, h => by cases y <;> (simp only [deq] at h; cases h; done)
  | .dk _ _, y, _, _, h => by cases y <;> (simp only [deq] at h; cases h; done)
  | .dt _ _, y, _, _, h => by cases y <;> (simp only [deq] at h; cases h; done)
  | .ref _, y, _, _, h => by cases y <;> (simp only [deq] at h; cases h; done)
theorem deqs_eq : ∀ {xs ys : List D}, nbDs xs = true → nbDs ys = true → deqs xs ys = true → xs = ys
  | [], [], _, _, _ => rfl
  | [], _ :: _, _, _, h => by simp only [deqs] at h; cases h
  | _ :: _, [], _, _, h => by simp only [deqs] at h; cases h
  | x :: xs, y :: ys, hx, hy, h => by
    simp only [nbDs, Bool.and_eq_true] at hx hy
    simp only [deqs, Bool.and_eq_true] at h
    rw [deq_eq hx.1 hy.1 h.1, deqs_eq hx.2 hy.2 h.2]
end
mutual
theorem deq_comm : ∀ x y : D, deq x y = deq y x
  | .tup xs, y => by cases y <;> first | (simp only [deq]; exact deqs_comm _ _) | simp only [deq]
  | .lst xs, y => by cases y <;> first | (simp only [deq]; exact deqs_comm _ _) | simp only [deq]
  | .non, y => by cases y <;> simp only [deq]
  | .bl a, y => by cases y <;> simp only [deq] <;> exact Bool.beq_comm ..
  | .int _, y => by cases y <;> simp only [deq] <;> exact Bool.beq_comm ..
  | .str _, y => by cases y <;> simp only [deq] <;> exact Bool.beq_comm ..
  | .scr _, y => by cases y <;> simp only [deq]
  | .dk _ _, y => by cases y <;> simp only [deq]
  | .dt _ _, y => by cases y <;> simp only [deq]
  | .ref _, y => by cases y <;> simp only [deq]
theorem deqs_comm : ∀ xs ys : List D, deqs xs ys = deqs ys xs
  | [], [] => by simp only [deqs]
  | [], _ :: _ => by simp only [deqs]
  | _ :: _, [] => by simp only [deqs]
  | x :: xs, y :: ys => by simp only [deqs]; rw [deq_comm x y, deqs_comm xs ys]
end
theorem view_pl {d : D} (h : plD d = true) (m : Mem) : view m d = d := by
  cases d <;> first | rfl | (simp only [plD] at h; cases h; done)
/-- plain and not too deep -/
structure Pl (x : D) : Prop where
  p : plD x = true
  d : dpD x ≤ 64
theorem pyEq_pl {x y : D} {m : Mem} (hx : Pl x) (hy : Pl y) : pyEq x y m = some (deq x y) := by
  unfold pyEq
  rw [view_pl hx.p, view_pl hy.p, py_of hx.p, py_of hy.p]
  dsimp only
  cases q : twoStr x y with
  | some c =>
    obtain ⟨s, t, rfl, rfl, rfl⟩ := twoStr_inv q
    simp only [deq]; rfl
  | none =>
    dsimp only
    rw [if_pos ⟨shaped_of hx.p hx.d, shaped_of hy.p hy.d⟩, eqv_of hx.p hy.p]
theorem opEq_pl {x y : D} {m : Mem} (hx : Pl x) (hy : Pl y) : opEq x y m = some (.bl (deq x y)) := by
  unfold opEq; rw [pyEq_pl hx hy]; rfl
theorem opNe_pl {x y : D} {m : Mem} (hx : Pl x) (hy : Pl y) : opNe x y m = some (.bl (!deq x y)) := by
  unfold opNe; rw [pyEq_pl hx hy]; rfl
/-- x in a plain tuple or list -/
def din (x : D) (ys : List D) : Bool := ys.any fun y => deq y x
theorem any_of {x : D} (hx : plD x = true) : ∀ {ys : List D}, plDs ys = true → ((pyDs ys).any fun z => PyData.eqv z (pyD x)) = din x ys
  | [], _ => rfl
  | y :: ys, h => by
    simp only [plDs, Bool.and_eq_true] at h
    unfold din
    simp only [pyDs, List.any_cons, eqv_of h.1 hx]
    rw [any_of hx h.2]; rfl
theorem pyIn_tup {x : D} {ys : List D} {m : Mem} (hx : Pl x) (hy : Pl (.tup ys)) : pyIn x (.tup ys) m = some (din x ys) := by
  have hp := hy.p
  simp only [plD] at hp
  have e : toPy (.tup ys) = some (.tuple (pyDs ys)) := py_of hy.p
  have s : SeqAt.shaped (.tuple (pyDs ys)) = true := shaped_of hy.p hy.d
  unfold pyIn
  simp only [view_tup]
  rw [view_pl hx.p, py_of hx.p, e]
  dsimp only
  rw [if_pos ⟨shaped_of hx.p hx.d, s⟩, any_of hx.p hp]
theorem pyIn_lst {x : D} {ys : List D} {m : Mem} (hx : Pl x) (hy : Pl (.lst ys)) : pyIn x (.lst ys) m = some (din x ys) := by
  have hp := hy.p
  simp only [plD] at hp
  have e : toPy (.lst ys) = some (.list (pyDs ys)) := py_of hy.p
  have s : SeqAt.shaped (.list (pyDs ys)) = true := shaped_of hy.p hy.d
  unfold pyIn
  simp only [view_lst]
  rw [view_pl hx.p, py_of hx.p, e]
  dsimp only
  rw [if_pos ⟨shaped_of hx.p hx.d, s⟩, any_of hx.p hp]
/-! repr -/
def shD (d : D) : Str := PyData.shown (pyD d)
mutual
theorem showable_of : ∀ {d : D}, inD d = true → PyData.showable (pyD d) = true
  | .non, _ => by simp only [pyD, PyData.showable]
  | .bl _, _ => by simp only [pyD, PyData.showable]
  | .int _, h => by simp only [inD] at h; simp only [pyD, PyData.showable]; exact h
  | .str _, h => by simp only [pyD, PyData.showable]
  | .tup ds, h => by simp only [inD] at h; simp only [pyD, PyData.showable]; exact showables_of h
  | .lst ds, h => by simp only [inD] at h; simp only [pyD, PyData.showable]; exact showables_of h
  | .scr _, h => by simp only [pyD, PyData.showable]
  | .dk _ _, h => by simp only [pyD, PyData.showable]
  | .dt _ _, h => by simp only [pyD, PyData.showable]
  | .ref _, h => by simp only [pyD, PyData.showable]
theorem showables_of : ∀ {ds : List D}, inDs ds = true → PyData.showableAll (pyDs ds) = true
  | [], _ => by simp only [pyDs, PyData.showableAll]
  | d :: ds, h => by
    simp only [inDs, Bool.and_eq_true] at h
    simp only [pyDs, PyData.showableAll, showable_of h.1, showables_of h.2, Bool.and_self]
end
theorem shownAll_len : ∀ ds : List D, (PyData.shownAll (pyDs ds)).length = ds.length
  | [] => by simp only [pyDs, PyData.shownAll, List.length_nil]
  | d :: ds => by simp only [pyDs, PyData.shownAll, List.length_cons, shownAll_len ds]
theorem strInt_len {i : Int} : (PyData.shown (.int i)).length ≤ i.natAbs.log2 + 2 := by
  have h := int_text_length_le (a := i) (k := i.natAbs.log2 + 1) (Nat.succ_pos _) (Nat.lt_succ_self _)
  have e : (PyData.shown (.int i)).length = (toString i).length := by
    show (Str.ofString (toString i)).length = _
    rw [Str.ofString_eq_toList]
    show ((toString i).toList.map Char.toNat).toArray.size = _
    rw [List.size_toArray, List.length_map, String.length_toList]
  omega
mutual
theorem shown_sz : ∀ {d : D}, plD d = true → (shD d).length ≤ szD d
  | .non, _ => by decide
  | .bl b, _ => by cases b <;> decide
  | .int i, _ => by simp only [szD]; exact strInt_len
  | .str s, h => by
    simp only [plD, PyData.strOk] at h
    have := StrLaws.reprText_len s (fun c hc => by
      have := Array.all_eq_true_iff_forall_mem.mp h c (Array.mem_toList_iff.mp hc)
      have := of_decide_eq_true this
      omega)
    simp only [szD]
    show (PyData.shown (.str s)).length ≤ _
    simp only [PyData.shown]
    exact this
  | .tup ds, h => by
    simp only [plD] at h
    have h1 := tupleText_len_le (PyData.shownAll (pyDs ds))
    have h2 := showns_sz h
    have h3 := shownAll_len ds
    show (PyData.shown (.tuple (pyDs ds))).length ≤ _
    simp only [PyData.shown, szD]
    omega
  | .lst ds, h => by
    simp only [plD] at h
    have h1 := listText_len_le (PyData.shownAll (pyDs ds))
    have h2 := showns_sz h
    have h3 := shownAll_len ds
    show (PyData.shown (.list (pyDs ds))).length ≤ _
    simp only [PyData.shown, szD]
    omega
  | .scr _, h => by simp only [plD] at h; cases h
  | .dk _ _, h => by simp only [plD] at h; cases h
  | .dt _ _, h => by simp only [plD] at h; cases h
  | .ref _, h => by simp only [plD] at h; cases h
theorem showns_sz : ∀ {ds : List D}, plDs ds = true → ((PyData.shownAll (pyDs ds)).map (·.length)).sum + 2 * ds.length ≤ szDs ds
  | [], _ => by simp only [pyDs, PyData.shownAll, szDs, List.map_nil, List.sum_nil, List.length_nil]; omega
  | d :: ds, h => by
    simp only [plDs, Bool.and_eq_true] at h
    have h1 := shown_sz h.1
    have h2 := showns_sz h.2
    simp only [pyDs, PyData.shownAll, szDs, List.map_cons, List.sum_cons, List.length_cons]
    unfold shD at h1
    omega
end
/-- what repr can tell -/
structure Sh (x : D) : Prop where
  p : plD x = true
  d : dpD x ≤ 64
  i : inD x = true
  z : szD x ≤ 16000000
theorem Sh.pl {d : D} (h : Sh d) : Pl d := ⟨h.p, h.d⟩
theorem opRepr_sh {x : D} {m : Mem} (h : Sh x) : opRepr [x] m = some (.str (shD x)) := by
  have z1 := shown_sz h.p
  have z2 := h.z
  unfold opRepr
  dsimp only
  rw [view_pl h.p, py_of h.p]
  dsimp only
  rw [if_pos ⟨showable_of h.i, shaped_of h.p h.d, by
    rw [sizeLine_eq]
    unfold shD at z1
    omega⟩]
  rfl
theorem pls_ints : ∀ c : List Int, plDs (c.map D.int) = true
  | [] => by simp only [List.map_nil, plDs]
  | i :: c => by simp only [List.map_cons, plDs, plD, pls_ints c, Bool.and_self]
theorem dps_ints : ∀ c : List Int, dpDs (c.map D.int) = 0
  | [] => by simp only [List.map_nil, dpDs]
  | i :: c => by simp only [List.map_cons, dpDs, dpD, dps_ints c, Nat.max_self]
theorem pl_ints (c : List Int) : Pl (.lst (c.map D.int)) := ⟨by simp only [plD]; exact pls_ints c, by simp only [dpD, dps_ints]; decide⟩
theorem pl_int (i : Int) : Pl (.int i) := ⟨by simp only [plD], by simp only [dpD]; decide⟩
theorem pl_bl (i : Bool) : Pl (.bl i) := ⟨by simp only [plD], by simp only [dpD]; decide⟩
theorem pl_non : Pl .non := ⟨by simp only [plD], by simp only [dpD]; decide⟩
theorem pl_nil : Pl (.lst []) := ⟨by simp only [plD, plDs], by simp only [dpD, dpDs]; decide⟩
theorem pl_str {s : Str} (h : PyData.strOk s = true) : Pl (.str s) := ⟨by simp only [plD]; exact h, by simp only [dpD]; decide⟩
section
variable {Q : D → Mem → Prop} {XX : XQ} {m : Mem} {x y : D} {i j : Int}
theorem q_eq (hx : Pl x) (hy : Pl y) (h : Q (.bl (deq x y)) m) : wp (Res.of (opEq x y m) m) Q XX := wp_of (opEq_pl hx hy) h
theorem q_ne (hx : Pl x) (hy : Pl y) (h : Q (.bl (!deq x y)) m) : wp (Res.of (opNe x y m) m) Q XX := wp_of (opNe_pl hx hy) h
theorem q_eb {a b : Bool} (h : Q (.bl (decide (a = b))) m) : wp (Res.of (opEq (.bl a) (.bl b) m) m) Q XX := q_eq (pl_bl a) (pl_bl b) (by
  have e : deq (.bl a) (.bl b) = decide (a = b) := by simp only [deq]; rfl
  rw [e]; exact h)
theorem q_nb {a b : Bool} (h : Q (.bl (!decide (a = b))) m) : wp (Res.of (opNe (.bl a) (.bl b) m) m) Q XX := q_ne (pl_bl a) (pl_bl b) (by
  have e : deq (.bl a) (.bl b) = decide (a = b) := by simp only [deq]; rfl
  rw [e]; exact h)
theorem q_ei (h : Q (.bl (decide (i = j))) m) : wp (Res.of (opEq (.int i) (.int j) m) m) Q XX := q_eq (pl_int i) (pl_int j) (by
  have e : deq (.int i) (.int j) = decide (i = j) := by simp only [deq]; rfl
  rw [e]; exact h)
theorem q_ni (h : Q (.bl (!decide (i = j))) m) : wp (Res.of (opNe (.int i) (.int j) m) m) Q XX := q_ne (pl_int i) (pl_int j) (by
  have e : deq (.int i) (.int j) = decide (i = j) := by simp only [deq]; rfl
  rw [e]; exact h)
theorem q_es {s t : Str} (h : Q (.bl (decide (s = t))) m) : wp (Res.of (opEq (.str s) (.str t) m) m) Q XX := h
theorem q_ns {s t : Str} (h : Q (.bl (!decide (s = t))) m) : wp (Res.of (opNe (.str s) (.str t) m) m) Q XX := h
theorem q_inT {ys : List D} (hx : Pl x) (hy : Pl (.tup ys)) (h : Q (.bl (din x ys)) m) : wp (Res.of (opIn x (.tup ys) m) m) Q XX := wp_of (by unfold opIn; rw [pyIn_tup hx hy]; rfl) h
theorem q_ninT {ys : List D} (hx : Pl x) (hy : Pl (.tup ys)) (h : Q (.bl (!din x ys)) m) : wp (Res.of (opNotIn x (.tup ys) m) m) Q XX := wp_of (by unfold opNotIn; rw [pyIn_tup hx hy]; rfl) h
theorem q_repr (hx : Sh x) (h : Q (.str (shD x)) m) : wp (Res.of (opRepr [x] m) m) Q XX := wp_of (opRepr_sh hx) h
def oP {α : Type} (o : Option α) (Q : α → Mem → Prop) (m : Mem) : Prop := ∃ z, o = some z ∧ Q z m
theorem ex_o {α : Type} {o : Option α} {z : α} {Q : α → Mem → Prop} (e : o = some z) (h : Q z m) : oP o Q m := ⟨z, e, h⟩
def vvP (s : Slots) (i : Nat) (Q : D → Mem → Prop) (m : Mem) : Prop := ∃ d, s[i]? = some (some d) ∧ Q d m
theorem ex_v {s : Slots} {k : Nat} {d : D} (e : s[k]? = some (some d)) (h : Q d m) : vvP s k Q m := ⟨d, e, h⟩
theorem v_vx {s : Slots} {k : Nat} (h : vvP s k Q m) : wp (mV k s m) Q XX := by
  obtain ⟨d, e, h⟩ := h
  exact v_v e h
theorem wp_ofx {α : Type} {o : Option α} {Q : α → Mem → Prop} (h : oP o Q m) : wp (Res.of o m) Q XX := by
  obtain ⟨z, e, h⟩ := h
  exact wp_of e h
theorem q_add (h : Q (.int (i + j)) m) : wp (Res.of (opAdd (.int i) (.int j) m) m) Q XX := h
theorem q_sub (h : Q (.int (i - j)) m) : wp (Res.of (opSub (.int i) (.int j) m) m) Q XX := h
theorem q_neg (h : Q (.int (-i)) m) : wp (Res.of (opNeg (.int i) m) m) Q XX := h
theorem q_not {b : Bool} (h : Q (.bl (!b)) m) : wp (Res.of (opNotV (.bl b) m) m) Q XX := h
theorem q_lt (h : Q (.bl (decide (i < j))) m) : wp (Res.of (opLt (.int i) (.int j) m) m) Q XX := h
theorem q_le (h : Q (.bl (decide (i ≤ j))) m) : wp (Res.of (opLe (.int i) (.int j) m) m) Q XX := h
theorem q_gt (h : Q (.bl (decide (j < i))) m) : wp (Res.of (opGt (.int i) (.int j) m) m) Q XX := h
theorem q_ge (h : Q (.bl (decide (j ≤ i))) m) : wp (Res.of (opGe (.int i) (.int j) m) m) Q XX := h
theorem q_ixT {ds : List D} (h : oP (atI ds i) Q m) : wp (Res.of (opIx (.tup ds) (.int i) m) m) Q XX := by
  obtain ⟨z, e, h⟩ := h
  exact wp_of e h
theorem q_ixL {ds : List D} (h : oP (atI ds i) Q m) : wp (Res.of (opIx (.lst ds) (.int i) m) m) Q XX := by
  obtain ⟨z, e, h⟩ := h
  exact wp_of e h
theorem q_addT {xs ys : List D} (hl : xs.length + ys.length ≤ sizeLine) (h : Q (.tup (xs ++ ys)) m) : wp (Res.of (opAdd (.tup xs) (.tup ys) m) m) Q XX := wp_of (if_pos hl) h
theorem q_addL {xs ys : List D} (hl : xs.length + ys.length ≤ sizeLine) (h : Q (.lst (xs ++ ys)) m) : wp (Res.of (opAdd (.lst xs) (.lst ys) m) m) Q XX := wp_of (if_pos hl) h
theorem q_addS {s t : Str} (hl : s.length + t.length ≤ sizeLine) (h : Q (.str (s ++ t)) m) : wp (Res.of (opAdd (.str s) (.str t) m) m) Q XX := wp_of (if_pos hl) h
theorem q_lenT {ds : List D} (h : Q (.int ds.length) m) : wp (Res.of (opLen [.tup ds] m) m) Q XX := h
theorem q_lenL {ds : List D} (h : Q (.int ds.length) m) : wp (Res.of (opLen [.lst ds] m) m) Q XX := h
theorem q_abs (h : Q (.int i.natAbs) m) : wp (Res.of (opAbs [.int i] m) m) Q XX := wp_of (a := .int i.natAbs) (by
  show some (D.int (if i < 0 then -i else i)) = _
  congr 2
  split <;> omega) h
theorem q_intI (h : Q (.int i) m) : wp (Res.of (opInt1 [.int i] m) m) Q XX := h
theorem q_intB {b : Bool} (h : Q (.int (if b = true then 1 else 0)) m) : wp (Res.of (opInt1 [.bl b] m) m) Q XX := h
theorem q_listT {ds : List D} (h : Q (.lst ds) m) : wp (Res.of (opList [.tup ds] m) m) Q XX := h
theorem q_listL {ds : List D} (h : Q (.lst ds) m) : wp (Res.of (opList [.lst ds] m) m) Q XX := h
theorem q_tupT {ds : List D} (h : Q (.tup ds) m) : wp (Res.of (opTuple [.tup ds] m) m) Q XX := h
theorem q_tupL {ds : List D} (h : Q (.tup ds) m) : wp (Res.of (opTuple [.lst ds] m) m) Q XX := h
theorem q_itT {ds : List D} {QA : List D → Mem → Prop} (h : QA ds m) : wp (Res.of (itemsOf m (.tup ds)) m) QA XX := h
theorem q_itL {ds : List D} {QA : List D → Mem → Prop} (h : QA ds m) : wp (Res.of (itemsOf m (.lst ds)) m) QA XX := h
theorem q_itS {z : Str} {QA : List D → Mem → Prop} (h : QA (chars z) m) : wp (Res.of (itemsOf m (.str z)) m) QA XX := h
theorem q_isi {t : String} {b : Bool} (e : (tyD m x).bind (fun n => kitB n t) = some b) (h : Q (.bl b) m) : wp (Res.of (opIsi t x m) m) Q XX := by
  refine wp_of (a := .bl b) ?_ h
  unfold opIsi
  cases q : tyD m x with
  | none => rw [q] at e; cases e
  | some n =>
    rw [q] at e
    show (kitB n t).map D.bl = _
    rw [show kitB n t = some b from e]; rfl
theorem ex_bl {c : Bool} {P : Bool → Prop} (h : P c) : ∃ e, D.bl c = D.bl e ∧ P e := ⟨c, rfl, h⟩
theorem len_ok {ds : List D} {P : Prop} (h : ds.length ≤ sizeLine) (p : P) : ds.length ≤ sizeLine ∧ P := ⟨h, p⟩
theorem ex_some {o : Option Slots} {s : Slots} {P : Slots → Prop} (e : o = some s) (h : P s) : ∃ s1, o = some s1 ∧ P s1 := ⟨s, e, h⟩
theorem ex_part {P : Int → Prop} (h : P i) : ∃ k, view m (.int i) = .int k ∧ P k := ⟨i, rfl, h⟩
theorem w_seqI {N : Slots → Mem → Prop} {R : D → Mem → Prop} {B C : Slots → Mem → Prop} {X : XS} {s : Slots} {sa sb : MS} (I : Slots → Mem → Prop) (h1 : ws (sa s m) I R B C X) (h2 : ∀ s1 m1, I s1 m1 → ws (sb s1 m1) N R B C X) : ws (mSeq sa sb s m) N R B C X :=
  w_seq (ws_mono h1 h2 (fun _ _ z => z) (fun _ _ z => z) (fun _ _ z => z) fun _ _ _ _ z => z)
theorem i_mod (hj : 0 < j) (h : Q (.int (i % j)) m) : wp (Res.of (opMod (.int i) (.int j) m) m) Q XX := by
  refine wp_of (a := .int (i % j)) ?_ h
  show (if cPos i j = true then _ else none) = _
  rw [if_pos (show cPos i j = true from decide_eq_true hj)]
theorem i_div (hj : 0 < j) (hl : j.natAbs.log2 < 9000) (h : Q (.int (i / j)) m) : wp (Res.of (opDiv (.int i) (.int j) m) m) Q XX := by
  refine wp_of (a := .int (i / j)) ?_ h
  show (if cDiv i j = true then _ else none) = _
  rw [if_pos]
  unfold cDiv
  rw [decide_eq_true hj, decide_eq_true hl]; rfl
theorem i_pow (h0 : 0 ≤ j) (h1 : j ≤ 1000000) (h2 : i.natAbs < 2 ^ 64) (h : Q (.int (i ^ j.toNat)) m) : wp (Res.of (opPow (.int i) (.int j) m) m) Q XX := by
  refine wp_of (a := .int (i ^ j.toNat)) ?_ h
  show (if cPow i j = true then _ else none) = _
  rw [if_pos]
  unfold cPow
  rw [decide_eq_true h0, decide_eq_true h1, decide_eq_true h2]; rfl
theorem log2_lt {n k : Nat} (h : n < 2 ^ (k + 1)) : n.log2 ≤ k := by
  by_cases hn : n = 0
  · subst hn; simp
  · exact Nat.le_of_lt_succ ((Nat.log2_lt hn).2 h)
theorem i_mul (h1 : i.natAbs < 2 ^ 250) (h2 : j.natAbs < 2 ^ 250) (h : Q (.int (i * j)) m) : wp (Res.of (opMul (.int i) (.int j) m) m) Q XX := by
  refine wp_of (a := .int (i * j)) ?_ h
  show (if cMul i j = true then _ else none) = _
  rw [if_pos]
  have a1 := log2_lt (k := 249) h1
  have a2 := log2_lt (k := 249) h2
  exact decide_eq_true (by omega)
end
/-! dict displays -/
theorem putD_new {κ : Type} [DecidableEq κ] {kvs : List (κ × D)} {k : κ} {v : D} (h : k ∉ kvs.map (·.1)) : putD kvs k v = kvs ++ [(k, v)] := by
  unfold putD
  rw [if_neg]
  intro z
  rw [List.any_eq_true] at z
  obtain ⟨p, hp, e⟩ := z
  exact h (List.mem_map.mpr ⟨p, hp, of_decide_eq_true e⟩)
theorem mergeD_app : ∀ (more kvs : List (Key × D)), ((kvs ++ more).map (·.1)).Nodup → mergeD kvs more = kvs ++ more
  | [], kvs, _ => by unfold mergeD; simp
  | (k, v) :: more, kvs, h => by
    show mergeD (putD kvs k v) more = _
    rw [putD_new, mergeD_app more (kvs ++ [(k, v)]) (by simpa using h)]
    · simp
    · intro z
      rw [List.map_append, List.nodup_append] at h
      exact h.2.2 k z k (by simp) rfl
theorem mergeD_nil {es : List (Key × D)} (h : (es.map (·.1)).Nodup) : mergeD [] es = es := by
  have := mergeD_app es [] (by simpa using h)
  simpa using this
theorem dictP_id {ps : List (D × D)} {Q : D → Mem → Prop} {m : Mem} (h : dictP ps Q m) : dictP ps Q m := h
theorem dictN_id {ps : List (D × D)} {Q : D → Mem → Prop} {m : Mem} (h : dictN ps Q m) : dictN ps Q m := h
inductive DK : List (D × D) → List Key → List D → Prop
  | nil : DK [] [] []
  | s {s : Str} {v : D} {ps : List (D × D)} {ks : List Key} {ds : List D} : DK ps ks ds → DK ((.str s, v) :: ps) (.inr s :: ks) (v :: ds)
  | i {i : Int} {v : D} {ps : List (D × D)} {ks : List Key} {ds : List D} : DK ps ks ds → DK ((.int i, v) :: ps) (.inl i :: ks) (v :: ds)
theorem DK.get : ∀ {ps : List (D × D)} {ks : List Key} {ds : List D}, DK ps ks ds → ∃ es, dictK ps = some es ∧ es.map (·.1) = ks ∧ es.map (·.2) = ds
  | _, _, _, .nil => ⟨[], rfl, rfl, rfl⟩
  | _, _, _, @DK.s s0 v ps ks ds h => by
    obtain ⟨es, e1, e2, e3⟩ := h.get
    exact ⟨(.inr s0, v) :: es, by simp only [dictK, keyOf, e1], by simp only [List.map_cons, e2], by simp only [List.map_cons, e3]⟩
  | _, _, _, @DK.i s0 v ps ks ds h => by
    obtain ⟨es, e1, e2, e3⟩ := h.get
    exact ⟨(.inl s0, v) :: es, by simp only [dictK, keyOf, e1], by simp only [List.map_cons, e2], by simp only [List.map_cons, e3]⟩
theorem ex_dict {ps : List (D × D)} {ks : List Key} {ds : List D} {m : Mem} {Q : D → Mem → Prop} (e : DK ps ks ds) (hn : ks.Nodup) (hl : ks.length ≤ 15) (h : Q (.dk ks ds) m) :
    dictP ps Q m := by
  obtain ⟨es, e, hk, hd⟩ := e.get
  refine ⟨es, e, by rw [← List.length_map (·.1), hk]; exact hl, ?_⟩
  rw [mergeD_nil (by rw [hk]; exact hn), hk, hd]
  exact h
theorem ex_newD {ps : List (D × D)} {ks : List Key} {ds : List D} {m : Mem} {Q : D → Mem → Prop} (e : DK ps ks ds) (hn : ks.Nodup) (hl : ks.length ≤ 15) (h : Q (.ref m.nx) (m.add (.dk ks ds))) :
    dictN ps Q m := by
  obtain ⟨es, e, hk, hd⟩ := e.get
  refine ⟨es, e, by rw [← List.length_map (·.1), hk]; exact hl, ?_⟩
  rw [mergeD_nil (by rw [hk]; exact hn), hk, hd]
  exact h
theorem look_here {κ : Type} [DecidableEq κ] {k : κ} {ks : List κ} {d : D} {ds : List D} : look (k :: ks) (d :: ds) k = some d := if_pos rfl
theorem look_skip {κ : Type} [DecidableEq κ] {k x : κ} {ks : List κ} {d : D} {ds : List D} {o : Option D} (h : k ≠ x) (e : look ks ds x = o) : look (k :: ks) (d :: ds) x = o := by rw [look_cons, if_neg h]; exact e
section
variable {Q : D → Mem → Prop} {XX : XQ} {m : Mem} {x y : D} {i j : Int}
theorem q_ixDs {s : Str} {ks : List Key} {ds : List D} (h : oP (look ks ds (.inr s)) Q m) : wp (Res.of (opIx (.dk ks ds) (.str s) m) m) Q XX := by
  obtain ⟨z, e, h⟩ := h
  refine wp_of (a := z) ?_ h
  show (match keyOf (D.str s) with | some k => look ks ds k | none => none) = _
  exact e
theorem atI_all {ds : List D} {i : Int} {P : D → Prop} (h0 : 0 ≤ i) (h1 : i < ds.length) (hP : ∀ d ∈ ds, P d) : ∃ z, atI ds i = some z ∧ P z := by
  obtain ⟨j, rfl⟩ := Int.eq_ofNat_of_zero_le h0
  have hj : j < ds.length := by omega
  exact ⟨ds[j], atI_nat (List.getElem?_eq_getElem hj), hP _ (List.getElem_mem hj)⟩
theorem q_ixAllL {ds : List D} (P : D → Prop) (h0 : 0 ≤ i) (h1 : i < ds.length) (hP : ∀ d ∈ ds, P d) (k : ∀ z, P z → Q z m) : wp (Res.of (opIx (.lst ds) (.int i) m) m) Q XX := by
  obtain ⟨z, e, p⟩ := atI_all h0 h1 hP
  exact q_ixL (ex_o e (k z p))
theorem q_ixAllT {ds : List D} (P : D → Prop) (h0 : 0 ≤ i) (h1 : i < ds.length) (hP : ∀ d ∈ ds, P d) (k : ∀ z, P z → Q z m) : wp (Res.of (opIx (.tup ds) (.int i) m) m) Q XX := by
  obtain ⟨z, e, p⟩ := atI_all h0 h1 hP
  exact q_ixT (ex_o e (k z p))
end
theorem i_rng {n : Int} {m : Mem} {QA : List D → Mem → Prop} {XX : XQ} (h0 : 0 ≤ n) (h1 : n < 2 ^ 40) (h : QA (upto 0 n.toNat) m) : wp (Res.of (rng1 [.int n]) m) QA XX := by
  refine wp_of (a := upto 0 n.toNat) ?_ h
  show (if small n = true then _ else none) = _
  rw [if_pos]
  unfold small
  rw [Bool.and_eq_true, decide_eq_true_eq, decide_eq_true_eq]
  omega
end Ev

set_option Elab.async false
set_option linter.all false
set_option maxRecDepth 100000
set_option autoImplicit false
/-! Ev13: methods that change nothing; more built-ins. -/
namespace Ev
open PySem PySem.Spec PyProof.Rows L2
section
variable {X : Cx} {k : Nat} {W : WT} {o e : Expr} {es : List Expr} {pos apos cpos : Pos} {co ca cb : ME} {cA : MA}
/-- what may have methods asked -/
def hasS (m : Mem) (x : D) : Bool := match view m x with
  | .str _ => true
  | _ => false
def hasL (m : Mem) (x : D) : Bool := match view m x with
  | .lst _ => true
  | _ => false
abbrev OM := D → List D → Mem → Option D
def mM (t : Mem → D → Bool) (f : OM) (co : ME) (cA : MA) : ME := fun s m => (co s m).bind fun x m1 => if t m1 x = true then (cA s m1).bind fun ys m2 => Res.of (f x ys m2) m2 else .bad
def mM0 (t : Mem → D → Bool) (f : OM) (co : ME) : ME := fun s m => (co s m).bind fun x m1 => if t m1 x = true then Res.of (f x [] m1) m1 else .bad
def rM (T : Ct) (f : OM) : V → List V → Hp → VK → Prop := fun x xs H Q => ∃ io F m d ds, Sim T io F m H ∧ RelD T.K io F m.nx H d x ∧ RelDs T.K io F m.nx H ds xs ∧ ∃ z, f d ds m = some z ∧ Then T io F m H z Q
/-- the test shows the type -/
def TyOf (t : Mem → D → Bool) (ty : String) : Prop := ∀ {T : Ct} {io : Nat → Addr} {F : Addr → Prop} {m : Mem} {H : Hp} {d : D} {v : V}, Sim T io F m H → RelD T.K io F m.nx H d v → t m d = true → tyV T.K ty v H
theorem ty_hasS : TyOf hasS "str" := by
  intro T io F m H d v S r h
  unfold hasS at h
  split at h
  · rename_i s e
    rw [is_str r e]
    rfl
  · cases h
theorem ty_hasL : TyOf hasL "list" := by
  intro T io F m H d v S r h
  unfold hasL at h
  split at h
  · rename_i ds e
    obtain ⟨a, xs, rfl, h1, _⟩ := at_lst S r e
    exact .inl ⟨rfl, xs, .inl (.inl h1)⟩
  · cases h
theorem tM_of {t : Mem → D → Bool} {ty : String} {f : OM} {σ : L2.St} {H : Hp} {Q : VK} (ht : TyOf t ty) (h : tE (ctOf X) W (mM t f co cA) σ H Q) : tE (ctOf X) W co σ H fun x H1 => tyV X.K ty x H1 ∧ tA (ctOf X) W cA σ H1 fun ys H2 => rM (ctOf X) f x ys H2 Q := by
  refine (tG.bind (R := RD (ctOf X)) (R' := RD (ctOf X)) (c := co) (k := fun x s m1 => if t m1 x = true then (cA s m1).bind fun y m2 => Res.of (f x y m2) m2 else .bad) h).imp fun x H1 h2 => ?_
  obtain ⟨io, F, m, sd, d, S, rs, r, p⟩ := h2
  dsimp only at p
  split at p
  · rename_i hl
    refine ⟨ht S r hl, ?_⟩
    have h3 : tK (RD (ctOf X)) (RD (ctOf X)) (ctOf X) W (fun x s m1 => (cA s m1).bind fun y m2 => Res.of (f x y m2) m2) x σ H1 Q := ⟨io, F, m, sd, d, S, rs, r, p⟩
    refine (tK.bind (R := RDs (ctOf X)) (monoD _) h3).imp fun y H2 h4 => ?_
    obtain ⟨io, F, m, sd, ⟨d, e⟩, S, rs, ⟨r1, r2⟩, p⟩ := h4
    obtain ⟨z, hz, kk⟩ := p.of_
    exact ⟨io, F, m, d, e, S, r1, r2, z, hz, kk⟩
  · exact p.elim
theorem tM0_of {t : Mem → D → Bool} {ty : String} {f : OM} {σ : L2.St} {H : Hp} {Q : VK} (ht : TyOf t ty) (h : tE (ctOf X) W (mM0 t f co) σ H Q) : tE (ctOf X) W co σ H fun x H1 => tyV X.K ty x H1 ∧ rM (ctOf X) f x [] H1 Q := by
  refine (tG.bind (R := RD (ctOf X)) (R' := RD (ctOf X)) (c := co) (k := fun x s m1 => if t m1 x = true then Res.of (f x [] m1) m1 else .bad) h).imp fun x H1 h2 => ?_
  obtain ⟨io, F, m, sd, d, S, rs, r, p⟩ := h2
  dsimp only at p
  split at p
  · rename_i hl
    obtain ⟨z, hz, kk⟩ := p.of_
    exact ⟨ht S r hl, io, F, m, d, [], S, r, by simp only [RelDs], z, hz, kk⟩
  · exact p.elim
theorem d_mm {t : Mem → D → Bool} {ty id : String} {f : OM} {name : Str} (pa : PlainAttrs ty) (slot : Slot ty name id) (hty : typeOf (.builtin id) = pure (.type "method_descriptor")) (ht : TyOf t ty) (hm : MtR X id (rM (ctOf X) f))
    (ho : PE X o (tE (ctOf X) W co)) (ha : PA X (e :: es) (tA (ctOf X) W cA)) (h1 : attributeBase o name X.env (eval o X.env) = eval o X.env := by rfl)
    (h2 : ((backTo cpos (starEach (e :: es) X.env)).all (fun x => !x.1) && ((backToKw cpos (keywordEach [] X.env)).all fun x => x.1.isSome) && decide ((e :: es).length + ([] : List Keyword).length + (if ([] : List Keyword).isEmpty then 0 else 1) < 30)) = true := by rfl)
    (h3 : (apos.endLine == cpos.line) = true := by rfl) (h4 : starEach (e :: es) X.env = (false, eval e X.env) :: starEach es X.env := by rfl) (h5 : (backTo cpos (starEach es X.env)).any (·.1) = false := by rfl) :
    PE X (.Call (.Attribute o name apos) (e :: es) [] cpos) (tE (ctOf X) W (mM t f co cA)) :=
  pe_imp (pe_bm pa slot hty hm ho ha h1 h2 h3 h4 h5) fun σ H Q h => tM_of ht h
theorem d_mm0 {t : Mem → D → Bool} {ty id : String} {f : OM} {name : Str} (pa : PlainAttrs ty) (slot : Slot ty name id) (hty : typeOf (.builtin id) = pure (.type "method_descriptor")) (ht : TyOf t ty) (hm : MtR X id (rM (ctOf X) f))
    (ho : PE X o (tE (ctOf X) W co)) (h1 : attributeBase o name X.env (eval o X.env) = eval o X.env := by rfl) (h3 : (apos.endLine == cpos.line) = true := by rfl) :
    PE X (.Call (.Attribute o name apos) [] [] cpos) (tE (ctOf X) W (mM0 t f co)) :=
  pe_imp (pe_bm0 pa slot hty hm ho h1 h3) fun σ H Q h => tM0_of ht h

/-! ### count -/
def opCount : OM := fun x ys m => match view m x, ys with
  | .lst ds, [y] => if plDs ds = true ∧ plD y = true ∧ dpDs ds ≤ 64 ∧ dpD y ≤ 64 then some (.int ((ds.countP fun z => deq z y : Nat) : Int)) else none
  | _, _ => none
mutual
theorem plain_of : ∀ {d : D}, plD d = true → (pyD d).plain = true
  | .non, _ => by simp only [pyD, PyData.plain]
  | .bl _, _ => by simp only [pyD, PyData.plain]
  | .int _, _ => by simp only [pyD, PyData.plain]
  | .str _, h => by simp only [pyD, PyData.plain]
  | .tup ds, h => by
    simp only [plD] at h
    simp only [pyD, PyData.plain]; exact plains_of h
  | .lst ds, h => by
    simp only [plD] at h
    simp only [pyD, PyData.plain]; exact plains_of h
  | .scr _, h => by simp only [plD] at h; cases h
  | .dk _ _, h => by simp only [plD] at h; cases h
  | .dt _ _, h => by simp only [plD] at h; cases h
  | .ref _, h => by simp only [plD] at h; cases h
theorem plains_of : ∀ {ds : List D}, plDs ds = true → PyData.plainAll (pyDs ds) = true
  | [], _ => by simp only [PyData.plainAll, pyDs]
  | d :: ds, h => by
    simp only [plDs, Bool.and_eq_true] at h
    simp only [pyDs, PyData.plainAll, plain_of h.1, plains_of h.2, Bool.and_self]
end
theorem countP_py {y : D} (hy : plD y = true) : ∀ {ds : List D}, plDs ds = true → ((pyDs ds).countP fun z => PyData.eqv z (pyD y)) = ds.countP fun z => deq z y
  | [], _ => rfl
  | d :: ds, h => by
    simp only [plDs, Bool.and_eq_true] at h
    simp only [pyDs, List.countP_cons, eqv_of h.1 hy, countP_py hy h.2]
theorem dpAll_of {K : PySem.W.Frag} {io : Nat → Addr} {F : Addr → Prop} {n : Nat} {H : Hp} {ds : List D} {vs : List V} (r : RelDs K io F n H ds vs) (h : plDs ds = true) : DpAll K H vs (pyDs ds) := toDps K ds r (pys_of h)
theorem mt_count_d (hu : X.A.units + 200 < cLine) : MtR X "list.count" (rM (ctOf X) opCount) := by
  intro pins s σ H x xs v us Q I rx rxs h
  obtain ⟨io, F, m, d, ds, S, rd, rds, z, hz, kk⟩ := h
  unfold opCount at hz
  split at hz
  · rename_i es y e1
    split at hz
    · rename_i hc
      cases hz
      obtain ⟨a, ys, rfl, t, q⟩ := at_lst S rd e1
      obtain ⟨w, rfl, rw_⟩ := one_rel rds
      cases rx
      obtain ⟨u, rfl, ru⟩ := rxs.one
      obtain ⟨its, rv, pl, hl⟩ := I.list (.inl (.inl t))
      obtain ⟨as, ra⟩ := Dp.readsAll I _ _ _ (dpAll_of q hc.1) rv
      obtain ⟨bs, rb⟩ := Dp.reads I _ _ _ (toDp X.K y rw_ (py_of hc.2.1)) ru
      have d1 : PyData.depthAll (pyDs es) = dpDs es := depths_of es
      have hmin : min (PyData.depthAll (pyDs es)) (pyD y).depth ≤ 64 := by rw [d1]; omega
      refine SeqAt.count_list_data (vs := its.toArray) pl.isList ra rb (plains_of hc.1) (plain_of hc.2.1) (by omega) ?_
      refine ⟨.int ((es.countP fun z => deq z y : Nat) : Int), H, I.tok _, ⟨s.toks, ?_⟩, kk.now S (by simp only [RelD])⟩
      rw [countP_py hc.2.1 hc.1]
    · cases hz
  · cases hz
def mM_count1 (a b : ME) : ME := mM hasL opCount a (mCons b mNil)
theorem d_m_count1 (hh : Here k W X) (ho : PE X o (tE (ctOf X) W ca)) (he : PE X e (tE (ctOf X) W cb)) (h1 : attributeBase o "count" X.env (eval o X.env) = eval o X.env := by rfl)
    (h2 : ((backTo cpos (starEach [e] X.env)).all (fun x => !x.1) && ((backToKw cpos (keywordEach [] X.env)).all fun x => x.1.isSome) && decide ([e].length + ([] : List Keyword).length + (if ([] : List Keyword).isEmpty then 0 else 1) < 30)) = true := by rfl)
    (h3 : (apos.endLine == cpos.line) = true := by rfl) (h4 : starEach [e] X.env = (false, eval e X.env) :: starEach [] X.env := by rfl) (h5 : (backTo cpos (starEach [] X.env)).any (·.1) = false := by rfl) :
    PE X (.Call (.Attribute o "count" apos) [e] [] cpos) (tE (ctOf X) W (mM_count1 ca cb)) :=
  d_mm PySem.F.plainAttrs_list PySem.F.slot_list_count PySem.F.type_list_count ty_hasL (mt_count_d (by have := hh.rm.un; omega)) ho (d_cons he d_nil h4) h1 h2 h3 h4 h5
/-! ### all, any, sum, min, max -/
def blsOf : List D → Option (List Bool)
  | [] => some []
  | .bl b :: ds => (blsOf ds).map fun r => b :: r
  | _ => none
theorem bls_map : ∀ {ds : List D} {bs : List Bool}, blsOf ds = some bs → ds = bs.map D.bl
  | [], bs, e => by simp only [blsOf, Option.some.injEq] at e; subst e; rfl
  | .bl b :: ds, bs, e => by
    simp only [blsOf, Option.map_eq_some_iff] at e
    obtain ⟨r, e, rfl⟩ := e
    rw [bls_map e]; rfl
  | .non :: _, _, e => by simp only [blsOf] at e; cases e
  | .int _ :: _, _, e => by simp only [blsOf] at e; cases e
  | .str _ :: _, _, e => by simp only [blsOf] at e; cases e
  | .tup _ :: _, _, e => by simp only [blsOf] at e; cases e
  | .lst _ :: _, _, e => by simp only [blsOf] at e; cases e
  | .scr _ :: _, _, e => by simp only [blsOf] at e; cases e
  | .dk _ _ :: _, _, e => by simp only [blsOf] at e; cases e
  | .dt _ _ :: _, _, e => by simp only [blsOf] at e; cases e
  | .ref _ :: _, _, e => by simp only [blsOf] at e; cases e
theorem bls_of (bs : List Bool) : blsOf (bs.map D.bl) = some bs := by
  induction bs with
  | nil => rfl
  | cons b bs ih => simp only [List.map_cons, blsOf, ih, Option.map_some]
theorem bls_rel {K : PySem.W.Frag} {io : Nat → Addr} {F : Addr → Prop} {n : Nat} {H : Hp} : ∀ {bs : List Bool} {vs : List V}, RelDs K io F n H (bs.map D.bl) vs → vs = bs.map V.bl
  | [], [], _ => rfl
  | [], _ :: _, r => by simp only [List.map_nil, RelDs] at r
  | _ :: _, [], r => by simp only [List.map_cons, RelDs] at r
  | b :: bs, v :: vs, r => by
    simp only [List.map_cons, RelDs, RelD] at r
    rw [r.1, bls_rel r.2]; rfl
def intsOf : List D → Option (List Int)
  | [] => some []
  | .int b :: ds => (intsOf ds).map fun r => b :: r
  | _ => none
theorem intsOf_map : ∀ {ds : List D} {bs : List Int}, intsOf ds = some bs → ds = bs.map D.int
  | [], bs, e => by simp only [intsOf, Option.some.injEq] at e; subst e; rfl
  | .int b :: ds, bs, e => by
    simp only [intsOf, Option.map_eq_some_iff] at e
    obtain ⟨r, e, rfl⟩ := e
    rw [intsOf_map e]; rfl
  | .non :: _, _, e => by simp only [intsOf] at e; cases e
  | .bl _ :: _, _, e => by simp only [intsOf] at e; cases e
  | .str _ :: _, _, e => by simp only [intsOf] at e; cases e
  | .tup _ :: _, _, e => by simp only [intsOf] at e; cases e
  | .lst _ :: _, _, e => by simp only [intsOf] at e; cases e
  | .scr _ :: _, _, e => by simp only [intsOf] at e; cases e
  | .dk _ _ :: _, _, e => by simp only [intsOf] at e; cases e
  | .dt _ _ :: _, _, e => by simp only [intsOf] at e; cases e
  | .ref _ :: _, _, e => by simp only [intsOf] at e; cases e
theorem intsOf_of (bs : List Int) : intsOf (bs.map D.int) = some bs := by
  induction bs with
  | nil => rfl
  | cons b bs ih => simp only [List.map_cons, intsOf, ih, Option.map_some]
theorem intsV_rel {K : PySem.W.Frag} {io : Nat → Addr} {F : Addr → Prop} {n : Nat} {H : Hp} : ∀ {bs : List Int} {vs : List V}, RelDs K io F n H (bs.map D.int) vs → vs = bs.map V.int
  | [], [], _ => rfl
  | [], _ :: _, r => by simp only [List.map_nil, RelDs] at r
  | _ :: _, [], r => by simp only [List.map_cons, RelDs] at r
  | b :: bs, v :: vs, r => by
    simp only [List.map_cons, RelDs, RelD] at r
    rw [r.1, intsV_rel r.2]; rfl
def strsOf : List D → Option (List Str)
  | [] => some []
  | .str b :: ds => (strsOf ds).map fun r => b :: r
  | _ => none
theorem strsOf_map : ∀ {ds : List D} {bs : List Str}, strsOf ds = some bs → ds = bs.map D.str
  | [], bs, e => by simp only [strsOf, Option.some.injEq] at e; subst e; rfl
  | .str b :: ds, bs, e => by
    simp only [strsOf, Option.map_eq_some_iff] at e
    obtain ⟨r, e, rfl⟩ := e
    rw [strsOf_map e]; rfl
  | .non :: _, _, e => by simp only [strsOf] at e; cases e
  | .bl _ :: _, _, e => by simp only [strsOf] at e; cases e
  | .int _ :: _, _, e => by simp only [strsOf] at e; cases e
  | .tup _ :: _, _, e => by simp only [strsOf] at e; cases e
  | .lst _ :: _, _, e => by simp only [strsOf] at e; cases e
  | .scr _ :: _, _, e => by simp only [strsOf] at e; cases e
  | .dk _ _ :: _, _, e => by simp only [strsOf] at e; cases e
  | .dt _ _ :: _, _, e => by simp only [strsOf] at e; cases e
  | .ref _ :: _, _, e => by simp only [strsOf] at e; cases e
theorem strsOf_of (bs : List Str) : strsOf (bs.map D.str) = some bs := by
  induction bs with
  | nil => rfl
  | cons b bs ih => simp only [List.map_cons, strsOf, ih, Option.map_some]
theorem strsV_rel {K : PySem.W.Frag} {io : Nat → Addr} {F : Addr → Prop} {n : Nat} {H : Hp} : ∀ {bs : List Str} {vs : List V}, RelDs K io F n H (bs.map D.str) vs → vs = bs.map V.str
  | [], [], _ => rfl
  | [], _ :: _, r => by simp only [List.map_nil, RelDs] at r
  | _ :: _, [], r => by simp only [List.map_cons, RelDs] at r
  | b :: bs, v :: vs, r => by
    simp only [List.map_cons, RelDs, RelD] at r
    rw [r.1, strsV_rel r.2]; rfl
theorem strs_rel (K : PySem.W.Frag) (io : Nat → Addr) (F : Addr → Prop) (n : Nat) (H : Hp) : ∀ ns : List Str, RelDs K io F n H (ns.map D.str) (ns.map V.str)
  | [] => by simp only [List.map_nil, RelDs]
  | i :: r => by simp only [List.map_cons, RelDs, RelD]; exact ⟨trivial, strs_rel K io F n H r⟩
/-- a list's items -/
def lstOf (x : D) (m : Mem) : Option (List D) := match view m x with
  | .lst ds => some ds
  | _ => none
theorem lstOf_rel {T : Ct} {io : Nat → Addr} {F : Addr → Prop} {m : Mem} {H : Hp} {d : D} {v : V} {ds : List D} (S : Sim T io F m H) (r : RelD T.K io F m.nx H d v) (h : lstOf d m = some ds) : ∃ a xs, v = .ref a ∧ H a = some (.lst xs) ∧ RelDs T.K io F m.nx H ds xs := by
  unfold lstOf at h
  split at h
  · rename_i es e
    cases h
    exact at_lst S r e
  · cases h
def opAll : OL := fun ds m => match ds with
  | [x] => ((lstOf x m).bind blsOf).map fun bs => .bl (bs.all id)
  | _ => none
def opAny : OL := fun ds m => match ds with
  | [x] => ((lstOf x m).bind blsOf).map fun bs => .bl (bs.any id)
  | _ => none
def opSum : OL := fun ds m => match ds with
  | [x] => ((lstOf x m).bind intsOf).map fun bs => .int bs.sum
  | _ => none
theorem c_all (hh : Here k W X) : CallR X (.builtin "all") (rC (ctOf X) opAll) := by
  intro pins s σ H xs us Q I rx h
  obtain ⟨io, F, m, ds, S, r, z, hz, kk⟩ := h
  unfold opAll at hz
  split at hz
  · obtain ⟨v, rfl, rv⟩ := one_rel r
    rw [Option.map_eq_some_iff] at hz
    obtain ⟨bs, hz, rfl⟩ := hz
    rw [Option.bind_eq_some_iff] at hz
    obtain ⟨es, h1, h2⟩ := hz
    obtain ⟨a, ys, rfl, t, q⟩ := lstOf_rel S rv h1
    rw [bls_map h2] at q
    rw [bls_rel q] at t
    exact cr_all hh.calm pins s σ H _ us Q I rx ⟨a, bs, rfl, .inl (.inl t), kk.now S (by simp only [RelD])⟩
  · cases hz
theorem c_any (hh : Here k W X) : CallR X (.builtin "any") (rC (ctOf X) opAny) := by
  intro pins s σ H xs us Q I rx h
  obtain ⟨io, F, m, ds, S, r, z, hz, kk⟩ := h
  unfold opAny at hz
  split at hz
  · obtain ⟨v, rfl, rv⟩ := one_rel r
    rw [Option.map_eq_some_iff] at hz
    obtain ⟨bs, hz, rfl⟩ := hz
    rw [Option.bind_eq_some_iff] at hz
    obtain ⟨es, h1, h2⟩ := hz
    obtain ⟨a, ys, rfl, t, q⟩ := lstOf_rel S rv h1
    rw [bls_map h2] at q
    rw [bls_rel q] at t
    exact cr_any hh.calm pins s σ H _ us Q I rx ⟨a, bs, rfl, .inl (.inl t), kk.now S (by simp only [RelD])⟩
  · cases hz
theorem c_sum (hh : Here k W X) : CallR X (.builtin "sum") (rC (ctOf X) opSum) := by
  intro pins s σ H xs us Q I rx h
  obtain ⟨io, F, m, ds, S, r, z, hz, kk⟩ := h
  unfold opSum at hz
  split at hz
  · obtain ⟨v, rfl, rv⟩ := one_rel r
    rw [Option.map_eq_some_iff] at hz
    obtain ⟨bs, hz, rfl⟩ := hz
    rw [Option.bind_eq_some_iff] at hz
    obtain ⟨es, h1, h2⟩ := hz
    obtain ⟨a, ys, rfl, t, q⟩ := lstOf_rel S rv h1
    rw [intsOf_map h2] at q
    rw [intsV_rel q] at t
    exact cr_sum hh.calm pins s σ H _ us Q I rx ⟨a, bs, rfl, .inl (.inl t), kk.now S (by simp only [RelD])⟩
  · cases hz
def opMin : OL := fun ds m => match ds with
  | [.int i, .int j] => some (.int (if j < i then j else i))
  | _ => none
def opMax : OL := fun ds m => match ds with
  | [.int i, .int j] => some (.int (if j > i then j else i))
  | _ => none
theorem c_min (hh : Here k W X) : CallR X (.builtin "min") (rC (ctOf X) opMin) := by
  intro pins s σ H xs us Q I rx h
  obtain ⟨io, F, m, ds, S, r, z, hz, kk⟩ := h
  unfold opMin at hz
  split at hz
  · rename_i i j
    obtain ⟨v, u, rfl, r1, r2⟩ := two_rel r
    simp only [RelD] at r1 r2
    subst r1 r2
    cases hz
    exact call_min2 hh.calm pins s σ H _ us Q I rx ⟨i, j, rfl, kk.now S (by simp only [RelD])⟩
  · cases hz
theorem c_max (hh : Here k W X) : CallR X (.builtin "max") (rC (ctOf X) opMax) := by
  intro pins s σ H xs us Q I rx h
  obtain ⟨io, F, m, ds, S, r, z, hz, kk⟩ := h
  unfold opMax at hz
  split at hz
  · rename_i i j
    obtain ⟨v, u, rfl, r1, r2⟩ := two_rel r
    simp only [RelD] at r1 r2
    subst r1 r2
    cases hz
    exact call_max2 hh.calm pins s σ H _ us Q I rx ⟨i, j, rfl, kk.now S (by simp only [RelD])⟩
  · cases hz

/-! ### methods of texts -/
def opSplit : OM := fun x ys m => match view m x, ys with
  | .str a, [y] => (match view m y with
    | .str b => if (b.length == 0) = false ∧ a.length + 2 ≤ sizeLine then some (.lst ((Txt.split a b).map D.str)) else none
    | _ => none)
  | _, _ => none
theorem mt_split_d : MtR X "str.split" (rM (ctOf X) opSplit) := by
  intro pins s σ H x xs v us Q I rx rxs h
  obtain ⟨io, F, m, d, ds, S, rd, rds, z, hz, kk⟩ := h
  unfold opSplit at hz
  split at hz
  · rename_i a y e1
    split at hz
    · rename_i b e2
      split at hz
      · rename_i hc
        cases hz
        obtain ⟨w, rfl, rw_⟩ := one_rel rds
        have ex := is_str rd e1
        have ey := is_str rw_ e2
        subst ex ey
        exact mt_split pins s σ H _ _ v us Q I rx rxs ⟨a, b, rfl, rfl, hc.1, hc.2, fun p hp => kk.newL S hp (strs_rel _ _ _ _ _ _)⟩
      · cases hz
    · cases hz
  · cases hz
def mM_split1 (a b : ME) : ME := mM hasS opSplit a (mCons b mNil)
theorem d_m_split1 (hh : Here k W X) (ho : PE X o (tE (ctOf X) W ca)) (he : PE X e (tE (ctOf X) W cb)) (h1 : attributeBase o "split" X.env (eval o X.env) = eval o X.env := by rfl)
    (h2 : ((backTo cpos (starEach [e] X.env)).all (fun x => !x.1) && ((backToKw cpos (keywordEach [] X.env)).all fun x => x.1.isSome) && decide ([e].length + ([] : List Keyword).length + (if ([] : List Keyword).isEmpty then 0 else 1) < 30)) = true := by rfl)
    (h3 : (apos.endLine == cpos.line) = true := by rfl) (h4 : starEach [e] X.env = (false, eval e X.env) :: starEach [] X.env := by rfl) (h5 : (backTo cpos (starEach [] X.env)).any (·.1) = false := by rfl) :
    PE X (.Call (.Attribute o "split" apos) [e] [] cpos) (tE (ctOf X) W (mM_split1 ca cb)) :=
  d_mm PySem.F.plainAttrs_str PySem.F.slot_str_split PySem.F.type_str_split ty_hasS mt_split_d ho (d_cons he d_nil h4) h1 h2 h3 h4 h5
def seqStrs (x : D) (m : Mem) : Option (List Str) := match view m x with
  | .lst ds => strsOf ds
  | .tup ds => strsOf ds
  | _ => none
def opJoin : OM := fun x ys m => match view m x, ys with
  | .str a, [y] => (seqStrs y m).bind fun zs : List Str => if (zs.map (·.length)).sum + zs.length * a.length ≤ 16777216 then some (.str (Txt.join a zs)) else none
  | _, _ => none
theorem mt_join_d : MtR X "str.join" (rM (ctOf X) opJoin) := by
  intro pins s σ H x xs v us Q I rx rxs h
  obtain ⟨io, F, m, d, ds, S, rd, rds, z, hz, kk⟩ := h
  unfold opJoin at hz
  split at hz
  · rename_i a y e1
    rw [Option.bind_eq_some_iff] at hz
    obtain ⟨zs, h1, h2⟩ := hz
    split at h2
    · rename_i hc
      cases h2
      obtain ⟨w, rfl, rw_⟩ := one_rel rds
      have ex := is_str rd e1
      subst ex
      unfold seqStrs at h1
      split at h1
      · rename_i es e2
        obtain ⟨p, xs, rfl, t, q⟩ := at_lst S rw_ e2
        rw [strsOf_map h1] at q
        rw [strsV_rel q] at t
        exact mt_join pins s σ H _ _ v us Q I rx rxs ⟨a, p, zs, rfl, rfl, .inl (.inl (.inl t)), hc, kk.now S (by simp only [RelD])⟩
      · rename_i es e2
        obtain ⟨p, xs, rfl, t, q⟩ := is_tup rw_ e2
        rw [strsOf_map h1] at q
        rw [strsV_rel q] at t
        exact mt_join pins s σ H _ _ v us Q I rx rxs ⟨a, p, zs, rfl, rfl, .inr t.sq, hc, kk.now S (by simp only [RelD])⟩
      · cases h1
    · cases h2
  · cases hz
def mM_join1 (a b : ME) : ME := mM hasS opJoin a (mCons b mNil)
theorem d_m_join1 (hh : Here k W X) (ho : PE X o (tE (ctOf X) W ca)) (he : PE X e (tE (ctOf X) W cb)) (h1 : attributeBase o "join" X.env (eval o X.env) = eval o X.env := by rfl)
    (h2 : ((backTo cpos (starEach [e] X.env)).all (fun x => !x.1) && ((backToKw cpos (keywordEach [] X.env)).all fun x => x.1.isSome) && decide ([e].length + ([] : List Keyword).length + (if ([] : List Keyword).isEmpty then 0 else 1) < 30)) = true := by rfl)
    (h3 : (apos.endLine == cpos.line) = true := by rfl) (h4 : starEach [e] X.env = (false, eval e X.env) :: starEach [] X.env := by rfl) (h5 : (backTo cpos (starEach [] X.env)).any (·.1) = false := by rfl) :
    PE X (.Call (.Attribute o "join" apos) [e] [] cpos) (tE (ctOf X) W (mM_join1 ca cb)) :=
  d_mm PySem.F.plainAttrs_str PySem.F.slot_str_join PySem.F.type_str_join ty_hasS mt_join_d ho (d_cons he d_nil h4) h1 h2 h3 h4 h5
def opUpper : OM := fun x ys m => match view m x, ys with
  | .str a, [] => if a.length ≤ 5592405 then some (.str (Txt.upper a)) else none
  | _, _ => none
theorem mt_upper_d : MtR X "str.upper" (rM (ctOf X) opUpper) := by
  intro pins s σ H x xs v us Q I rx rxs h
  obtain ⟨io, F, m, d, ds, S, rd, rds, z, hz, kk⟩ := h
  unfold opUpper at hz
  split at hz
  · rename_i a e1
    split at hz
    · rename_i hc
      cases hz
      have ex := is_str rd e1
      subst ex
      cases xs with
      | nil => exact mt_upper pins s σ H _ _ v us Q I rx rxs ⟨a, rfl, rfl, hc, kk.now S (by simp only [RelD])⟩
      | cons _ _ => simp only [RelDs] at rds
    · cases hz
  · cases hz
def mM_upper0 (a : ME) : ME := mM0 hasS opUpper a
theorem d_m_upper0 (hh : Here k W X) (ho : PE X o (tE (ctOf X) W ca)) (h1 : attributeBase o "upper" X.env (eval o X.env) = eval o X.env := by rfl) (h3 : (apos.endLine == cpos.line) = true := by rfl) :
    PE X (.Call (.Attribute o "upper" apos) [] [] cpos) (tE (ctOf X) W (mM_upper0 ca)) :=
  d_mm0 PySem.F.plainAttrs_str PySem.F.slot_str_upper PySem.F.type_str_upper ty_hasS mt_upper_d ho h1 h3
end
end Ev

set_option Elab.async false
set_option linter.all false
set_option maxRecDepth 100000
set_option autoImplicit false
/-! Ev14: enumerate of tuples and lists, zip. -/
namespace Ev
open PySem PySem.Spec PyProof.Rows L2
open AutoSeq1 (wpAny_loadPart')
/-! ### enumerate(a tuple) -/
theorem enum_newT (l : Addr) (items : Array Value) (n : Nat) (dct : Option Addr) (sl : Array (Option Value)) : Meets (Builtin.«enumerate.__new__» ⟨[.type "enumerate", .ref l], []⟩) (fun _ R s =>
      s.heap.get? l = some { cls := .type "tuple", dict := dct, data := .seq items n, slots := sl } ∧
      R (.ok (.ret (.ref (s.heap.push { cls := .type "tuple_iterator", data := .fields #[.ref l, .int 0 0] }).objs.size)))
        { s with heap := (s.heap.push { cls := .type "tuple_iterator", data := .fields #[.ref l, .int 0 0] }).push { cls := .type "enumerate", data := .fields #[.none, .bool false, .ref s.heap.objs.size, rawInt 0, .none, .none] } }) := .of_wp fun prog w A R s h => by
  obtain ⟨hp, g, d, tk, os⟩ := s
  obtain ⟨hl, h⟩ := h
  have hsub := sub_enumerate
  have hL : Heap.IsTuple (Shared.heap ⟨hp, g, d, tk, os⟩) l items := ⟨_, hl, rfl, n, rfl⟩
  wp_walk using wpAny_loadPart' hl
  refine wpAny_stack_any fun st => wpAny_pure ?_
  split
  · rename_i c _ _ _ _ _
    cases (c == Value.type "enumerate") <;> (wp_walk using wpAny_loadPart' hl, wpAny_pyIter_tuple hL; exact ⟨_, rfl, h⟩)
  · wp_walk using wpAny_loadPart' hl, wpAny_pyIter_tuple hL
    exact ⟨_, rfl, h⟩
theorem call_enumT {P : Program} {w : World} {A : Around} {E : Value → Shared → Prop} {s : Shared} {l : Addr} {items : Array Value} {Q : Value → Shared → Prop} (hL : s.heap.IsTuple l items)
    (h : ∀ h2, IsEnum h2 (s.heap.objs.size + 1) s.heap.objs.size 0 .none → h2.IsTupleIter s.heap.objs.size l 0 → h2.objs.size = s.heap.objs.size + 2 → (∀ b o, s.heap.get? b = some o → h2.get? b = some o) → Q (.ref (s.heap.objs.size + 1)) { s with heap := h2 }) :
    wpAny (model P w) A (call (.type "enumerate") [.ref l]) Q E s := by
  obtain ⟨⟨c, dct, dt, sl⟩, hl, hc, n, hd⟩ := hL
  replace hc : c = .type "tuple" := hc
  replace hd : dt = .seq items n := hd
  subst hc hd
  refine callType_new F.called_enumerate (by decide) (F.typeCall_enumerate_1 _) (F.newCall_enumerate_1 _) (fun obj => F.args_object_init_2 obj _) F.entry_enumerate_new (enum_newT l items n dct sl) ⟨hl, ?_⟩
  generalize hg : s.heap.push { cls := .type "tuple_iterator", data := .fields #[.ref l, .int 0 0] } = h1
  have hz : h1.objs.size = s.heap.objs.size + 1 := by rw [← hg]; exact Heap.size_push ..
  show _ ∧ _
  rw [hz]
  have he : IsEnum (h1.push { cls := .type "enumerate", data := .fields #[.none, .bool false, .ref s.heap.objs.size, rawInt 0, .none, .none] }) (s.heap.objs.size + 1) s.heap.objs.size 0 .none := by
    have z := Heap.get?_push_size h1 (o := { cls := .type "enumerate", data := .fields #[.none, .bool false, .ref s.heap.objs.size, rawInt 0, .none, .none] }) rfl
    rw [hz] at z; exact z
  have h0 : h1.get? s.heap.objs.size = some { cls := .type "tuple_iterator", data := .fields #[.ref l, .int 0 0] } := by rw [← hg]; exact Heap.get?_push_size _ rfl
  exact ⟨⟨_, he, rfl⟩, h _ he ⟨_, Heap.get?_push_of_some _ h0, rfl, rfl⟩ (by rw [Heap.size_push, hz]) fun b o x => Heap.get?_push_of_some _ (by rw [← hg]; exact Heap.get?_push_of_some _ x)⟩
/-- the tuple at a, each item in a new pair -/
def ItT (K : PySem.W.Frag) (a : Addr) : It :=
  ⟨fun i H => ∃ (xs : List V) (x : V), SqT K H a xs ∧ xs[i]? = some x, fun i H v H' => ∃ T x, v = .ref T ∧ H T = none ∧ H' = upd H T (.tup [.int (i : Nat), x]) ∧ ∀ zs, SqT K H a zs → zs[i]? = some x, fun i H => ∃ xs : List V, SqT K H a xs ∧ xs.length ≤ i⟩
theorem turn_enumT {P : Program} {w : World} {K : PySem.W.Frag} {elts : List Expr} {kk : Nat} {tpos : Pos} (a e it : Addr) :
    Turn P w K (.Tuple elts kk tpos) (ItT K a) [e, it] e (fun i h => (∃ old, IsEnum h e it ((i : Nat) : Int) old) ∧ h.IsTupleIter it a i ∧ e ≠ it ∧ a ≠ it ∧ a ≠ e) where
  mem := by simp
  obj := fun i h st b hb => by
    obtain ⟨⟨old, he⟩, ⟨o, ho, hc, hd⟩, _⟩ := st
    rcases (by simpa using hb : b = e ∨ b = it) with rfl | rfl
    · exact ⟨_, he, fun v q => nomatch q⟩
    · exact ⟨o, ho, fun v q => by rw [hd] at q; cases q⟩
  keep := fun i h h' st k => by
    obtain ⟨⟨old, he⟩, hi, hne⟩ := st
    exact ⟨⟨old, k e (by simp) _ he⟩, hi.at fun o q => k it (by simp) o q, hne⟩
  item := by
    intro X hP hw hK hc i pins s σ H E I hf st hg
    subst hP hw hK
    obtain ⟨⟨old, he⟩, hit, hne, hai, hae⟩ := st
    obtain ⟨xs, x, hq, hx⟩ := hg
    obtain ⟨its, rv, p, hz⟩ := I.tuple hq
    obtain ⟨u, hu, ru⟩ := rv.get hx
    have hel : e < s.heap.objs.size := Heap.lt_size he
    have hil : it < s.heap.objs.size := by obtain ⟨_, q, _⟩ := hit; exact Heap.lt_size q
    have hp : s.heap.IsTuple a its.toArray := p
    have D := Draws.tuple (prog := X.prog) (w := X.w) (A := X.A.in1) (I.ok.hd hc) it a hai its.toArray
    have hi : i < its.toArray.size := by
      rw [List.size_toArray]
      exact (List.getElem?_eq_some_iff.mp hu).1
    refine wpAny_pyNext_enum_itemD D he ⟨hit, hp⟩ hi hne (by simp; exact ⟨hne, fun z => hae z.symm⟩) fun y h' tk hy ho hst' hT hsz hk => ?_
    have ey : y = u := by
      have h1 : its[i]? = some y := by simpa using hy
      rw [hu] at h1; exact (Option.some.inj h1).symm
    subst ey
    refine ⟨_, rfl, wpAny_letOwnedTupleGo_enum (s := { s with heap := h', toks := tk + 1 }) ho fun h'' he' sb => ?_⟩
    have hT2 : h''.get? s.heap.objs.size = some { cls := .type "tuple", data := .seq #[.int i tk, y] } := (sb.2 _ (Nat.ne_of_gt hel)).trans hT
    have new : ObjOk X.prog X.w (upd H s.heap.objs.size (.tup [.int (i : Nat), x])) h'' s.heap.objs.size (.tup [.int (i : Nat), x]) :=
      ⟨by show 2 ≤ sizeLine; decide, [.int i tk, y], .cons ⟨_, rfl⟩ (.cons ru .nil), ⟨_, hT2, rfl, _, rfl⟩⟩
    have I1 : Inv X pins σ (upd H s.heap.objs.size (.tup [.int (i : Nat), x])) { s with heap := h'', toks := tk + 1 } :=
      I.turnedNew (ch := [e, it]) (fun b ob hb q => (sb.2 b (fun z => hb (by simp [z]))).trans (hk b ob (fun z => hb (by simp [z])) (fun z => hb (by simp [z])) q)) hf (Nat.le_refl _) new
    refine ⟨.ref s.heap.objs.size, _, I1, rfl, ⟨_, x, rfl, I.hok.fresh (Nat.le_refl _), rfl, fun ys hy => by rw [I.tuple_inj hy hq]; exact hx⟩, ⟨⟨y, ?_⟩, hst'.1.at fun o q => (sb.2 it (Ne.symm hne)).trans q, hne, hai, hae⟩, fun b hb => ?_⟩
    · rw [show ((i + 1 : Nat) : Int) = (i : Int) + 1 by omega]; exact he'
    · have hlt : b < s.heap.objs.size := by
        rcases (by simpa using hb : b = e ∨ b = it) with rfl | rfl
        · exact hel
        · exact hil
      rw [upd_ne (Nat.ne_of_lt hlt)]
      exact (hf b hb).1
  done := by
    intro X hP hw hK hc i pins s σ H E I hf st hg
    subst hP hw hK
    obtain ⟨⟨old, he⟩, hit, hne, hai, hae⟩ := st
    obtain ⟨xs, hq, hx⟩ := hg
    obtain ⟨its, rv, p, hz⟩ := I.tuple hq
    obtain ⟨f0, f1, f2, f3, f4, f5⟩ := hf it (by simp)
    have hp : s.heap.IsTuple a its.toArray := p
    have hl := rv.length
    have hT : s.TypeIs (.ref e) "enumerate" := ⟨_, he, rfl⟩
    have stop : its.toArray[i]? = none := by simp; omega
    unfold pyNext
    refine wpAny_bind (wpAny_attempt (wpAny_callSpecial?_slot (name := Str.ofString "__next__") hT F.slot_enumerate_next (wpAny_call_entry F.slot_enumerate_next hT F.entry_enumerate_next ?_ (F.args_enumerate_next_1 _)))); show wpAny _ _ (field (.ref e) 2 >>= _) _ _ _
    refine wpAny_bind (wpAny_field he rfl (x := .ref it) rfl (wpAny_bind (wpAny_nextOf_tuple_end (I.ok.hd hc) hit hp stop fun h2 y eb hy => ?_)))
    obtain ⟨o, ho, hcl⟩ := hy
    refine wpAny_bind (wpAny_isInstance (T := "StopIteration") (b := true) ⟨o, ho, hcl⟩ isSubtype_stop (wpAny_pure ?_))
    exact ⟨rfl, I.turned (t' := s.toks) (fun b o hb q => eb b o hb q) f0 f1 f3 f4 f5⟩
  self := fun A i s Q E st h => by
    obtain ⟨⟨_, he⟩, _⟩ := st
    exact wpAny_pyIter_enum he h
def iEnumT (K : PySem.W.Frag) (ta : TA) : TI := fun σ H R => ta σ H fun vs H1 => ∃ a xs, vs = [.ref a] ∧ SqT K H1 a xs ∧ R (ItT K a) H1
theorem pi_enumT {X : Cx} {e : Expr} {ta : TA} {p pos tpos : Pos} {elts : List Expr} {kk : Nat} (hg : Gl X "enumerate") (hm : X.mg "enumerate" = none) (ha : PA X [e] ta) (hs : starEach [e] X.env = [(false, eval e X.env)] := by rfl) :
    PI X (.Tuple elts kk tpos) (.Call (.Name "enumerate" p) [e] [] pos) (iEnumT X.K ta) := by
  refine ⟨fun pins s σ H R I h => Call_ (ld_blt I hg hm boot_enumerate (PyProof.Rows.callWith_type1 (thn (ha.run pos pins s σ H _ I h) fun us s1 ⟨vs, H1, I1, r1, q1⟩ => ?_) hs rfl))⟩
  obtain ⟨a, xs, rfl, hq, q⟩ := q1
  cases r1 with
  | cons r rr =>
    cases rr
    cases r
    obtain ⟨its, rv, p', hz⟩ := I1.tuple hq
    have hp : s1.heap.IsTuple a its.toArray := p'
    have hlt : a < s1.heap.objs.size := by obtain ⟨o, ho, _⟩ := hp; exact Heap.lt_size ho
    refine call_enumT hp fun h2 he hit hsz hk => wpAny_pyIter_enum he ?_
    have I2 : Inv X pins σ H1 { s1 with heap := h2 } := I1.kept (t' := s1.toks) hk
    refine ⟨s1.heap.objs.size + 1, [s1.heap.objs.size + 1, s1.heap.objs.size], _, _, H1, rfl, I2, turn_enumT a (s1.heap.objs.size + 1) s1.heap.objs.size, ⟨⟨.none, he⟩, hit, Nat.succ_ne_self _, Nat.ne_of_lt hlt, Nat.ne_of_lt (Nat.lt_succ_of_lt hlt)⟩, fun b hb => ?_, q⟩
    have hle : s1.heap.objs.size ≤ b := by
      rcases (by simpa using hb : b = s1.heap.objs.size + 1 ∨ b = s1.heap.objs.size) with z | z
      · rw [z]; exact Nat.le_add_right _ _
      · rw [z]; exact Nat.le_refl _
    exact I1.fpOk hle (I1.hok.fresh hle)
/-- (0, x), (1, y), .. -/
def numb : Nat → List D → List D
  | _, [] => []
  | n, d :: ds => .tup [.int (n : Int), d] :: numb (n + 1) ds
theorem numb_get : ∀ (ds : List D) (n i : Nat), (numb n ds)[i]? = (ds[i]?).map fun d => .tup [.int ((n + i : Nat) : Int), d]
  | [], _, _ => rfl
  | d :: ds, n, 0 => rfl
  | d :: ds, n, i + 1 => by
    show (numb (n + 1) ds)[i]? = _
    rw [numb_get ds (n + 1) i, show n + 1 + i = n + (i + 1) by omega]; rfl
theorem numb_len : ∀ (ds : List D) (n : Nat), (numb n ds).length = ds.length
  | [], _ => rfl
  | d :: ds, n => by simp only [numb, List.length_cons, numb_len ds]
def enumOf (x : D) (m : Mem) : Option (List D) := match x with
  | .tup ds => some (numb 0 ds)
  | .lst ds => some (numb 0 ds)
  | _ => none
def mEnum (a : ME) : MI := fun s m => (a s m).bind fun d m1 => Res.of (enumOf d m1) m1
section
variable {X : Cx} {k : Nat} {W : WT} {e : Expr} {ca cb : ME} {p pos tpos : Pos} {elts : List Expr} {kk : Nat}
theorem it_pairs {T : Ct} {io io' : Nat → Addr} {F F' : Addr → Prop} {m m' : Mem} {H H' : Hp} {ds : List D} {xs : List V} {d : D} {i : Nat} {x : V} {P : Addr} (S : Sim T io F m H) (q : RelDs T.K io F m.nx H ds xs) (E : Ext io F m H io' F' m' H') (S' : Sim T io' F' m' H')
    (e : (numb 0 ds)[i]? = some d) (ex : xs[i]? = some x) (hP : H' P = none) : ∃ io'' F'', Ext io' F' m' H' io'' F'' m' (upd H' P (.tup [.int (i : Nat), x])) ∧ Sim T io'' F'' m' (upd H' P (.tup [.int (i : Nat), x])) ∧ RelD T.K io'' F'' m'.nx (upd H' P (.tup [.int (i : Nat), x])) d (.ref P) := by
  rw [numb_get, Option.map_eq_some_iff] at e
  obtain ⟨c, e, rfl⟩ := e
  obtain ⟨v, e1, e2⟩ := q.get e
  rw [ex] at e1
  cases e1
  have E2 := Ext.addF (o := .tup [.int (i : Nat), x]) S' hP
  have S2 := S'.newF (o := .tup [.int (i : Nat), x]) hP
  refine ⟨io', orF F' P, E2, S2, ?_⟩
  simp only [RelD, RelDs]
  refine ⟨P, [.int (i : Nat), x], rfl, .inl ⟨.inr rfl, upd_same⟩, ?_⟩
  simp only [RelDs, RelD]
  exact ⟨by simp, (e2.mono (S.mono E)).mono (S'.mono E2), trivial⟩
theorem it_enumL {T : Ct} {io : Nat → Addr} {F : Addr → Prop} {m : Mem} {H : Hp} {a : Addr} {xs : List V} {ds : List D} (S : Sim T io F m H) (q : RelDs T.K io F m.nx H ds xs) (hs : ∀ io' F' m' H', Ext io F m H io' F' m' H' → SqL T.K H' a xs) : ItOk T io F m H (numb 0 ds) (Ite T.K a) := by
  refine ⟨fun i io' F' m' H' E S' hi => ?_, fun i io' F' m' H' E S' hi => ⟨xs, hs _ _ _ _ E, by rw [hi, numb_len, q.len]; exact Nat.le_refl _⟩, fun i io' F' m' H' x H'' d E S' e y => ?_⟩
  · rw [numb_len] at hi
    obtain ⟨v, e1, _⟩ := q.get (List.getElem?_eq_getElem hi)
    exact ⟨xs, v, hs _ _ _ _ E, e1⟩
  · obtain ⟨P, x, rfl, hP, rfl, y⟩ := y
    exact it_pairs S q E S' e (y xs (hs _ _ _ _ E)) hP
theorem it_enumT {T : Ct} {io : Nat → Addr} {F : Addr → Prop} {m : Mem} {H : Hp} {a : Addr} {xs : List V} {ds : List D} (S : Sim T io F m H) (q : RelDs T.K io F m.nx H ds xs) (hs : ∀ io' F' m' H', Ext io F m H io' F' m' H' → SqT T.K H' a xs) : ItOk T io F m H (numb 0 ds) (ItT T.K a) := by
  refine ⟨fun i io' F' m' H' E S' hi => ?_, fun i io' F' m' H' E S' hi => ⟨xs, hs _ _ _ _ E, by rw [hi, numb_len, q.len]; exact Nat.le_refl _⟩, fun i io' F' m' H' x H'' d E S' e y => ?_⟩
  · rw [numb_len] at hi
    obtain ⟨v, e1, _⟩ := q.get (List.getElem?_eq_getElem hi)
    exact ⟨xs, v, hs _ _ _ _ E, e1⟩
  · obtain ⟨P, x, rfl, hP, rfl, y⟩ := y
    exact it_pairs S q E S' e (y xs (hs _ _ _ _ E)) hP
theorem d_enum (hh : Here k W X) (hg : Gl X "enumerate") (hm : X.mg "enumerate" = none) (ha : PE X e (tE (ctOf X) W ca)) (hs : starEach [e] X.env = (false, eval e X.env) :: starEach [] X.env := by rfl) (hs1 : starEach [e] X.env = [(false, eval e X.env)] := by rfl) :
    DIt X W (.Tuple elts kk tpos) (.Call (.Name "enumerate" p) [e] [] pos) (mEnum ca) := by
  have hA := d_cons ha (d_nil (X := X) (W := W)) hs
  refine ⟨_, pi_or (pi_enum hg hm hA hs1) (pi_enumT hg hm hA hs1), fun σ H R io F m sd S rs h => ?_⟩
  unfold mEnum at h
  cases q : ca sd m with
  | bad => rw [q] at h; exact h.elim
  | exc C fs m1 => rw [q] at h; exact .inl ⟨io, F, m, sd, S, rs, by
      have z : mCons ca mNil sd m = .exc C fs m1 := by unfold mCons mNil; rw [q]; rfl
      rw [z]; exact h⟩
  | ok d m1 =>
    rw [q] at h
    simp only [Res.bind_ok] at h
    cases d with
    | tup ds =>
      refine .inr ⟨io, F, m, sd, S, rs, ?_⟩
      have z : mCons ca mNil sd m = .ok [.tup ds] m1 := by unfold mCons mNil; rw [q]; rfl
      rw [z]
      intro io' F' H' v E S' r
      obtain ⟨v, rfl, r2⟩ := one_rel r
      simp only [RelD] at r2
      obtain ⟨a, xs, rfl, t, qq⟩ := r2
      exact ⟨a, xs, rfl, t.sq, h io' F' H' _ E S' (it_enumT S' qq fun _ _ _ _ E' => t.later S' E')⟩
    | lst ds =>
      refine .inl ⟨io, F, m, sd, S, rs, ?_⟩
      have z : mCons ca mNil sd m = .ok [.lst ds] m1 := by unfold mCons mNil; rw [q]; rfl
      rw [z]
      intro io' F' H' v E S' r
      obtain ⟨v, rfl, r2⟩ := one_rel r
      simp only [RelD] at r2
      obtain ⟨a, xs, rfl, f, t, qq⟩ := r2
      exact ⟨a, xs, rfl, .inl (.inl t), h io' F' H' _ E S' (it_enumL S' qq fun _ _ _ _ E' => .inl (.inl ((S'.mono E').kl a xs f t)))⟩
    | _ => exact h.elim
end
end Ev

set_option Elab.async false
set_option linter.all false
set_option maxRecDepth 100000
set_option autoImplicit false
/-! Ev16: new lists by + and list(..), stores in lists. -/
namespace Ev
open PySem PySem.Spec PyProof.Rows L2
section
variable {X : Cx} {k : Nat} {W : WT} {a b e o i value : Expr} {es : List Expr} {x : Str} {pos pos' p : Pos} {ca cb cv co ci : ME} {cA : MA}
/-- a new list, a + b -/
def mNewAdd (ca cb : ME) : ME := fun s m => (ca s m).bind fun x m1 => (cb s m1).bind fun y m2 => match lstOf x m2, lstOf y m2 with
  | some ds, some es => if ds.length + es.length ≤ sizeLine then .ok (.ref m2.nx) (m2.add (.lst (ds ++ es))) else .bad
  | _, _ => .bad
theorem d_newAdd (ha : PE X a (tE (ctOf X) W ca)) (hb : PE X b (tE (ctOf X) W cb)) : PE X (.BinOp a .Add b pos) (tE (ctOf X) W (mNewAdd ca cb)) :=
  pe_imp (pe_op op_cat ha hb) fun σ H Q h => by
    have h1 := tG.bind (R := RD (ctOf X)) (R' := RD (ctOf X)) (c := ca) (k := fun x s m1 => (cb s m1).bind fun y m2 => match lstOf x m2, lstOf y m2 with
      | some ds, some es => if ds.length + es.length ≤ sizeLine then .ok (D.ref m2.nx) (m2.add (.lst (ds ++ es))) else .bad
      | _, _ => .bad) h
    refine h1.imp fun x H1 h2 => ?_
    refine (tK.bind (R := RD (ctOf X)) (monoD _) h2).imp fun y H2 h3 => ?_
    obtain ⟨io, F, m, sd, ⟨d, e⟩, S, rs, ⟨r1, r2⟩, p⟩ := h3
    dsimp only at p r1 r2
    split at p
    · rename_i ds es e1 e2
      split at p
      · rename_i hl
        obtain ⟨u, xs, rfl, t1, q1⟩ := lstOf_rel S r1 e1
        obtain ⟨v, ys, rfl, t2, q2⟩ := lstOf_rel S r2 e2
        refine ⟨u, v, xs, ys, rfl, rfl, t1, t2, by rw [← q1.len, ← q2.len]; exact hl, fun q hq => ?_⟩
        have E := Ext.alloc (u := .lst (ds ++ es)) (o := .lst (xs ++ ys)) S hq
        refine p _ _ _ _ E (S.alloc hq ⟨xs ++ ys, upd_same, (q1.mono (S.mono E)).app (q2.mono (S.mono E))⟩) ?_
        simp only [RD, RelD]
        exact ⟨Nat.lt_succ_self _, by rw [ioN_self]⟩
      · exact p.elim
    · exact p.elim
/-- a new list of a list or tuple -/
def seqOf (x : D) (m : Mem) : Option (List D) := match view m x with
  | .lst ds => some ds
  | .tup ds => some ds
  | _ => none
def mNewList (ca : ME) : ME := fun s m => (ca s m).bind fun x m1 => match seqOf x m1 with
  | some ds => .ok (.ref m1.nx) (m1.add (.lst ds))
  | none => .bad
theorem d_newList (hh : Here k W X) (hg : Gl X "list") (hm : X.mg "list" = none) (ha : PE X e (tE (ctOf X) W ca)) (hs : starEach [e] X.env = (false, eval e X.env) :: starEach [] X.env := by rfl) (hpl : (backTo pos (starEach [] X.env)).any (·.1) = false := by rfl) :
    PE X (.Call (.Name "list" p) [e] [] pos) (tE (ctOf X) W (mNewList ca)) :=
  pe_imp (pe_callTy call_list_of hg hm boot_list (d_cons ha (d_nil (X := X) (W := W)) hs) (by decide) (by decide) hs hpl) fun σ H Q h => by
    have h0 : tG (RD (ctOf X)) (ctOf X) W (fun s m => (mCons ca mNil s m).bind fun xs m1 => match xs with
        | [x] => (match seqOf x m1 with
          | some ds => Res.ok (D.ref m1.nx) (m1.add (.lst ds))
          | none => .bad)
        | _ => .bad) σ H Q := by
      obtain ⟨io, F, m, sd, S, rs, p⟩ := h
      refine ⟨io, F, m, sd, S, rs, ?_⟩
      unfold mNewList at p
      unfold mCons mNil
      cases q : ca sd m with
      | ok a m1 => rw [q] at p; dsimp only; rw [q]; exact p
      | exc C fs m1 => rw [q] at p; dsimp only; rw [q]; exact p
      | bad => rw [q] at p; dsimp only; rw [q]; exact p
    refine (tG.bind (R := RDs (ctOf X)) (R' := RD (ctOf X)) (c := mCons ca mNil) (k := fun xs s m1 => match xs with
        | [x] => (match seqOf x m1 with
          | some ds => Res.ok (D.ref m1.nx) (m1.add (.lst ds))
          | none => .bad)
        | _ => .bad) h0).imp fun xs H1 h2 => ?_
    obtain ⟨io, F, m, sd, ds, S, rs, r, p⟩ := h2
    dsimp only at p
    split at p
    · rename_i d
      obtain ⟨v, rfl, rv⟩ := one_rel (r : RelDs _ _ _ _ _ _ _)
      split at p
      · rename_i es e1
        have key : ∃ u ys, v = .ref u ∧ (SqL X.K H1 u ys ∨ SqT X.K H1 u ys) ∧ RelDs X.K io F m.nx H1 es ys := by
          unfold seqOf at e1
          split at e1
          · rename_i f e2
            cases e1
            obtain ⟨u, ys, rfl, t, q⟩ := at_lst S rv e2
            exact ⟨u, ys, rfl, .inl (.inl (.inl t)), q⟩
          · rename_i f e2
            cases e1
            obtain ⟨u, ys, rfl, t, q⟩ := is_tup rv e2
            exact ⟨u, ys, rfl, .inr t.sq, q⟩
          · cases e1
        obtain ⟨u, ys, rfl, t, q⟩ := key
        refine ⟨u, ys, rfl, t, fun l hl => ?_⟩
        have E := Ext.alloc (u := .lst es) (o := .lst ys) S hl
        refine p _ _ _ _ E (S.alloc hl ⟨ys, upd_same, q.mono (S.mono E)⟩) ?_
        simp only [RD, RelD]
        exact ⟨Nat.lt_succ_self _, by rw [ioN_self]⟩
      · exact p.elim
    · exact p.elim
/-- o[i] = e, o a list that may change -/
def mLPut (co ci cv : ME) : MS := fun s m => (cv s m).then_ s fun v m1 => (co s m1).then_ s fun x m2 => (ci s m2).then_ s fun y m3 => match x, y with
  | .ref j, .int i => (match m3.ob j with
    | some (.lst ds) => (match ixN ds.length i with
      | some n => .nx s (m3.put j (.lst (ds.set n v)))
      | none => .bad)
    | _ => .bad)
  | _, _ => .bad
theorem d_lput (hh : Here k W X) (ho : PE X o (tE (ctOf X) W co)) (hi : PE X i (tE (ctOf X) W ci)) (hv : PE X value (tE (ctOf X) W cv)) (h1 : swapsWithSole [.Subscript o i pos'] value pos.line X.env = pure false := by rfl) (h2 : swappedStores [.Subscript o i pos'] value X.env = pure none := by rfl)
    (h3 : (assignEach [.Subscript o i pos'] X.env).map (·.2) = [assign (.Subscript o i pos') X.env] := by rfl)
    (h4 : ∀ v, assign (.Subscript o i pos') X.env v = (do let ov ← holding [v] (eval o X.env); let iv ← holding [v, ov] (eval i X.env); standAt pos'; holding [v, ov, iv] (setItem ov iv v); release [v, ov, iv] []) := by intro _; rfl) : PS X (.Assign [.Subscript o i pos'] value pos) (tS (ctOf X) W (mLPut co ci cv)) := by
  refine ps_imp (ps_asg hv (pg_sub ho hi set_list h4) h1 h2 h3) fun D σ H h => ?_
  obtain ⟨io, F, m, sd, S, rs, p⟩ := h
  refine ⟨io, F, m, sd, S, rs, (PostS.then_ (R := RD (ctOf X)) S rs p).imp fun v H1 ⟨io1, F1, m1, d1, S1, rs1, r1, p1⟩ => ?_⟩
  have q2 := PostS.then_ (R := RD (ctOf X)) S1 rs1 p1
  refine ⟨io1, F1, m1, sd, S1, rs1, ?_⟩
  cases e2 : co sd m1 with
  | bad => rw [e2] at q2; exact q2
  | exc C fs m2 => rw [e2] at q2; exact q2
  | ok d2 m2 =>
    rw [e2] at p1
    simp only [Res.then_ok] at p1
    intro io2 F2 H2 x E2 S2 r2
    have r1' := r1.mono (S1.mono E2)
    have rs2 := rs1.mono (S1.mono E2)
    have p2 := p1.ext E2
    have q3 := PostS.then_ (R := RD (ctOf X)) S2 rs2 p2
    refine ⟨io2, F2, m2, sd, S2, rs2, ?_⟩
    cases e3 : ci sd m2 with
    | bad => rw [e3] at q3; exact q3
    | exc C fs m3 => rw [e3] at q3; exact q3
    | ok d3 m3 =>
      rw [e3] at p2
      simp only [Res.then_ok] at p2
      intro io3 F3 H3 y E3 S3 r3
      have r1'' := r1'.mono (S2.mono E3)
      have r2' := r2.mono (S2.mono E3)
      have rs3 := rs2.mono (S2.mono E3)
      have p3 := p2.ext E3
      split at p3
      · rename_i j ii
        split at p3
        · rename_i ds q
          split at p3
          · rename_i n hn
            obtain ⟨xs, hx, t, rx⟩ := lst_of S3 r2' rfl q
            simp only [RD, RelD] at r3
            refine ⟨io3 j, xs, ii, n, hx, r3, t, by rw [← rx.len]; exact hn, ?_⟩
            have E := Ext.put (u' := .lst (ds.set n d1)) (o := .lst (xs.set n v)) S3 q
            exact p3 _ _ _ _ E (S3.put q ⟨xs.set n v, upd_same, (rx.mono (S3.mono E)).set n (r1''.mono (S3.mono E))⟩) (rs3.mono (S3.mono E))
          · exact p3.elim
        · exact p3.elim
      · exact p3.elim
variable {s : Shared} {H : Hp} {sc : Scope} {ce : Env} {fp : List Addr}
theorem d_gtupB {tgs : List Expr} {g : List D → Slots → Option Slots} {ts : List Nat} {n kk : Nat} {g1 : TGs} (hc : (X.blk s H sc ce fp).calm = true) (h : DTgs (X.blk s H sc ce fp) tgs g1 g ts) (hl : (assignEach tgs (X.blk s H sc ce fp).env).length = n := by rfl)
    (hn : (assignEach tgs (X.blk s H sc ce fp).env).findIdx? (·.1) = none := by rfl) : DTg (X.blk s H sc ce fp) (.Tuple tgs kk pos) (gTup X.K n g1) (aTup n g) ts := d_gtup hc h hl hn
theorem d_glstB {tgs : List Expr} {g : List D → Slots → Option Slots} {ts : List Nat} {n kk : Nat} {g1 : TGs} (hc : (X.blk s H sc ce fp).calm = true) (h : DTgs (X.blk s H sc ce fp) tgs g1 g ts) (hl : (assignEach tgs (X.blk s H sc ce fp).env).length = n := by rfl)
    (hn : (assignEach tgs (X.blk s H sc ce fp).env).findIdx? (·.1) = none := by rfl) : DTg (X.blk s H sc ce fp) (.Tuple tgs kk pos) (gLst X.K n g1) (aLst n g) ts := d_glst hc h hl hn
theorem d_if1B {c : Expr} {ct : MT} (h : PT (X.blk s H sc ce fp) c (tT (ctOf (X.blk s H sc ce fp)) W ct)) : DIfs (X.blk s H sc ce fp) W [c] (tT (ctOf X) W ct) ct := ⟨pts_one h, fun σ H Q q => q⟩
/-- a < b, tuples of ints -/
def opLtT : O2 := fun x y m => match view m x, view m y with
  | .tup a, .tup b => (match intsOf a, intsOf b with
    | some ns, some ms => some (.bl (HT.lexLt ns ms))
    | _, _ => none)
  | _, _ => none
theorem o_ltT (hu : X.A.units + 65 < cLine) : OpR X (compareOp .Lt) (rD (ctOf X) opLtT) := by
  intro pins s σ H x y v u Q I rx ry h
  obtain ⟨io, F, m, d, e, S, rd, re, z, hz, k⟩ := h
  unfold opLtT at hz
  split at hz
  · rename_i a b e1 e2
    split at hz
    · rename_i ns ms h1 h2
      cases hz
      obtain ⟨p, xs, rfl, t1, q1⟩ := is_tup rd e1
      obtain ⟨q, ys, rfl, t2, q2⟩ := is_tup re e2
      rw [intsOf_map h1] at q1
      rw [intsOf_map h2] at q2
      have z1 := intsV_rel q1
      have z2 := intsV_rel q2
      subst z1 z2
      exact op_ltT (by omega) pins s σ H _ _ v u Q I rx ry ⟨p, q, ns, ms, rfl, rfl, t1.sq, t2.sq, k.now S (by simp only [RelD])⟩
    · cases hz
  · cases hz
end
end Ev

set_option Elab.async false
set_option linter.all false
set_option maxRecDepth 100000
set_option autoImplicit false
/-! Ev12: the pen with cells, at, left. -/
namespace Ev
open PySem PySem.Spec PyProof.Rows L2
def penA (c : List Int) (a l : Int) : Ob := .dk [.inr "cells", .inr "at", .inr "left"] [.lst (c.map D.int), .int a, .int l]
def mA_draw : MS :=
    (mSeq (mIf (mT (mOp opGt (mOp opIx (mV 0) (mC (.str "left"))) (mC (.int 0)))) (mSeq (mSet 2 (mOp opMod (mOp opIx (mV 0) (mC (.str "left"))) (mV 1)))
    (mSeq (mDPut (mV 0) (mC (.str "left")) (mOp opDiv (mOp opIx (mV 0) (mC (.str "left"))) (mV 1)))
    (mRet (mV 2)))) mSkip)
    (mSeq (mSet 3 (mOp opIx (mV 0) (mC (.str "cells"))))
    (mSeq (mSet 4 (mOp opIx (mV 0) (mC (.str "at"))))
    (mSeq (mDPut (mV 0) (mC (.str "at")) (mOp opAdd (mV 4) (mC (.int 1))))
    (mSeq (mSet 5 (mOp opAdd (mOp opMul (mC (.int 30011)) (mV 4)) (mC (.int 77))))
    (mSeq (mIf (mT (mOp opNe (mV 3) (mLst mNil))) (mSet 5 (mOp opIx (mV 3) (mOp opMod (mV 4) (mCB opLen (mCons (mV 3) mNil))))) mSkip)
    (mSeq (mIf (mAnd (mT (mOp opLt (mV 4) (mCB opLen (mCons (mV 3) mNil)))) (mT (mOp opGe (mCB opAbs (mCons (mV 5) mNil)) (mOp opPow (mC (.int 10)) (mC (.int 18)))))) (mSeq (mDPut (mV 0) (mC (.str "left")) (mOp opDiv (mCB opAbs (mCons (mV 5) mNil)) (mV 1)))
    (mRet (mOp opMod (mCB opAbs (mCons (mV 5) mNil)) (mV 1)))) mSkip)
    (mSeq (mSet 6 (mOp opMod (mOp opPow (mOp opAdd (mOp opAdd (mOp opMod (mV 5) (mC (.int 2147483587))) (mOp opMul (mC (.int 50021)) (mV 4))) (mC (.int 29))) (mC (.int 5))) (mC (.int 2147483629))))
    (mSeq (mSet 6 (mOp opMod (mOp opPow (mOp opAdd (mOp opMul (mV 6) (mOp opAdd (mOp opMul (mC (.int 2)) (mV 4)) (mC (.int 5)))) (mC (.int 81799))) (mC (.int 3))) (mC (.int 2147483647))))
    (mRet (mOp opMod (mOp opDiv (mV 6) (mC (.int 16))) (mV 1))))))))))))
def sC : MS := (mSeq (mSet 6 (mOp opMod (mOp opPow (mOp opAdd (mOp opAdd (mOp opMod (mV 5) (mC (.int 2147483587))) (mOp opMul (mC (.int 50021)) (mV 4))) (mC (.int 29))) (mC (.int 5))) (mC (.int 2147483629))))
    (mSeq (mSet 6 (mOp opMod (mOp opPow (mOp opAdd (mOp opMul (mV 6) (mOp opAdd (mOp opMul (mC (.int 2)) (mV 4)) (mC (.int 5)))) (mC (.int 81799))) (mC (.int 3))) (mC (.int 2147483647))))
    (mRet (mOp opMod (mOp opDiv (mV 6) (mC (.int 16))) (mV 1)))))
def sB : MS :=
    (mSeq (mIf (mAnd (mT (mOp opLt (mV 4) (mCB opLen (mCons (mV 3) mNil)))) (mT (mOp opGe (mCB opAbs (mCons (mV 5) mNil)) (mOp opPow (mC (.int 10)) (mC (.int 18)))))) (mSeq (mDPut (mV 0) (mC (.str "left")) (mOp opDiv (mCB opAbs (mCons (mV 5) mNil)) (mV 1)))
    (mRet (mOp opMod (mCB opAbs (mCons (mV 5) mNil)) (mV 1)))) mSkip) sC)
theorem look_left (c a l : D) : look [(.inr "cells" : Key), .inr "at", .inr "left"] [c, a, l] (.inr "left") = some l := by
  rw [look_cons, if_neg (by decide), look_cons, if_neg (by decide), look_cons, if_pos rfl]
theorem look_at (c a l : D) : look [(.inr "cells" : Key), .inr "at", .inr "left"] [c, a, l] (.inr "at") = some a := by
  rw [look_cons, if_neg (by decide), look_cons, if_pos rfl]
theorem look_cells (c a l : D) : look [(.inr "cells" : Key), .inr "at", .inr "left"] [c, a, l] (.inr "cells") = some c := by
  rw [look_cons, if_pos rfl]
theorem ix_dk {m : Mem} {i : Nat} {ks : List Key} {ds : List D} {y z : D} {k : Key} (e : m.ob i = some (.dk ks ds)) (hk : keyOf y = some k) (h : look ks ds k = some z) : opIx (.ref i) y m = some z := by
  unfold opIx
  rw [view_ref, e]
  dsimp only [viewO]
  cases y <;> (cases hk; try exact h)
theorem put_left (c a l l' : D) : putD ([(.inr "cells" : Key), .inr "at", .inr "left"].zip [c, a, l]) (.inr "left") l' = [(.inr "cells", c), (.inr "at", a), (.inr "left", l')] := by
  unfold putD
  rw [if_pos (by rw [List.any_eq_true]; exact ⟨(.inr "left", l), by simp [List.zip, List.zipWith], decide_eq_true rfl⟩)]
  show [_, _, _] = _
  dsimp only
  rw [if_neg (by decide), if_neg (by decide), if_pos rfl]
theorem put_at (c a l a' : D) : putD ([(.inr "cells" : Key), .inr "at", .inr "left"].zip [c, a, l]) (.inr "at") a' = [(.inr "cells", c), (.inr "at", a'), (.inr "left", l)] := by
  unfold putD
  rw [if_pos (by rw [List.any_eq_true]; exact ⟨(.inr "at", a), by simp [List.zip, List.zipWith], decide_eq_true rfl⟩)]
  show [_, _, _] = _
  dsimp only
  rw [if_neg (by decide), if_pos rfl, if_neg (by decide)]
section
variable {N : Slots → Mem → Prop} {R : D → Mem → Prop} {B C : Slots → Mem → Prop} {X : XS} {Q : D → Mem → Prop} {XX : XQ} {s : Slots} {m : Mem} {c : List Int} {a l l' : Int}
theorem ixA_left (hp : m.ob 0 = some (penA c a l)) (h : Q (.int l) m) : wp (Res.of (opIx (.ref 0) (.str "left") m) m) Q XX := wp_of (ix_dk hp rfl (look_left _ _ _)) h
theorem ixA_at (hp : m.ob 0 = some (penA c a l)) (h : Q (.int a) m) : wp (Res.of (opIx (.ref 0) (.str "at") m) m) Q XX := wp_of (ix_dk hp rfl (look_at _ _ _)) h
theorem ixA_cells (hp : m.ob 0 = some (penA c a l)) (h : Q (.lst (c.map D.int)) m) : wp (Res.of (opIx (.ref 0) (.str "cells") m) m) Q XX := wp_of (ix_dk hp rfl (look_cells _ _ _)) h
theorem putA_left {P : Mem → Prop} (hp : m.ob 0 = some (penA c a l)) (h : P (m.put 0 (penA c a l'))) : dputP (.ref 0) (.str "left") (.int l') m P :=
  ⟨0, _, _, .inr "left", rfl, hp, rfl, by decide, rfl, by rw [put_left]; exact h⟩
theorem putA_at {P : Mem → Prop} (hp : m.ob 0 = some (penA c a l)) (h : P (m.put 0 (penA c l' l))) : dputP (.ref 0) (.str "at") (.int l') m P :=
  ⟨0, _, _, .inr "at", rfl, hp, rfl, by decide, rfl, by rw [put_at]; exact h⟩
theorem put_ob (m : Mem) (i : Nat) (o : Ob) : (m.put i o).ob i = some o := if_pos rfl
theorem put_put (m : Mem) (i : Nat) (o o' : Ob) : (m.put i o).put i o' = m.put i o' := by
  unfold Mem.put
  congr 1
  funext j
  dsimp only
  split <;> rfl
end

/-- memory with the pen, at most t numbers drawn anew -/
structure PM (t : Nat) (m : Mem) : Prop where
  pen : ∃ c a l, m.ob 0 = some (penA c a l) ∧ c.length ≤ 63 ∧ 0 ≤ a ∧ a ≤ t ∧ 0 ≤ l
  wf : ∀ j, m.nx ≤ j → m.ob j = none
/-- just the pen is another one -/
structure Ch (m m' : Mem) : Prop where
  nx : m.nx ≤ m'.nx
  ob : ∀ j, j ≠ 0 → j < m.nx → m'.ob j = m.ob j
theorem Ch.refl (m : Mem) : Ch m m := ⟨Nat.le_refl _, fun _ _ _ => rfl⟩
theorem Ch.trans {a b c : Mem} (h : Ch a b) (k : Ch b c) : Ch a c := ⟨Nat.le_trans h.nx k.nx, fun j z l => (k.ob j z (Nat.lt_of_lt_of_le l h.nx)).trans (h.ob j z l)⟩
theorem PM.mono {t u : Nat} {m : Mem} (h : PM t m) (l : t ≤ u) : PM u m := by
  obtain ⟨⟨c, a, l0, e, h1, h2, h3, h4⟩, w⟩ := h
  exact ⟨⟨c, a, l0, e, h1, h2, by omega, h4⟩, w⟩
theorem PM.nx {t : Nat} {m : Mem} (h : PM t m) : 0 < m.nx := by
  obtain ⟨⟨c, a, l0, e, h1, h2, h3, h4⟩, w⟩ := h
  rcases Nat.lt_or_ge 0 m.nx with z | z
  · exact z
  · rw [w 0 z] at e; cases e
theorem PM.put {t : Nat} {m : Mem} (h : PM t m) {c : List Int} {a l : Int} (u : Nat) (h1 : c.length ≤ 63) (h2 : 0 ≤ a) (h3 : a ≤ u) (h4 : 0 ≤ l) : PM u (m.put 0 (penA c a l)) ∧ Ch m (m.put 0 (penA c a l)) :=
  ⟨⟨⟨c, a, l, put_ob _ _ _, h1, h2, h3, h4⟩, fun j hj => by
    have := h.nx
    have hj' : m.nx ≤ j := hj
    show (if j = 0 then _ else m.ob j) = none
    rw [if_neg (by omega)]; exact h.wf j hj⟩, ⟨Nat.le_refl _, fun j hj _ => if_neg hj⟩⟩
theorem w_draw {t : Nat} {n : Int} {m : Mem} {Q : D → Mem → Prop} {XX : XQ} (p : PM t m) (ht : t < 2 ^ 31) (hn : 0 < n) (hl : n.natAbs.log2 < 9000)
    (k : ∀ d m', PM (t + 1) m' → Ch m m' → 0 ≤ d → d < n → Q (.int d) m') : wp (body 2 7 mA_draw [.ref 0, .int n] m) Q XX := by
  obtain ⟨⟨c, a, l, hp, h1, h2, h3, h4⟩, w⟩ := p
  have p : PM t m := ⟨⟨c, a, l, hp, h1, h2, h3, h4⟩, w⟩
  refine w_body rfl ?_
  unfold mA_draw
  (repeat' (first | (with_reducible first | refine w_seq ?_ | refine w_if ?_ | refine v_c ?_ | refine v_op ?_ | refine t_t ?_) | (with_reducible refine v_vx ?_; refine ex_v rfl ?_) | fail))
  refine ixA_left hp ?_
  (repeat' (first | (with_reducible first | refine v_c ?_ | refine ex_bl ?_ | refine q_gt ?_) | fail))
  refine pick_d (fun h => ?_) (fun h => ?_)
  · (repeat' (first | (with_reducible first | refine w_seq ?_ | refine w_set ?_ | refine v_c ?_ | refine v_op ?_) | (with_reducible refine v_vx ?_; refine ex_v rfl ?_) | fail))
    refine ixA_left hp ?_
    (repeat' (first | (with_reducible refine v_vx ?_; refine ex_v rfl ?_) | fail))
    refine i_mod hn ?_
    (repeat' (first | (with_reducible first | refine w_seq ?_ | refine w_dput ?_ | refine v_c ?_ | refine v_op ?_) | (with_reducible refine v_vx ?_; refine ex_v rfl ?_) | fail))
    refine ixA_left hp ?_
    (repeat' (first | (with_reducible refine v_vx ?_; refine ex_v rfl ?_) | fail))
    refine i_div hn hl ?_
    (repeat' (first | (with_reducible first | refine v_c ?_) | (with_reducible refine v_vx ?_; refine ex_v rfl ?_) | fail))
    refine putA_left hp ?_
    (repeat' (first | (with_reducible first | refine w_ret ?_) | (with_reducible refine v_vx ?_; refine ex_v rfl ?_) | fail))
    have q := p.put (c := c) (a := a) (l := l / n) (t + 1) h1 h2 (by omega) (Int.ediv_nonneg h4 (Int.le_of_lt hn))
    exact k _ _ q.1 q.2 (Int.emod_nonneg _ (by omega)) (Int.emod_lt_of_pos _ hn)
  · (repeat' (first | (with_reducible first | refine w_seq ?_ | refine w_set ?_ | refine w_skip ?_ | refine v_c ?_ | refine v_op ?_) | (with_reducible refine v_vx ?_; refine ex_v rfl ?_) | fail))
    refine ixA_cells hp ?_
    (repeat' (first | (with_reducible first | refine w_seq ?_ | refine w_set ?_ | refine v_c ?_ | refine v_op ?_) | (with_reducible refine v_vx ?_; refine ex_v rfl ?_) | fail))
    refine ixA_at hp ?_
    (repeat' (first | (with_reducible first | refine w_seq ?_ | refine w_dput ?_ | refine v_c ?_ | refine v_op ?_ | refine q_add ?_) | (with_reducible refine v_vx ?_; refine ex_v rfl ?_) | fail))
    refine putA_at hp ?_
    (repeat' (first | (with_reducible first | refine w_seq ?_ | refine w_set ?_ | refine v_c ?_ | refine v_op ?_) | (with_reducible refine v_vx ?_; refine ex_v rfl ?_) | fail))
    refine i_mul (by decide) (by omega) ?_
    (repeat' (first | (with_reducible first | refine w_seq ?_ | refine w_if ?_ | refine v_c ?_ | refine v_op ?_ | refine a_nil ?_ | refine v_lst ?_ | refine t_t ?_ | refine q_add ?_) | (with_reducible refine v_vx ?_; refine ex_v rfl ?_) | (with_reducible refine len_ok (by simp [sizeLine_eq]) ?_) | fail))
    refine q_ne (pl_ints _) pl_nil ?_
    refine ex_bl ?_
    -- the cell
    have fin : ∀ e : Int, ws (sB (((List.set (entry 7 [D.ref 0, D.int n]) 3 (some (D.lst (List.map D.int c)))).set 4 (some (D.int a))).set 5 (some (D.int e))) (m.put 0 (penA c (a + 1) l)))
        (fun _ m1 => Q .non m1) Q noS noS (fun K fs _ m1 => XX K fs m1) := by
      intro e
      have hp1 : (m.put 0 (penA c (a + 1) l)).ob 0 = some (penA c (a + 1) l) := put_ob _ _ _
      unfold sB
      (repeat' (first | (with_reducible first | refine w_seq ?_ | refine w_if ?_ | refine v_op ?_ | refine v_cb ?_ | refine a_nil ?_ | refine a_cons ?_ | refine t_t ?_ | refine t_and ?_ | refine ex_bl ?_ | refine q_lt ?_ | refine q_lenL ?_) | (with_reducible refine v_vx ?_; refine ex_v rfl ?_) | fail))
      have rest : ws (sC ((((List.set (entry 7 [D.ref 0, D.int n]) 3 (some (D.lst (List.map D.int c)))).set 4 (some (D.int a))).set 5 (some (D.int e)))) (m.put 0 (penA c (a + 1) l)))
          (fun _ m1 => Q .non m1) Q noS noS (fun K fs _ m1 => XX K fs m1) := by
        have at31 : a < 2 ^ 31 := by omega
        unfold sC
        (repeat' (first | (with_reducible first | refine w_seq ?_ | refine w_set ?_ | refine v_c ?_ | refine v_op ?_) | (with_reducible refine v_vx ?_; refine ex_v rfl ?_) | (with_reducible refine i_mod (by decide) ?_) | fail))
        refine i_mul (by decide) (by omega) ?_
        (repeat' (first | (with_reducible first | refine v_c ?_ | refine q_add ?_) | fail))
        have b1 := Int.emod_nonneg e (b := 2147483587) (by decide)
        have b2 := Int.emod_lt_of_pos e (b := 2147483587) (by decide)
        refine i_pow (by decide) (by decide) (by omega) ?_
        (repeat' (first | (with_reducible first | refine w_seq ?_ | refine w_set ?_ | refine v_c ?_ | refine v_op ?_) | (with_reducible refine v_vx ?_; refine ex_v rfl ?_) | (with_reducible refine i_mod (by decide) ?_) | fail))
        generalize hX : (e % 2147483587 + 50021 * a + 29) ^ Int.toNat 5 = x
        skip
        have c1 := Int.emod_nonneg x (b := 2147483629) (by decide)
        have c2 := Int.emod_lt_of_pos x (b := 2147483629) (by decide)
        generalize x % 2147483629 = y at c1 c2 ⊢
        refine i_mul (by decide) (by omega) ?_
        (repeat' (first | (with_reducible first | refine v_c ?_ | refine q_add ?_) | fail))
        have yb : y * (2 * a + 5) ≤ 2147483629 * (2 * a + 5) := Int.mul_le_mul_of_nonneg_right (by omega) (by omega)
        have yc : 0 ≤ y * (2 * a + 5) := Int.mul_nonneg c1 (by omega)
        refine i_mul (by omega) (by omega) ?_
        (repeat' (first | (with_reducible first | refine v_c ?_ | refine q_add ?_) | fail))
        refine i_pow (by decide) (by decide) (by omega) ?_
        (repeat' (first | (with_reducible first | refine w_ret ?_ | refine v_c ?_ | refine v_op ?_) | (with_reducible refine v_vx ?_; refine ex_v rfl ?_) | (with_reducible refine i_mod (by decide) ?_) | (with_reducible refine i_div (by decide) (by decide) ?_) | fail))
        generalize (y * (2 * a + 5) + 81799) ^ Int.toNat 3 = z
        skip
        refine i_mod hn ?_
        have q := p.put (c := c) (a := a + 1) (l := l) (t + 1) h1 (by omega) (by omega) h4
        exact k _ _ q.1 q.2 (Int.emod_nonneg _ (by omega)) (Int.emod_lt_of_pos _ hn)
      refine pick_d (fun h5 => ?_) (fun h5 => ?_)
      · (repeat' (first | (with_reducible first | refine v_c ?_ | refine v_op ?_ | refine v_cb ?_ | refine a_nil ?_ | refine a_cons ?_ | refine t_t ?_ | refine ex_bl ?_ | refine q_ge ?_ | refine q_abs ?_) | (with_reducible refine v_vx ?_; refine ex_v rfl ?_) | (with_reducible refine i_pow (by decide) (by decide) (by decide) ?_) | fail))
        refine pick_d (fun h6 => ?_) (fun h6 => ?_)
        · (repeat' (first | (with_reducible first | refine w_seq ?_ | refine w_dput ?_ | refine v_op ?_ | refine v_cb ?_ | refine a_nil ?_ | refine a_cons ?_ | refine q_abs ?_) | (with_reducible refine v_vx ?_; refine ex_v rfl ?_) | fail))
          refine i_div hn hl ?_
          (repeat' (first | (with_reducible first | refine v_c ?_) | (with_reducible refine v_vx ?_; refine ex_v rfl ?_) | fail))
          refine putA_left hp1 ?_
          (repeat' (first | (with_reducible first | refine w_ret ?_ | refine v_op ?_ | refine v_cb ?_ | refine a_nil ?_ | refine a_cons ?_ | refine q_abs ?_) | (with_reducible refine v_vx ?_; refine ex_v rfl ?_) | fail))
          refine i_mod hn ?_
          rw [put_put]
          have q := p.put (c := c) (a := a + 1) (l := (e.natAbs : Int) / n) (t + 1) h1 (by omega) (by omega) (Int.ediv_nonneg (by omega) (Int.le_of_lt hn))
          exact k _ _ q.1 q.2 (Int.emod_nonneg _ (by omega)) (Int.emod_lt_of_pos _ hn)
        · refine w_skip ?_
          exact rest
      · refine pick_f rfl ?_
        refine w_skip ?_
        exact rest
    refine pick_b (fun hc => ?_) (fun hc => ?_)
    · (repeat' (first | (with_reducible first | refine w_set ?_ | refine v_op ?_ | refine v_cb ?_ | refine a_nil ?_ | refine a_cons ?_ | refine q_lenL ?_) | (with_reducible refine v_vx ?_; refine ex_v rfl ?_) | fail))
      have hl : c ≠ [] := by
        rintro rfl
        simp only [List.map_nil, deq, deqs, Bool.not_true, Bool.false_eq_true] at hc
      have hl : 0 < c.length := List.length_pos_iff.mpr hl
      rw [List.length_map]
      refine i_mod (by omega) ?_
      have d1 := Int.emod_nonneg a (b := (c.length : Int)) (by omega)
      have d2 := Int.emod_lt_of_pos a (b := (c.length : Int)) (by omega)
      refine q_ixL ?_
      obtain ⟨j, hj⟩ := Int.eq_ofNat_of_zero_le d1
      rw [hj] at d2 ⊢
      have hj2 : j < c.length := by omega
      refine ex_o (z := .int c[j]) (atI_nat (by rw [List.getElem?_map, List.getElem?_eq_getElem hj2]; rfl)) ?_
      exact fin _
    · refine w_skip ?_
      exact fin _
/-- drawn, told from where one began -/
theorem w_drawC {t : Nat} {n : Int} {m0 m : Mem} {Q : D → Mem → Prop} {XX : XQ} (p : PM t m) (c : Ch m0 m) (ht : t < 2 ^ 31) (hn : 0 < n) (hl : n.natAbs.log2 < 9000)
    (k : ∀ d m', PM (t + 1) m' → Ch m0 m' → 0 ≤ d → d < n → Q (.int d) m') : wp (body 2 7 mA_draw [.ref 0, .int n] m) Q XX :=
  w_draw p ht hn hl fun d m' p' c' h0 h1 => k d m' p' (c.trans c') h0 h1
/-- from a promise, told from where one began -/
theorem wp_from {α : Type} {r : Res α} {t : Nat} {m0 m : Mem} {P : α → Prop} {Q : α → Mem → Prop} {XX : XQ} (h : wp r (fun v m' => PM t m' ∧ Ch m m' ∧ P v) noX) (c : Ch m0 m) (k : ∀ v m', PM t m' → Ch m0 m' → P v → Q v m') : wp r Q XX :=
  wp_imp h fun v m' ⟨p, c', hv⟩ => k v m' p (c.trans c') hv
theorem pm_new {c : List Int} (h : c.length ≤ 63) : PM 0 (mem0.add (penA c 0 0)) :=
  ⟨⟨c, 0, 0, rfl, h, by decide, by decide, by decide⟩, fun j hj => by
    have hj : 1 ≤ j := hj
    show (if j = 0 then _ else none) = none
    rw [if_neg (by omega)]⟩
theorem cut_len {α : Type} (xs : List α) (n : Nat) : (Ev.cutD xs none (some (n : Int))).length ≤ n := by
  unfold Ev.cutD
  rw [HT.sIx_nat, HT.sIx_none, List.length_take]
  omega
theorem chars_mem {z : Str} {d : D} (h : d ∈ chars z) : ∃ c ∈ z.cps.toList, d = .str ⟨#[c]⟩ := by
  unfold chars at h
  obtain ⟨c, hc, e⟩ := List.mem_map.mp h
  exact ⟨c, hc, e.symm⟩
theorem q_ixSt {z : Str} {i : Int} {m : Mem} {Q : D → Mem → Prop} {XX : XQ} (hz : z.length ≤ sizeLine) (h0 : 0 ≤ i) (h1 : i < z.length) (k : ∀ c, c ∈ z.cps.toList → Q (.str ⟨#[c]⟩) m) : wp (Res.of (opIx (.str z) (.int i) m) m) Q XX := by
  obtain ⟨j, rfl⟩ := Int.eq_ofNat_of_zero_le h0
  have hj : j < z.cps.toList.length := by
    rw [Array.length_toList]
    have : z.length = z.cps.size := rfl
    omega
  refine wp_of (a := .str ⟨#[z.cps.toList[j]]⟩) ?_ (k _ (List.getElem_mem hj))
  show (if z.length ≤ sizeLine then (atI z.cps.toList (j : Int)).map _ else none) = _
  rw [if_pos hz, atI_nat (List.getElem?_eq_getElem hj)]
  rfl
end Ev

set_option Elab.async false
set_option linter.all false
set_option maxRecDepth 100000
set_option autoImplicit false
/-! Ev15: backwards through methods, enumerate and more built-ins. -/
namespace Ev
open PySem PySem.Spec PyProof.Rows L2
section
variable {Q : D → Mem → Prop} {QA : List D → Mem → Prop} {XX : XQ} {s : Slots} {m : Mem} {a b c : ME} {ar : MA} {x y : D} {i j : Int}
theorem v_mm {t : Mem → D → Bool} {f : OM} (h : wp (a s m) (fun x m1 => t m1 x = true ∧ wp (ar s m1) (fun ys m2 => wp (Res.of (f x ys m2) m2) Q XX) XX) XX) : wp (mM t f a ar s m) Q XX :=
  wp_bind (wp_mono h (fun _ _ z => by rw [if_pos z.1]; exact wp_bind z.2) fun _ _ _ z => z)
theorem v_mm0 {t : Mem → D → Bool} {f : OM} (h : wp (a s m) (fun x m1 => t m1 x = true ∧ wp (Res.of (f x [] m1) m1) Q XX) XX) : wp (mM0 t f a s m) Q XX :=
  wp_bind (wp_mono h (fun _ _ z => by rw [if_pos z.1]; exact z.2) fun _ _ _ z => z)
theorem one_arg {QA : List D → Mem → Prop} (h : wp (b s m) (fun y m2 => QA [y] m2) XX) : wp (mCons b mNil s m) QA XX := a_cons (wp_mono h (fun _ _ z => a_nil z) fun _ _ _ z => z)
theorem v_m_count1 (h : wp (a s m) (fun x m1 => hasL m1 x = true ∧ wp (b s m1) (fun y m2 => wp (Res.of (opCount x [y] m2) m2) Q XX) XX) XX) : wp (mM_count1 a b s m) Q XX :=
  v_mm (wp_mono h (fun _ _ z => ⟨z.1, one_arg z.2⟩) fun _ _ _ z => z)
theorem v_m_split1 (h : wp (a s m) (fun x m1 => hasS m1 x = true ∧ wp (b s m1) (fun y m2 => wp (Res.of (opSplit x [y] m2) m2) Q XX) XX) XX) : wp (mM_split1 a b s m) Q XX :=
  v_mm (wp_mono h (fun _ _ z => ⟨z.1, one_arg z.2⟩) fun _ _ _ z => z)
theorem v_m_join1 (h : wp (a s m) (fun x m1 => hasS m1 x = true ∧ wp (b s m1) (fun y m2 => wp (Res.of (opJoin x [y] m2) m2) Q XX) XX) XX) : wp (mM_join1 a b s m) Q XX :=
  v_mm (wp_mono h (fun _ _ z => ⟨z.1, one_arg z.2⟩) fun _ _ _ z => z)
theorem v_m_upper0 (h : wp (a s m) (fun x m1 => hasS m1 x = true ∧ wp (Res.of (opUpper x [] m1) m1) Q XX) XX) : wp (mM_upper0 a s m) Q XX := v_mm0 h
theorem ok_hasS {z : Str} {P : Prop} (h : P) : hasS m (.str z) = true ∧ P := ⟨rfl, h⟩
theorem ok_hasL {ds : List D} {P : Prop} (h : P) : hasL m (.lst ds) = true ∧ P := ⟨rfl, h⟩
theorem i_enum (h : wp (a s m) (fun d m1 => wp (Res.of (enumOf d m1) m1) QA XX) XX) : wp (mEnum a s m) QA XX := wp_bind h
theorem q_enT {ds : List D} (h : QA (numb 0 ds) m) : wp (Res.of (enumOf (.tup ds) m) m) QA XX := h
theorem q_enL {ds : List D} (h : QA (numb 0 ds) m) : wp (Res.of (enumOf (.lst ds) m) m) QA XX := h
theorem q_count {ds : List D} (h1 : plDs ds = true) (h2 : plD y = true) (h3 : dpDs ds ≤ 64) (h4 : dpD y ≤ 64) (h : Q (.int ((ds.countP fun z => deq z y : Nat) : Int)) m) : wp (Res.of (opCount (.lst ds) [y] m) m) Q XX := by
  refine wp_of (a := .int ((ds.countP fun z => deq z y : Nat) : Int)) ?_ h
  show (if _ then _ else none) = _
  rw [if_pos ⟨h1, h2, h3, h4⟩]
theorem q_all {bs : List Bool} (h : Q (.bl (bs.all id)) m) : wp (Res.of (opAll [.lst (bs.map D.bl)] m) m) Q XX := by
  refine wp_of (a := .bl (bs.all id)) ?_ h
  show ((some (bs.map D.bl)).bind blsOf).map _ = _
  rw [Option.bind_some, bls_of]; rfl
theorem q_any {bs : List Bool} (h : Q (.bl (bs.any id)) m) : wp (Res.of (opAny [.lst (bs.map D.bl)] m) m) Q XX := by
  refine wp_of (a := .bl (bs.any id)) ?_ h
  show ((some (bs.map D.bl)).bind blsOf).map _ = _
  rw [Option.bind_some, bls_of]; rfl
theorem q_sum {bs : List Int} (h : Q (.int bs.sum) m) : wp (Res.of (opSum [.lst (bs.map D.int)] m) m) Q XX := by
  refine wp_of (a := .int bs.sum) ?_ h
  show ((some (bs.map D.int)).bind intsOf).map _ = _
  rw [Option.bind_some, intsOf_of]; rfl
theorem q_split {z t : Str} (h1 : (t.length == 0) = false) (h2 : z.length + 2 ≤ sizeLine) (h : Q (.lst ((Txt.split z t).map D.str)) m) : wp (Res.of (opSplit (.str z) [.str t] m) m) Q XX := wp_of (if_pos ⟨h1, h2⟩) h
theorem q_joinL {z : Str} {ts : List Str} (hl : (ts.map (·.length)).sum + ts.length * z.length ≤ 16777216) (h : Q (.str (Txt.join z ts)) m) : wp (Res.of (opJoin (.str z) [.lst (ts.map D.str)] m) m) Q XX := by
  refine wp_of (a := .str (Txt.join z ts)) ?_ h
  show (strsOf (ts.map D.str)).bind _ = _
  rw [strsOf_of, Option.bind_some, if_pos hl]
theorem v_newAdd (h : wp (a s m) (fun x m1 => wp (b s m1) (fun y m2 => ∃ ds es, lstOf x m2 = some ds ∧ lstOf y m2 = some es ∧ ds.length + es.length ≤ sizeLine ∧ Q (.ref m2.nx) (m2.add (.lst (ds ++ es)))) XX) XX) : wp (mNewAdd a b s m) Q XX :=
  wp_bind (wp_mono h (fun x m1 z => wp_bind (wp_mono z (fun y m2 z => by
    obtain ⟨ds, es, e1, e2, l, z⟩ := z
    rw [e1, e2]
    dsimp only
    rw [if_pos l]
    exact z) fun _ _ _ z => z)) fun _ _ _ z => z)
theorem v_newList (h : wp (a s m) (fun x m1 => ∃ ds, seqOf x m1 = some ds ∧ Q (.ref m1.nx) (m1.add (.lst ds))) XX) : wp (mNewList a s m) Q XX :=
  wp_bind (wp_mono h (fun x m1 z => by
    obtain ⟨ds, e1, z⟩ := z
    rw [e1]
    exact z) fun _ _ _ z => z)
def lputP (x y v : D) (m : Mem) (P : Mem → Prop) : Prop := ∃ j ds i n, x = .ref j ∧ y = .int i ∧ m.ob j = some (.lst ds) ∧ ixN ds.length i = some n ∧ P (m.put j (.lst (ds.set n v)))
theorem w_lput {N : Slots → Mem → Prop} {R : D → Mem → Prop} {B C : Slots → Mem → Prop} {X : XS} (h : wp (c s m) (fun v m1 => wp (a s m1) (fun x m2 => wp (b s m2) (fun y m3 => lputP x y v m3 fun m4 => N s m4) (fun K fs m1 => X K fs s m1)) (fun K fs m1 => X K fs s m1)) (fun K fs m1 => X K fs s m1)) : ws (mLPut a b c s m) N R B C X := by
  unfold mLPut
  refine w_then (wp_mono h (fun v m1 h => w_then (wp_mono h (fun x m2 h => w_then (wp_mono h (fun y m3 h => ?_) fun _ _ _ z => z)) fun _ _ _ z => z)) fun _ _ _ z => z)
  obtain ⟨j, ds, i, n, rfl, rfl, e1, e2, h⟩ := h
  dsimp only
  rw [e1]; dsimp only; rw [e2]; exact h
end
/-! memories -/
theorem PM.addO {t : Nat} {m : Mem} (h : PM t m) (o : Ob) : PM t (m.add o) := by
  have hn := h.nx
  obtain ⟨⟨c, a, l, e, h1⟩, w⟩ := h
  refine ⟨⟨c, a, l, ?_, h1⟩, fun j hj => ?_⟩
  · show (if 0 = m.nx then _ else m.ob 0) = _
    rw [if_neg (by omega)]; exact e
  · have hj : m.nx + 1 ≤ j := hj
    show (if j = m.nx then _ else m.ob j) = _
    rw [if_neg (by omega)]; exact w j (by omega)
theorem PM.putO {t : Nat} {m : Mem} (h : PM t m) {i : Nat} (hi : i ≠ 0) (hl : i < m.nx) (o : Ob) : PM t (m.put i o) := by
  obtain ⟨⟨c, a, l, e, h1⟩, w⟩ := h
  refine ⟨⟨c, a, l, ?_, h1⟩, fun j hj => ?_⟩
  · show (if 0 = i then _ else m.ob 0) = _
    rw [if_neg (by omega)]; exact e
  · have hj : m.nx ≤ j := hj
    show (if j = i then _ else m.ob j) = _
    rw [if_neg (by omega)]; exact w j hj
theorem PM.killO {t : Nat} {m : Mem} (h : PM t m) {i : Nat} (hi : i ≠ 0) : PM t (m.kill i) := by
  obtain ⟨⟨c, a, l, e, h1⟩, w⟩ := h
  refine ⟨⟨c, a, l, ?_, h1⟩, fun j hj => ?_⟩
  · show (if 0 = i then _ else m.ob 0) = _
    rw [if_neg (by omega)]; exact e
  · have hj : m.nx ≤ j := hj
    show (if j = i then _ else m.ob j) = _
    split
    · rfl
    · exact w j hj
theorem Ch.addO {m0 m : Mem} (h : Ch m0 m) (o : Ob) : Ch m0 (m.add o) :=
  ⟨Nat.le_succ_of_le h.nx, fun j hj hl => by
    have := h.nx
    show (if j = m.nx then _ else m.ob j) = _
    rw [if_neg (by omega)]; exact h.ob j hj hl⟩
theorem Ch.putO {m0 m : Mem} (h : Ch m0 m) {i : Nat} (hi : m0.nx ≤ i) (o : Ob) : Ch m0 (m.put i o) :=
  ⟨h.nx, fun j hj hl => by
    show (if j = i then _ else m.ob j) = _
    rw [if_neg (by omega)]; exact h.ob j hj hl⟩
theorem Ch.killO {m0 m : Mem} (h : Ch m0 m) {i : Nat} (hi : m0.nx ≤ i) : Ch m0 (m.kill i) :=
  ⟨h.nx, fun j hj hl => by
    show (if j = i then _ else m.ob j) = _
    rw [if_neg (by omega)]; exact h.ob j hj hl⟩
theorem add_ob (m : Mem) (o : Ob) : (m.add o).ob m.nx = some o := if_pos rfl
theorem ob_lt {t : Nat} {m : Mem} (h : PM t m) {j : Nat} {o : Ob} (e : m.ob j = some o) : j < m.nx := by
  rcases Nat.lt_or_ge j m.nx with z | z
  · exact z
  · rw [h.wf j z] at e; cases e
section
variable {Q : D → Mem → Prop} {XX : XQ} {m : Mem} {x y : D} {j : Nat} {ds : List D}
theorem q_lenR (e : m.ob j = some (.lst ds)) (h : Q (.int ds.length) m) : wp (Res.of (opLen [.ref j] m) m) Q XX := by
  refine wp_of (a := .int ds.length) ?_ h
  unfold opLen
  dsimp only
  rw [view_ref, e]; rfl
theorem q_tupR (e : m.ob j = some (.lst ds)) (h : Q (.tup ds) m) : wp (Res.of (opTuple [.ref j] m) m) Q XX := by
  refine wp_of (a := .tup ds) ?_ h
  unfold opTuple
  dsimp only
  rw [view_ref, e]; rfl
theorem q_inR (e : m.ob j = some (.lst ds)) (hx : Pl x) (hy : Pl (.lst ds)) (h : Q (.bl (din x ds)) m) : wp (Res.of (opIn x (.ref j) m) m) Q XX := by
  refine wp_of (a := .bl (din x ds)) ?_ h
  have e2 := pyIn_lst (m := m) hx hy
  unfold opIn
  have e3 : pyIn x (.ref j) m = pyIn x (.lst ds) m := by
    unfold pyIn
    rw [view_ref, e]; rfl
  rw [e3, e2]; rfl
theorem q_inL (hx : Pl x) (hy : Pl (.lst ds)) (h : Q (.bl (din x ds)) m) : wp (Res.of (opIn x (.lst ds) m) m) Q XX := by
  refine wp_of (a := .bl (din x ds)) ?_ h
  unfold opIn
  rw [pyIn_lst hx hy]; rfl
theorem isL_ref (e : m.ob j = some (.lst ds)) : isL m (.ref j) = true := by
  unfold isL
  dsimp only
  rw [e]
end
theorem upto_cons (lo : Int) (n : Nat) : upto lo (n + 1) = .int lo :: upto (lo + 1) n := by
  unfold upto
  rw [List.range_succ_eq_map, List.map_cons, List.map_map]
  congr 1
  · simp
  · apply List.map_congr_left
    intro i _
    simp only [Function.comp]
    congr 1
    omega
theorem upto_inv {lo : Int} {n : Nat} {d : D} {ds : List D} (h : d :: ds = upto lo n) : ∃ k, n = k + 1 ∧ d = .int lo ∧ ds = upto (lo + 1) k := by
  cases n with
  | zero => unfold upto at h; simp at h
  | succ k =>
    rw [upto_cons] at h
    obtain ⟨h1, h2⟩ := List.cons.inj h
    exact ⟨k, rfl, h1, h2⟩
theorem upto_nil {lo : Int} {n : Nat} (h : [] = upto lo n) : n = 0 := by
  cases n with
  | zero => rfl
  | succ k => rw [upto_cons] at h; cases h
section
variable {Q : D → Mem → Prop} {XX : XQ} {m : Mem} {x y : D} {j : Nat} {ds es : List D}
theorem q_ltT {ns ms : List Int} (h : Q (.bl (HT.lexLt ns ms)) m) : wp (Res.of (opLtT (.tup (ns.map D.int)) (.tup (ms.map D.int)) m) m) Q XX := by
  refine wp_of (a := .bl (HT.lexLt ns ms)) ?_ h
  show (match intsOf (ns.map D.int), intsOf (ms.map D.int) with | some ns, some ms => some (D.bl (HT.lexLt ns ms)) | _, _ => none) = _
  rw [intsOf_of, intsOf_of]
theorem v_ext (e : m.ob j = some (.lst ds)) (hv : view m y = .lst es) (hl : ds.length + es.length ≤ sizeLine) (h : Q .non (m.put j (.lst (ds ++ es)))) : wp (extD (.ref j) y m) Q XX := by
  unfold extD
  dsimp only
  rw [e]
  dsimp only
  rw [hv]
  dsimp only
  rw [if_pos hl]; exact h
theorem q_reprR (e : m.ob j = some (.lst ds)) (hs : Sh (.lst ds)) (h : Q (.str (shD (.lst ds))) m) : wp (Res.of (opRepr [.ref j] m) m) Q XX := by
  refine wp_of (a := .str (shD (.lst ds))) ?_ h
  have z := opRepr_sh (m := m) hs
  unfold opRepr at z ⊢
  dsimp only at z ⊢
  rw [view_ref, e]
  exact z
theorem q_ixR {i : Int} (e : m.ob j = some (.lst ds)) (h : oP (atI ds i) Q m) : wp (Res.of (opIx (.ref j) (.int i) m) m) Q XX := by
  obtain ⟨z, h1, h⟩ := h
  refine wp_of (a := z) ?_ h
  unfold opIx
  rw [view_ref, e]
  exact h1
theorem view_lstR (e : m.ob j = some (.lst ds)) : view m (.ref j) = .lst ds := by rw [view_ref, e]; rfl
end
end Ev

set_option Elab.async false
set_option linter.all false
set_option maxRecDepth 100000
set_option autoImplicit false
/-! Ev17: range with a step. -/
namespace Ev
open PySem PySem.Spec PyProof.Rows L2
def stp (lo c : Int) (n : Nat) : List D := (List.range n).map fun (i : Nat) => .int (lo + (i : Nat) * c)
/-- the bounds are small, and so many are walked -/
@[irreducible] def rgOk (i j c : Int) (n : Nat) : Bool := decide (c ≠ 0) && decide (c.natAbs < 1073741824) && Builtin.Range.small i j c && decide (Builtin.Range.rangeSize i j c = (n : Int))
theorem rgOk_of {i j c : Int} {n : Nat} (h : rgOk i j c n = true) : RgC i j c n := by
  unfold rgOk at h
  simp only [Bool.and_eq_true, decide_eq_true_eq] at h
  exact ⟨h.1.1.1, h.1.1.2, h.1.2, h.2⟩
theorem it_stp {T : Ct} {io : Nat → Addr} {F : Addr → Prop} {m : Mem} {H : Hp} {lo c : Int} {n : Nat} : ItOk T io F m H (stp lo c n) (Itc lo c n) := by
  have hl : (stp lo c n).length = n := by unfold stp; rw [List.length_map, List.length_range]
  refine ⟨fun i io' F' m' H' E S' hi => by rw [hl] at hi; exact hi, fun i io' F' m' H' E S' hi => by rw [hl] at hi; exact Nat.le_of_eq hi.symm, fun i io' F' m' H' x H'' d E S' e y => ?_⟩
  obtain ⟨rfl, rfl⟩ := y
  refine ⟨io', F', Ext.refl S', S', ?_⟩
  have hi : i < n := by
    rw [← hl]
    exact (List.getElem?_eq_some_iff.mp e).1
  unfold stp at e
  rw [List.getElem?_map, List.getElem?_range hi] at e
  cases e
  simp only [RelD]
def rng3 (ds : List D) : Option (List D) := match ds with
  | [.int i, .int j, .int c] => if rgOk i j c (Builtin.Range.rangeSize i j c).toNat = true then some (stp i c (Builtin.Range.rangeSize i j c).toNat) else none
  | _ => none
section
variable {X : Cx} {k : Nat} {W : WT} {a b c e : Expr} {cA : MA} {p pos : Pos} {tg : Expr}
theorem three_rel {K : PySem.W.Frag} {io : Nat → Addr} {F : Addr → Prop} {n : Nat} {H : Hp} {d e f : D} {xs : List V} (r : RelDs K io F n H [d, e, f] xs) : ∃ v u w, xs = [v, u, w] ∧ RelD K io F n H d v ∧ RelD K io F n H e u ∧ RelD K io F n H f w := by
  cases xs with
  | nil => simp only [RelDs] at r
  | cons v vs =>
    simp only [RelDs] at r
    obtain ⟨u, w, rfl, h1, h2⟩ := two_rel (d := e) (e := f) (xs := vs) r.2
    exact ⟨v, u, w, rfl, r.1, h1, h2⟩
theorem d_range3 (hg : Gl X "range") (hm : X.mg "range" = none) (ha : PA X [a, b, c] (tA (ctOf X) W cA)) (hs : starEach [a, b, c] X.env = (false, eval a X.env) :: starEach [b, c] X.env := by rfl) (hpl : (backTo pos (starEach [b, c] X.env)).any (·.1) = false := by rfl) :
    DIt X W tg (.Call (.Name "range" p) [a, b, c] [] pos) (mRange rng3 cA) := by
  refine ⟨_, pi_range3 hg hm ha hs hpl, fun σ H R io F m sd S rs h => ?_⟩
  unfold mRange at h
  refine ⟨io, F, m, sd, S, rs, ?_⟩
  cases q : cA sd m with
  | bad => rw [q] at h; exact h.elim
  | exc C fs m1 => rw [q] at h; exact h
  | ok ds m1 =>
    rw [q] at h
    simp only [Res.bind_ok] at h
    intro io' F' H' v E S' r
    cases e : rng3 ds with
    | none => rw [e] at h; exact h.elim
    | some ys =>
      rw [e] at h
      unfold rng3 at e
      split at e
      · rename_i i j c
        split at e
        · rename_i hj
          cases e
          obtain ⟨w, u, z, rfl, rw_, ru, rz⟩ := three_rel r
          simp only [RelD] at rw_ ru rz
          subst rw_ ru rz
          exact ⟨i, j, c, _, rfl, rgOk_of hj, h io' F' H' _ E S' it_stp⟩
        · cases e
      · cases e
end
theorem stp_cons (lo c : Int) (n : Nat) : stp lo c (n + 1) = .int lo :: stp (lo + c) c n := by
  unfold stp
  rw [List.range_succ_eq_map, List.map_cons, List.map_map]
  congr 1
  · simp
  · apply List.map_congr_left
    intro i _
    simp only [Function.comp]
    congr 1
    push_cast
    rw [Int.add_mul, Int.one_mul]
    omega
/-- range(0, n, 2) of an even n -/
theorem i_rng3 {h : Nat} {m : Mem} {QA : List D → Mem → Prop} {XX : XQ} (hn : h < 2 ^ 40) (hq : QA (stp 0 2 h) m) : wp (Res.of (rng3 [.int 0, .int ((2 * h : Nat) : Int), .int 2]) m) QA XX := by
  have size : Builtin.Range.rangeSize 0 ((2 * h : Nat) : Int) 2 = (h : Int) := by
    unfold Builtin.Range.rangeSize
    rw [if_pos (by decide)]
    split
    · omega
    · omega
  have ok : rgOk 0 ((2 * h : Nat) : Int) 2 h = true := by
    unfold rgOk
    rw [Bool.and_eq_true, Bool.and_eq_true, Bool.and_eq_true]
    refine ⟨⟨⟨by decide, by decide⟩, ?_⟩, decide_eq_true size⟩
    have fits : ∀ k : Int, -(2 ^ 63) ≤ k → k < 2 ^ 63 → Builtin.Range.rangeFitsLong k = true := fun k h1 h2 => by
      unfold Builtin.Range.rangeFitsLong
      rw [Bool.and_eq_true]
      exact ⟨decide_eq_true h1, decide_eq_true h2⟩
    unfold Builtin.Range.small
    rw [size, fits 0 (by decide) (by decide), fits _ (by omega) (by omega), fits 2 (by decide) (by decide), fits _ (by omega) (by omega)]
    rw [Bool.true_and, Bool.true_and, Bool.true_and, Bool.true_and, Bool.or_eq_true, if_pos (by decide)]
    exact .inr (fits _ (by omega) (by omega))
  refine wp_of (a := stp 0 2 h) ?_ hq
  show (if rgOk 0 ((2 * h : Nat) : Int) 2 (Builtin.Range.rangeSize 0 ((2 * h : Nat) : Int) 2).toNat = true then some (stp 0 2 (Builtin.Range.rangeSize 0 ((2 * h : Nat) : Int) 2).toNat) else none) = _
  rw [size]
  rw [if_pos (show rgOk 0 ((2 * h : Nat) : Int) 2 ((h : Int)).toNat = true by rw [Int.toNat_natCast]; exact ok), Int.toNat_natCast]
end Ev

set_option Elab.async false
set_option linter.all false
set_option maxRecDepth 100000
set_option autoImplicit false
/-! Ev18: a row turned about. -/
namespace Ev
open PySem PySem.Spec PyProof.Rows L2
theorem fm_same {α β : Type} {f g : α → Option β} : ∀ {l : List α}, (∀ a ∈ l, f a = g a) → l.filterMap f = l.filterMap g
  | [], _ => rfl
  | a :: l, h => by
    rw [List.filterMap_cons, List.filterMap_cons, h a (List.mem_cons_self ..), fm_same fun b hb => h b (List.mem_cons_of_mem _ hb)]
theorem pickTurn (xs : Array Value) : ((List.range xs.size).filterMap fun (m : Nat) => xs[(((xs.size : Int) - 1) + (m : Int) * -1).toNat]?).toArray = xs.toList.reverse.toArray := by
  have turned := PySem.W.krv_pick xs
  unfold slicePick at turned
  rw [PySem.W.krv_bounds] at turned
  refine Eq.trans ?_ turned
  show _ = ((sliceRange ((xs.size : Int) - 1) (-1) (-1)).filterMap (xs[·]?)).toArray
  rw [PySem.W.krv_sliceRange, List.filterMap_map]
  congr 1
  refine fm_same fun m hm => ?_
  have below := List.mem_range.mp hm
  show _ = xs[xs.size - 1 - m]?
  rw [show (((xs.size : Int) - 1) + (m : Int) * -1).toNat = xs.size - 1 - m by omega]
section
variable {prog : Program} {w : World} {A : Around} {E : Value → Shared → Prop} {s : Shared}
theorem applied_turn {sl : Addr} {vs : Value} {n : Nat} {Q : Int × Int × Nat → Shared → Prop} (hs : s.heap.IsSliceOf sl .none .none vs) (ps : IsPart vs (some (-1)))
    (h : Q ((n : Int) - 1, -1, n) s) : wpAny (model prog w) A (Builtin.Slice.sliceApplied (.ref sl) (pure (n : Int))) Q E s := by
  obtain ⟨os, hos, hcs, hds⟩ := id hs
  unfold Builtin.Slice.sliceApplied Builtin.Slice.sliceFields
  refine wpAny_bind (wpAny_bind (wpAny_field hos hds (x := .none) rfl (wpAny_bind (wpAny_field hos hds (x := .none) rfl (wpAny_bind (wpAny_field hos hds (x := vs) rfl (wpAny_pure ?_)))))))
  refine wpAny_bind (HT.slicePart_ ps ?_)
  show wpAny _ _ (if ((-1 : Int) == 0) = true then _ else _) _ _ s
  rw [if_neg (by decide)]
  refine wpAny_bind (HT.slicePart_ .none (wpAny_bind (HT.slicePart_ .none (wpAny_bind (wpAny_pure ?_)))))
  show wpAny _ _ (pure ((n : Int) - 1, (-1 : Int), Builtin.Slice.slicePlaces ((n : Int) - 1) (-1) (-1))) _ _ s
  rw [show Builtin.Slice.slicePlaces ((n : Int) - 1) (-1) (-1) = n by
    unfold Builtin.Slice.slicePlaces
    rw [if_neg (by decide)]
    split
    · rw [show (- -1 : Int) = 1 by decide, Int.ediv_one]; omega
    · omega]
  exact wpAny_pure h
theorem item_turn {t sl : Addr} {items : Array Value} {vs : Value} {Q : Value → Shared → Prop} (ht : IsTup s.heap t items) (hs : s.heap.IsSliceOf sl .none .none vs) (ps : IsPart vs (some (-1)))
    (h : Q (.ref s.heap.objs.size) { s with heap := s.heap.push { cls := .type "tuple", data := .seq items.toList.reverse.toArray } })
    (hsz : items.size ≤ sizeLine) : wpAny (model prog w) A (getItem (.ref t) (.ref sl)) Q E s := by
  have fits : sizeOk (.seq items.toList.reverse.toArray) := by
    show items.toList.reverse.toArray.size ≤ sizeLine
    rw [List.size_toArray, List.length_reverse, Array.length_toList]; exact hsz
  obtain ⟨os, hos, hcs, hds⟩ := id hs
  have typed : s.TypeIs (.ref sl) "slice" := ⟨os, hos, hcs⟩
  unfold getItem
  try with_reducible refine wpAny_holding ?_
  first | refine wpAny_bind (wpAny_pure ?_) | skip
  refine wpAny_bind (wpAny_sequenceKey ht.typeIs (by decide) ?_)
  refine wpAny_bind (wpAny_callSpecial?_slot (name := Str.ofString "__getitem__") ht.typeIs slot_tuple_getitem (wpAny_call_entry slot_tuple_getitem ht.typeIs entry_tuple_getitem ?_ (args_tuple_getitem _ _)))
  show wpAny _ _ (Builtin.Tuple.tupleItemsOf (.ref t) >>= _) _ _ s
  refine wpAny_bind (tupleItemsOf_ ht ?_)
  refine wpAny_bind (wpAny_typeOf typed ?_)
  rw [if_pos (by decide)]
  refine wpAny_bind (applied_turn hs ps ?_)
  have other : ¬ ((((items.size : Int) - 1) == 0 && (-1 : Int) == 1 && items.size == items.size) = true) := by
    intro q
    rw [Bool.and_eq_true, Bool.and_eq_true] at q
    exact absurd q.1.2 (by decide)
  show wpAny _ _ (if (((items.size : Int) - 1) == 0 && (-1 : Int) == 1 && items.size == items.size) = true then _ else _) _ _ s
  rw [if_neg other, pickTurn]
  first
    | exact wpAny_bind (m := Builtin.Tuple.tupleExact _) (wpAny_newObj_type (wpAny_pure ⟨_, rfl, wpAny_pure h⟩) fits)
    | exact wpAny_bind (m := Builtin.Tuple.tupleExact _) (wpAny_newObj_type (wpAny_bind (wpAny_pure (wpAny_pure ⟨_, rfl, wpAny_pure h⟩))) fits)
    | exact wpAny_bind (wpAny_bind (m := Builtin.Tuple.tupleExact _) (wpAny_newObj_type (wpAny_pure (wpAny_pure ⟨_, rfl, wpAny_pure h⟩)) fits))
    | exact wpAny_bind (wpAny_bind (m := Builtin.Tuple.tupleExact _) (wpAny_newObj_type (wpAny_pure ⟨_, rfl, wpAny_pure h⟩) fits))
end
def opRevSl : O1 := fun x m => match view m x with
  | .tup ds => some (.tup ds.reverse)
  | .lst ds => some (.lst ds.reverse)
  | _ => none
theorem rev_rel {K : PySem.W.Frag} {io : Nat → Addr} {F : Addr → Prop} {n : Nat} {H : Hp} : ∀ {ds : List D} {vs : List V}, RelDs K io F n H ds vs → RelDs K io F n H ds.reverse vs.reverse
  | [], [], _ => by simp only [List.reverse_nil, RelDs]
  | [], _ :: _, r => by simp only [RelDs] at r
  | _ :: _, [], r => by simp only [RelDs] at r
  | d :: ds, v :: vs, r => by
    simp only [RelDs] at r
    rw [List.reverse_cons, List.reverse_cons]
    exact RelDs.app (rev_rel r.2) (by simp only [RelDs]; exact ⟨r.1, trivial⟩)
section
variable {X : Cx} {W : WT} {a : Expr} {ca : ME} {pos p1 p2 p3 : Pos} {k : Nat}
theorem d_revsl (ha : PE X a (tE (ctOf X) W ca)) : PE X (.Subscript a (.Slice none none (some (.UnaryOp .USub (.Constant (.int 1) k p1) p2)) p3) pos) (tE (ctOf X) W (mO1 opRevSl ca)) := by
  refine ⟨fun pins s σ H Q I h => ?_⟩
  refine Subscript_ (thn (ha.run pins s σ H _ I (tO1_of h)) fun v s1 ⟨x, H1, I1, r1, q1⟩ => ?_)
  obtain ⟨io, F, m, d, S, r, z, hz, kk⟩ := q1
  have turn : PO X (some (.UnaryOp .USub (.Constant (.int 1) k p1) p2)) (tPart (tUn (rU fun i => .int (-i)) (tC (.int 1)))) := po_some (pe_un un_neg pe_int)
  refine wpAny_Slice (thn (po_none.run pins s1 σ H1 (fun o H2 => o = none ∧ H2 = H1) I1 ⟨rfl, rfl⟩) fun vl s2 ⟨l, H2, I2, pl, el, e2⟩ => ?_)
  subst el e2
  refine thn (po_none.run pins s2 σ H2 (fun o H3 => o = none ∧ H3 = H2) I2 ⟨rfl, rfl⟩) fun vu s3 ⟨u, H3, I3, pu, eu, e3⟩ => ?_
  subst eu e3
  refine thn (turn.run pins s3 σ H3 (fun o H4 => o = some (-1) ∧ H4 = H3) I3 ⟨1, rfl, -1, rfl, rfl, rfl⟩) fun vs s4 ⟨o, H4, I4, ps, eo, e4⟩ => ?_
  subst eo e4
  cases pl
  cases pu
  have I5 : Inv X pins σ H4 { s4 with heap := s4.heap.push { cls := .type "slice", data := .fields #[.none, .none, vs] } } := I4.kept (t' := s4.toks) fun b ob q => Heap.get?_push_of_some _ q
  unfold opRevSl at hz
  split at hz
  · rename_i t e1
    cases hz
    obtain ⟨a', xs, rfl, tt, q⟩ := is_tup r e1
    cases r1
    obtain ⟨its, rr, ht, hsz⟩ := I5.tuple tt.sq
    refine tail_any (ops := [.ref a', .ref s4.heap.objs.size]) ht.typeIs (slot_tuple_getitem.lookup) ?_ (by with_unfolding_all rfl)
    refine item_turn ht (Heap.IsSliceOf.new _ .none .none vs) ps ?_ (by rw [List.size_toArray, ← rr.length]; exact hsz)
    refine ⟨.ref _, _, I5.laid (t' := s4.toks) (o := .tup xs.reverse) (fun b ob q => Heap.get?_push_of_some _ q) (Nat.le_refl _) ?_, rfl, kk.newT S (I5.hok.fresh (Nat.le_refl _)) (rev_rel q)⟩
    exact ⟨by rw [List.length_reverse]; exact hsz, _, rr.reverse, IsTup.new _ _⟩
  · rename_i t e1
    cases hz
    obtain ⟨a', xs, rfl, tt, q⟩ := at_lst S r e1
    cases r1
    obtain ⟨its, rr, ht, hsz⟩ := I5.list (.inl (.inl tt))
    refine tail_any (ops := [.ref a', .ref s4.heap.objs.size]) ht.isList.typeIs (PySem.slot_list_getitem.lookup) ?_ (by with_unfolding_all rfl)
    refine wpAny_getItem_list_slice ht.isList (Heap.IsSliceOf.new _ .none .none vs) .none .none ps (by decide) ?_ (by rw [List.size_toArray, ← rr.length]; exact hsz)
    rw [PySem.W.krv_pick]
    refine ⟨.ref _, _, I5.laid (t' := s4.toks) (o := .lst xs.reverse) (fun b ob q => Heap.get?_push_of_some _ q) (Nat.le_refl _) ?_, rfl, kk.newL S (I5.hok.fresh (Nat.le_refl _)) (rev_rel q)⟩
    exact ⟨by rw [List.length_reverse]; exact hsz, _, 0, rr.reverse, Heap.get?_push_size _ rfl⟩
  · cases hz
end
/-- what was just told stays as it is from now on -/
def frzV (d : D) (m : Mem) : Res D := match d with
  | .ref j => (match m.ob j with
    | some (.lst ds) => .ok (.lst ds) (m.kill j)
    | some (.dk ks ds) => .ok (.dk ks ds) (m.kill j)
    | some (.dt ks ds) => .ok (.dt ks ds) (m.kill j)
    | _ => .bad)
  | _ => .bad
def mFrzE (a : ME) : ME := fun s m => (a s m).bind frzV
section
variable {X : Cx} {W : WT} {a : Expr} {ca : ME}
theorem d_frzE (ha : PE X a (tE (ctOf X) W ca)) : PE X a (tE (ctOf X) W (mFrzE ca)) := by
  refine pe_imp ha fun σ H Q h => ?_
  refine (tG.bind (R := RD (ctOf X)) (c := ca) (k := fun d s m1 => frzV d m1) h).imp fun x H1 h2 => ?_
  obtain ⟨io, F, m, sd, d, S, rs, r, p⟩ := h2
  cases d with
  | ref j =>
    simp only [RelD] at r
    obtain ⟨hj, rfl⟩ := r
    unfold frzV at p
    simp only at p
    cases q2 : m.ob j with
    | none => rw [q2] at p; exact p.elim
    | some u =>
      rw [q2] at p
      cases u with
      | lst ds =>
        obtain ⟨S', E⟩ := S.frz q2
        obtain ⟨xs, h1, h2⟩ := S.ob j _ q2
        refine p io _ H1 _ E S' ?_
        simp only [RelD]
        exact ⟨io j, xs, rfl, .inr rfl, h1, h2.mono (S.mono E)⟩
      | dk ks ds =>
        obtain ⟨S', E⟩ := S.frz q2
        obtain ⟨kvs, h1, h2, h3⟩ := S.ob j _ q2
        refine p io _ H1 _ E S' ?_
        simp only [RelD]
        exact ⟨io j, kvs, rfl, .inr rfl, .inl h1, h2, h3.mono (S.mono E)⟩
      | dt ks ds =>
        obtain ⟨S', E⟩ := S.frz q2
        obtain ⟨kvs, h1, h2, h3⟩ := S.ob j _ q2
        refine p io _ H1 _ E S' ?_
        simp only [RelD]
        exact ⟨io j, kvs, rfl, .inr rfl, .inl h1, h2, h3.mono (S.mono E)⟩
      | ins _ _ => exact p.elim
      | exn _ _ => exact p.elim
  | _ => exact p.elim
end
section
variable {Q : D → Mem → Prop} {XX : XQ} {m : Mem} {ds : List D} {s : Slots} {a : ME} {j : Nat}
theorem v_frzE (h : wp (a s m) (fun d m1 => wp (frzV d m1) Q XX) XX) : wp (mFrzE a s m) Q XX := wp_bind h
theorem q_frz (e : m.ob j = some (.lst ds)) (h : Q (.lst ds) (m.kill j)) : wp (frzV (.ref j) m) Q XX := by
  unfold frzV
  dsimp only
  rw [e]
  exact h
end
section
variable {Q : D → Mem → Prop} {XX : XQ} {m : Mem} {ds : List D} {s : Slots} {a : ME} {j : Nat}
theorem q_revT (h : Q (.tup ds.reverse) m) : wp (Res.of (opRevSl (.tup ds) m) m) Q XX := wp_of rfl h
theorem q_revL (h : Q (.lst ds.reverse) m) : wp (Res.of (opRevSl (.lst ds) m) m) Q XX := wp_of rfl h
theorem q_revR (e : m.ob j = some (.lst ds)) (h : Q (.lst ds.reverse) m) : wp (Res.of (opRevSl (.ref j) m) m) Q XX := by
  refine wp_of (a := .lst ds.reverse) ?_ h
  unfold opRevSl
  rw [view_ref, e]
  rfl
end
end Ev

set_option Elab.async false
set_option linter.all false
set_option maxRecDepth 100000
set_option autoImplicit false
/-! Ev19: dict(..) of a list of pairs. -/
namespace Ev
open PySem PySem.Spec PyProof.Rows L2
/-- pairs, the later ones win -/
def mergeV {κ : Type} [DecidableEq κ] (kvs more : List (κ × V)) : List (κ × V) := more.foldl (fun acc kv => putK acc kv.1 kv.2) kvs
def mergeG {κ : Type} [DecidableEq κ] (kvs more : List (κ × D)) : List (κ × D) := more.foldl (fun acc kv => putD acc kv.1 kv.2) kvs
theorem mergeV_len {κ : Type} [DecidableEq κ] : ∀ (more kvs : List (κ × V)), (mergeV kvs more).length ≤ kvs.length + more.length
  | [], kvs => Nat.le_refl _
  | p :: more, kvs => by
    have h1 := mergeV_len more (putK kvs p.1 p.2)
    have h2 := length_putK kvs p.1 p.2
    show (mergeV (putK kvs p.1 p.2) more).length ≤ _
    rw [List.length_cons]
    omega
theorem RelE.mergeG {κ : Type} [DecidableEq κ] {K : PySem.W.Frag} {io : Nat → Addr} {F : Addr → Prop} {n : Nat} {H : Hp} : ∀ {ps : List (κ × D)} {qs : List (κ × V)} {ds : List (κ × D)} {vs : List (κ × V)}, RelE K io F n H ps qs → RelE K io F n H ds vs → RelE K io F n H (Ev.mergeG ds ps) (mergeV vs qs)
  | [], [], _, _, _, h => h
  | [], _ :: _, _, _, h, _ => by simp only [RelE] at h
  | _ :: _, [], _, _, h, _ => by simp only [RelE] at h
  | p :: ps, q :: qs, ds, vs, h, k => by
    simp only [RelE] at h
    have e := h.1.1
    obtain ⟨p1, p2⟩ := p
    obtain ⟨q1, q2⟩ := q
    simp only at e
    subst e
    exact RelE.mergeG (ds := putD ds p1 p2) (vs := putK vs p1 q2) h.2 (k.put h.1.2)
theorem KT.merge {H : Hp} : ∀ {more : List (List Key × V)} {rs : List (List Key × Addr × Value)} {kvs : List (List Key × V)} {xs : List (List Key × Addr × Value)}, KT H more rs → KT H kvs xs → KT H (mergeV kvs more) (storedAllH xs rs)
  | _, _, _, _, .nil, h => h
  | _, _, kvs, xs, .cons (a := p) (b := q) h t, k => by
    obtain ⟨p1, p2⟩ := p
    obtain ⟨q1, q2, q3⟩ := q
    obtain ⟨e, h1, h2⟩ := h
    simp only at e h1 h2
    subst e
    exact KT.merge (kvs := putK kvs p1 p2) (xs := storedH xs p1 q2 q3) t (k.put p1 h1 h2)
section
variable {X : Cx}
/-- how a list of pairs with tuples as keys stands -/
theorem pairsT_of {pins : List (Addr × Obj)} {σ : L2.St} {H : Hp} {s : Shared} (I : Inv X pins σ H s) : ∀ {ps : List Addr} {kvs : List (List Key × V)}, Paired (fun p kv => ∃ b, SqT X.K H p [.ref b, kv.2] ∧ H b = some (.tup (kv.1.map kV))) ps kvs →
    ∃ rs : List (List Key × Addr × Value), KT H kvs rs ∧ rs.length = ps.length ∧ ∀ (j : Nat) (q : List Key × Addr × Value), rs[j]? = some q → ∃ p : Addr, ps[j]? = some p ∧ IsTup s.heap p #[.ref q.2.1, q.2.2] ∧ (tupleKind (mixKind X.prog X.w)).is s.heap q.1 q.2.1
  | _, _, .nil => ⟨[], .nil, rfl, fun j q e => by simp at e⟩
  | _, _, .cons (a := p) (b := kv) h t => by
    obtain ⟨rs, r, hl, hp⟩ := pairsT_of I t
    obtain ⟨b, h1, h2⟩ := h
    obtain ⟨its, rv, ht, _⟩ := I.tuple h1
    obtain ⟨u, y, ei, ru, ry⟩ := vals2 rv
    subst ei
    cases ru
    refine ⟨(kv.1, b, y) :: rs, .cons ⟨rfl, h2, ry⟩ r, by rw [List.length_cons, List.length_cons, hl], fun j q e => ?_⟩
    cases j with
    | zero =>
      have e' : (kv.1, b, y) = q := Option.some.inj e
      subst e'
      exact ⟨p, rfl, ht, key_of I.hok h2⟩
    | succ j =>
      obtain ⟨p', e1, e2, e3⟩ := hp j q (by simpa using e)
      exact ⟨p', by simpa using e1, e2, e3⟩
theorem call_dictT (hcalm : X.calm = true) (hu : X.A.units + 65 < cLine) : CallR X (.type "dict") (fun xs H Q => ∃ (a : Addr) (ps : List Addr) (kvs : List (List Key × V)), xs = [.ref a] ∧ SqL X.K H a (ps.map V.ref) ∧ Paired (fun p kv => ∃ b, SqT X.K H p [.ref b, kv.2] ∧ H b = some (.tup (kv.1.map kV))) ps kvs ∧
    ∀ p, H p = none → Q (.ref p) (upd H p (.dT (mergeV [] kvs)))) := by
  intro pins s σ H xs us Q I r q
  obtain ⟨a, ps, kvs, ex, hq, hp, q⟩ := q
  subst ex
  obtain ⟨u, eu, rx⟩ := vals1 r
  subst eu
  cases rx
  obtain ⟨its, rv, pl, hz⟩ := I.list hq
  have ei := refs_at rv
  subst ei
  rw [List.length_map] at hz
  obtain ⟨rs, rel, hl, hpr⟩ := pairsT_of I hp
  obtain ⟨o, n, ho, hc, hd, hdat⟩ := pl
  have P := PySem.PairArg.list (prog := X.prog) (w := X.w) a (ps.map Value.ref).toArray (fun j => ps.getD j 0) (rs.map fun q => (Value.ref q.2.1, q.2.2))
  refine PySem.call_dict_pairsH (knd := tupleKind (mixKind X.prog X.w)) (ps := rs) P (I.ok.hd hcalm) (show X.A.in1.in1.units < cLine by show X.A.units + 1 + 1 < cLine; omega) ?_ ?_ ?_ ?_ ?_
  · refine ⟨⟨o, n, ho, hc, hd, hdat⟩, by simp [hl], fun j k v e => ?_⟩
    rw [List.getElem?_map] at e
    cases e0 : rs[j]? with
    | none => rw [e0] at e; cases e
    | some q0 =>
      rw [e0] at e
      cases e
      obtain ⟨p, e1, ⟨ob, w1, w2, w3, w4⟩, e3⟩ := hpr j q0 e0
      have eg : ps.getD j 0 = p := by rw [List.getD_eq_getElem?_getD, e1]; rfl
      refine ⟨by simp [e1, eg], .inl ?_⟩
      show Heap.IsTuple s.heap (ps.getD j 0) _
      rw [eg]
      exact ⟨ob, w1, w2, w3, w4⟩
  · refine ⟨by rw [List.length_map], fun i key v e => ?_⟩
    have e : (rs.map fun q => (Value.ref q.2.1, q.2.2))[i]? = some (key, v) := e
    rw [List.getElem?_map] at e
    cases e0 : rs[i]? with
    | none => rw [e0] at e; cases e
    | some q0 => rw [e0] at e; cases e; exact ⟨q0.1, q0.2.1, rfl, rfl⟩
  · intro h' hk x hx
    obtain ⟨j, hj⟩ := List.mem_iff_getElem?.mp hx
    obtain ⟨p, e1, e2, e3⟩ := hpr j x hj
    obtain ⟨ob, its2, n2, w1, w2, w3, w4⟩ := e3
    exact ⟨ob, its2, n2, hk _ _ (Nat.ne_of_lt (Heap.lt_size w1)) (by simp) w1, w2, w3, w4⟩
  · rw [List.length_map, hl]; exact hz
  · intro h' tk hd' k
    have hm : (s.heap.objs.size == sysModules) = false := beq_eq_false_iff_ne.mpr (Nat.ne_of_gt I.big)
    have hlen : (mergeV [] kvs).length ≤ sizeLine := by
      refine Nat.le_trans (mergeV_len kvs []) ?_
      rw [List.length_nil, Nat.zero_add, Paired.length rel, hl]
      exact hz
    obtain ⟨ob, es, ep, w1, w2, w3, w4, _, w5⟩ := hd'
    refine ⟨.ref s.heap.objs.size, upd H s.heap.objs.size (.dT (mergeV [] kvs)), I.laid (t' := tk) (fun b o e => k b o (by simp) e) (Nat.le_refl _) ⟨hlen, hm, _, (KT.merge rel .nil).keeps fun c ys ec => ?_, ob, es, ep, w1, w2, w3, w4, w5⟩, rfl, q _ (I.hok.fresh (Nat.le_refl _))⟩
    rw [upd_ne (ne_of_none ec (I.hok.fresh (Nat.le_refl _)))]
    exact ec
end
end Ev
namespace Ev
open PySem PySem.Spec PyProof.Rows L2
/-- pairs with tuples of whole numbers ahead; with numbers or texts ahead -/
def pairsT : List D → Option (List (List Key × D))
  | [] => some []
  | .tup [.tup es, v] :: ds => (match ikeysOf es, pairsT ds with
    | some k, some r => some ((k, v) :: r)
    | _, _ => none)
  | _ => none
def pairsK : List D → Option (List (Key × D))
  | [] => some []
  | .tup [k, v] :: ds => (match keyOf k, pairsK ds with
    | some k, some r => some ((k, v) :: r)
    | _, _ => none)
  | _ => none
def opDict : OL := fun l m => match l with
  | [x] => (match view m x with
    | .lst ds => (match pairsT ds with
      | some ps => some (.dt ((mergeG [] ps).map (·.1)) ((mergeG [] ps).map (·.2)))
      | none => (match pairsK ds with
        | some ps => some (.dk ((mergeG [] ps).map (·.1)) ((mergeG [] ps).map (·.2)))
        | none => none))
    | _ => none)
  | _ => none
section
variable {K : PySem.W.Frag} {io : Nat → Addr} {F : Addr → Prop} {n : Nat} {H : Hp}
theorem ikey_at {es : List D} {k : List Key} {b : Addr} {xs : List V} (e : ikeysOf es = some k) (t : TupF K F H b xs) (q : RelDs K io F n H es xs) : H b = some (.tup (k.map kV)) := by
  have ey := keysOf_rel q (ikeys_keys e)
  subst ey
  rcases t with ⟨_, t⟩ | ⟨t, z, r, e1⟩
  · exact t
  · cases es with
    | nil => simp only [ikeysOf, Option.some.injEq] at e; subst e; cases e1
    | cons d es =>
      cases d with
      | int i =>
        simp only [ikeysOf, Option.map_eq_some_iff] at e
        obtain ⟨r', _, rfl⟩ := e
        cases e1
      | _ => simp only [ikeysOf] at e; cases e
theorem pairsT_rel : ∀ {ds : List D} {xs : List V} {ps : List (List Key × D)}, RelDs K io F n H ds xs → pairsT ds = some ps →
    ∃ (as : List Addr) (kvs : List (List Key × V)), xs = as.map V.ref ∧ Paired (fun p kv => ∃ b, SqT K H p [.ref b, kv.2] ∧ H b = some (.tup (kv.1.map kV))) as kvs ∧ RelE K io F n H ps kvs
  | [], [], ps, _, e => by
    simp only [pairsT, Option.some.injEq] at e
    subst e
    exact ⟨[], [], rfl, .nil, by simp only [RelE]⟩
  | [], _ :: _, _, r, _ => by simp only [RelDs] at r
  | _ :: _, [], _, r, _ => by simp only [RelDs] at r
  | d :: ds, x :: xs, ps, r, e => by
    simp only [RelDs] at r
    unfold pairsT at e
    split at e
    · rename_i heq; cases heq
    · rename_i es v ds' heq
      cases heq
      split at e
      · rename_i k r0 e1 e2
        cases e
        obtain ⟨as, kvs, rfl, hp, hr⟩ := pairsT_rel r.2 e2
        obtain ⟨r1, _⟩ := r
        simp only [RelD] at r1
        obtain ⟨p, ys, rfl, tp, rp⟩ := r1
        obtain ⟨y1, y2, rfl, h1, h2⟩ := two_rel rp
        simp only [RelD] at h1
        obtain ⟨b, zs, rfl, tb, rb⟩ := h1
        refine ⟨p :: as, (k, y2) :: kvs, rfl, .cons ⟨b, tp.sq, ikey_at e1 tb rb⟩ hp, ?_⟩
        simp only [RelE]
        exact ⟨⟨trivial, h2⟩, hr⟩
      · cases e
    · cases e
theorem pairsK_rel : ∀ {ds : List D} {xs : List V} {ps : List (Key × D)}, RelDs K io F n H ds xs → pairsK ds = some ps →
    ∃ (as : List Addr) (kvs : List (Key × V)), xs = as.map V.ref ∧ Paired (fun p kv => SqT K H p [kV kv.1, kv.2]) as kvs ∧ RelE K io F n H ps kvs
  | [], [], ps, _, e => by
    simp only [pairsK, Option.some.injEq] at e
    subst e
    exact ⟨[], [], rfl, .nil, by simp only [RelE]⟩
  | [], _ :: _, _, r, _ => by simp only [RelDs] at r
  | _ :: _, [], _, r, _ => by simp only [RelDs] at r
  | d :: ds, x :: xs, ps, r, e => by
    simp only [RelDs] at r
    unfold pairsK at e
    split at e
    · rename_i heq; cases heq
    · rename_i es v ds' heq
      cases heq
      split at e
      · rename_i k r0 e1 e2
        cases e
        obtain ⟨as, kvs, rfl, hp, hr⟩ := pairsK_rel r.2 e2
        obtain ⟨r1, _⟩ := r
        simp only [RelD] at r1
        obtain ⟨p, ys, rfl, tp, rp⟩ := r1
        obtain ⟨y1, y2, rfl, h1, h2⟩ := two_rel rp
        have hk := keyOf_rel h1 e1
        subst hk
        refine ⟨p :: as, (k, y2) :: kvs, rfl, .cons tp.sq hp, ?_⟩
        simp only [RelE]
        exact ⟨⟨trivial, h2⟩, hr⟩
      · cases e
    · cases e
end
theorem Then.newDT {T : Ct} {io : Nat → Addr} {F : Addr → Prop} {m : Mem} {H : Hp} {ks : List (List Key)} {ds : List D} {kvs : List (List Key × V)} {Q : VK} (k : Then T io F m H (.dt ks ds) Q) (S : Sim T io F m H) {p : Addr} (hp : H p = none) (hk : kvs.map (·.1) = ks) (r : RelDs T.K io F m.nx H ds (kvs.map (·.2))) : Q (.ref p) (upd H p (.dT kvs)) :=
  k.new S hp (by
    simp only [RelD]
    exact ⟨p, kvs, rfl, .inr rfl, .inl upd_same, hk, r.mono (S.mono (Ext.addF S hp))⟩)
section
variable {X : Cx} {k : Nat} {W : WT}
theorem c_dict (hh : Here k W X) : CallR X (.type "dict") (rC (ctOf X) opDict) := by
  intro pins s σ H xs us Q I rx h
  obtain ⟨io, F, m, ds, S, r, z, hz, kk⟩ := h
  unfold opDict at hz
  split at hz
  · obtain ⟨v, rfl, rv⟩ := one_rel r
    split at hz
    · rename_i t e1
      obtain ⟨a, xs, rfl, tt, q⟩ := at_lst S rv e1
      split at hz
      · rename_i ps e2
        cases hz
        obtain ⟨as, kvs, rfl, hp, hr⟩ := pairsT_rel q e2
        have hs := (RelE.mergeG hr (ds := []) (vs := []) (by simp only [RelE])).split
        exact call_dictT hh.calm hh.hu pins s σ H _ us Q I rx ⟨a, as, kvs, rfl, .inl (.inl tt), hp, fun p hp => kk.newDT S hp hs.1 hs.2⟩
      · split at hz
        · rename_i ps e2
          cases hz
          obtain ⟨as, kvs, rfl, hp, hr⟩ := pairsK_rel q e2
          have hs := (RelE.mergeG hr (ds := []) (vs := []) (by simp only [RelE])).split
          exact call_dictP hh.calm pins s σ H _ us Q I rx ⟨a, as, kvs, rfl, .inl (.inl tt), hp, fun p hp => kk.newK S hp hs.1 hs.2⟩
        · cases hz
    · cases hz
  · cases hz
end
end Ev

set_option Elab.async false
set_option linter.all false
set_option maxRecDepth 100000
set_option autoImplicit false
/-! Ev20: numbers as texts. -/
namespace Ev
open PySem PySem.Spec PyProof.Rows L2 PySem.NumText
def digs (n : Nat) : List Nat := (Nat.toDigits 10 n).map Char.toNat
def numS (i : Int) : Str := Str.ofString (toString i)
theorem numS_nat (n : Nat) : (numS (n : Int)).cps.toList = digs n := PySem.W.KIN.signs_num n
theorem numS_neg (n : Nat) : (numS (Int.negSucc n)).cps.toList = 45 :: digs (n + 1) := by
  unfold numS digs
  rw [signs_ofString]
  show (("-" : String) ++ Nat.repr (n + 1)).toList.map Char.toNat = _
  rw [String.toList_append, List.map_append, Nat.toList_repr]
  rfl
theorem digs_all (n : Nat) : AllDigits (digs n) := by
  intro c hc
  obtain ⟨ch, hch, e⟩ := List.mem_map.mp hc
  have r := digit_range (Nat.isDigit_of_mem_toDigits (by decide) (by decide) hch)
  rw [← e]
  exact r
theorem digs_small {n : Nat} (h : n < 10) : digs n = [48 + n] := by
  unfold digs
  rw [Nat.toDigits_of_lt_base h]
  have : ∀ d : Nat, d < 10 → (Nat.digitChar d).toNat = 48 + d := by decide
  rw [List.map_cons, this n h]; rfl
theorem digs_rec {n : Nat} (h : 10 ≤ n) : digs n = digs (n / 10) ++ [48 + n % 10] := by
  have hm : n % 10 < 10 := Nat.mod_lt n (by decide)
  have t : Nat.toDigits 10 (n / 10) ++ Nat.toDigits 10 (n % 10) = Nat.toDigits 10 (10 * (n / 10) + n % 10) := Nat.toDigits_append_toDigits (by decide) (by omega) hm
  rw [Nat.div_add_mod] at t
  rw [← digs_small hm]
  unfold digs
  rw [← t, List.map_append]
theorem digs_len : ∀ (k n : Nat), n < 10 ^ (k + 1) → (digs n).length ≤ k + 1
  | 0, n, h => by rw [digs_small (by simpa using h)]; exact Nat.le_refl _
  | k + 1, n, h => by
    by_cases h10 : n < 10
    · rw [digs_small h10]; simp
    · rw [digs_rec (by omega), List.length_append]
      have := digs_len k (n / 10) (by rw [Nat.pow_succ] at h; omega)
      simp only [List.length_cons, List.length_nil]
      omega
theorem digs_head : ∀ (n : Nat), n ≠ 0 → ∃ c cs, digs n = c :: cs ∧ 49 ≤ c ∧ c ≤ 57 := by
  intro n
  induction n using Nat.strongRecOn with
  | _ n ih =>
    intro h
    by_cases h10 : n < 10
    · exact ⟨48 + n, [], digs_small h10, by omega, by omega⟩
    · obtain ⟨c, cs, e, h1, h2⟩ := ih (n / 10) (by omega) (by omega)
      exact ⟨c, cs ++ [48 + n % 10], by rw [digs_rec (by omega), e]; rfl, h1, h2⟩
theorem digs_ne (n : Nat) : digs n ≠ [] := by
  by_cases h : n = 0
  · subst h; rw [digs_small (by decide)]; simp
  · obtain ⟨c, cs, e, _⟩ := digs_head n h
    rw [e]; simp
theorem digs_val (n : Nat) : digitsVal (digs n) = n := PySem.W.KIN.val_back n
theorem str_len (s : Str) : s.length = s.cps.toList.length := Array.length_toList.symm
theorem numS_len {i : Int} (h : i.natAbs < 10 ^ 30) : (numS i).length ≤ 31 := by
  rw [str_len]
  cases i with
  | ofNat n =>
    have e := numS_nat n
    simp only [Int.ofNat_eq_natCast] at *
    rw [e]
    have := digs_len 29 n (by omega)
    omega
  | negSucc n =>
    rw [numS_neg, List.length_cons]
    have := digs_len 29 (n + 1) (by omega)
    omega
theorem numS_back {i : Int} (h : i.natAbs < 10 ^ 30) : intText? (numS i) = some i := by
  have hl := numS_len h
  cases i with
  | ofNat n =>
    have e := numS_nat n
    simp only [Int.ofNat_eq_natCast] at *
    have := intText_digits (x := numS (n : Int)) (by rw [e]; exact digs_all n) (by rw [e]; exact digs_ne n) (by omega)
    rw [this, e, digs_val]
  | negSucc n =>
    have := intText_neg (numS_neg n) (digs_all _) (digs_ne _) (by omega)
    rw [this, digs_val]
    rfl
theorem str_ext {s t : Str} (h : s.cps.toList = t.cps.toList) : s = t := by
  obtain ⟨a⟩ := s
  obtain ⟨b⟩ := t
  have : a = b := Array.toList_inj.mp h
  rw [this]
theorem numS_inj {i j : Int} (hi : i.natAbs < 10 ^ 30) (hj : j.natAbs < 10 ^ 30) (h : numS i = numS j) : i = j := by
  have a := numS_back hi
  have b := numS_back hj
  rw [h, b] at a
  exact (Option.some.inj a).symm
section
variable {Q : D → Mem → Prop} {XX : XQ} {m : Mem}
theorem q_strI {i : Int} (h : i.natAbs < 10 ^ 30) (k : Q (.str (numS i)) m) : wp (Res.of (opStr [.int i] m) m) Q XX := by
  have l := log2_lt (n := i.natAbs) (k := 149) (Nat.lt_trans h (by decide))
  exact wp_of (if_pos (by omega)) k
theorem q_intS {z : Str} {i : Int} (h : intText? z = some i) (hl : z.length ≤ 640) (k : Q (.int i) m) : wp (Res.of (opInt1 [.str z] m) m) Q XX := by
  refine wp_of (a := .int i) ?_ k
  show (if z.length ≤ 640 then (intText? z).map D.int else none) = _
  rw [if_pos hl, h]; rfl
end
theorem cutS_drop (z : Str) (k : Nat) : (cutS z (some (k : Int)) none).cps.toList = z.cps.toList.drop k := by
  unfold cutS
  rw [HT.sIx_nat, HT.sIx_none, str_len]
  by_cases h : k ≤ z.cps.toList.length
  · rw [Nat.min_eq_left h, List.take_of_length_le (by rw [List.length_drop]; exact Nat.le_refl _)]
  · rw [Nat.min_eq_right (by omega), List.drop_eq_nil_of_le (Nat.le_refl _), List.drop_eq_nil_of_le (by omega), List.take_nil]
theorem cutS_take (z : Str) (k : Nat) : (cutS z none (some (k : Int))).cps.toList = z.cps.toList.take k := by
  unfold cutS
  rw [HT.sIx_nat, HT.sIx_none, str_len, List.drop_zero, Nat.sub_zero]
  by_cases h : k ≤ z.cps.toList.length
  · rw [Nat.min_eq_left h]
  · rw [Nat.min_eq_right (by omega), List.take_of_length_le (Nat.le_refl _), List.take_of_length_le (by omega)]
theorem q_slS {z : Str} {lo hi : Option Int} {m : Mem} {Q : D → Mem → Prop} {XX : XQ} (hl : z.length ≤ sizeLine) (k : Q (.str (cutS z lo hi)) m) : wp (Res.of (opSl (.str z) lo hi m) m) Q XX := wp_of (if_pos hl) k
theorem q_ixS {z : Str} {j c : Nat} {m : Mem} {Q : D → Mem → Prop} {XX : XQ} (hl : z.length ≤ sizeLine) (h : z.cps.toList[j]? = some c) (k : Q (.str ⟨#[c]⟩) m) : wp (Res.of (opIx (.str z) (.int (j : Nat)) m) m) Q XX := by
  refine wp_of (a := .str ⟨#[c]⟩) ?_ k
  show (if z.length ≤ sizeLine then (atI z.cps.toList (j : Nat)).map fun c => D.str ⟨#[c]⟩ else none) = _
  rw [if_pos hl, atI_nat h]; rfl
theorem q_lenS {z : Str} {m : Mem} {Q : D → Mem → Prop} {XX : XQ} (hl : z.length ≤ sizeLine) (k : Q (.int (z.length : Nat)) m) : wp (Res.of (opLen [.str z] m) m) Q XX := wp_of (if_pos hl) k
/-- a sign of a text in a text -/
def inS (t : Str) (c : Nat) : Bool := !(Builtin.Str.occurrences t ⟨#[c]⟩ 0 t.length 1).isEmpty
theorem q_inS {t : Str} {c : Nat} {m : Mem} {Q : D → Mem → Prop} {XX : XQ} (k : Q (.bl (inS t c)) m) : wp (Res.of (opIn (.str ⟨#[c]⟩) (.str t) m) m) Q XX := k
theorem v_mapE {α : Type} {as : As} {t : MT} {e : ME} {s : Slots} {xs : List α} {g f : α → D} {m : Mem} {QA : List D → Mem → Prop} {XX : XQ}
    (h : ∀ x ∈ xs, ∃ s1, as (g x) s = some s1 ∧ wp (t s1 m) (fun c m1 => c = true ∧ m1 = m) noX ∧ wp (e s1 m) (fun v m1 => m1 = m ∧ v = f x) noX) (hl : xs.length ≤ sizeLine) (k : QA (xs.map f) m) : wp (loopC as t e s (xs.map g) [] m) QA XX := by
  refine v_loopC (I := fun ds acc m1 => m1 = m ∧ ∃ ys zs : List α, xs = ys ++ zs ∧ ds = zs.map g ∧ acc = ys.map f) ?_ ?_ ?_
  · exact ⟨rfl, [], xs, rfl, rfl, rfl⟩
  · rintro acc m1 ⟨rfl, ys, zs, e1, e2, rfl⟩
    have : zs = [] := List.map_eq_nil_iff.mp e2.symm
    subst this
    rw [List.append_nil] at e1
    subst e1
    exact k
  · rintro d ds acc m1 ⟨rfl, ys, zs, e1, e2, rfl⟩
    cases zs with
    | nil => cases e2
    | cons z zs =>
      obtain ⟨h1, h2⟩ := List.cons.inj e2
      subst h1 h2
      obtain ⟨s1, q1, q2, q3⟩ := h z (by rw [e1]; simp)
      refine ⟨s1, q1, wp_imp q2 ?_⟩
      rintro c m2 ⟨rfl, rfl⟩
      refine pick_t rfl (wp_imp q3 ?_)
      rintro v m3 ⟨rfl, rfl⟩
      have : xs.length = ys.length + (zs.length + 1) := by rw [e1, List.length_append, List.length_cons]
      refine ⟨by rw [List.length_map]; omega, rfl, ys ++ [z], zs, by rw [e1]; simp, rfl, by simp⟩
theorem yesE {s : Slots} {m : Mem} : wp (mYes s m) (fun c m1 => c = true ∧ m1 = m) noX := ⟨rfl, rfl⟩
end Ev

set_option Elab.async false
set_option linter.all false
set_option maxRecDepth 100000
set_option autoImplicit false
/-! Ev21: f-strings. -/
namespace Ev
open PySem PySem.Spec PyProof.Rows L2
section
variable {X : Cx} {W : WT} {e : Expr} {es : List Expr} {pos : Pos} {ca c : ME} {cs : List ME}
def opFmt : O1 := fun x m => match view m x with
  | .str y => if y.length ≤ sizeLine then some (.str y) else none
  | .int i => if i.natAbs.log2 < 1920 then some (.str (Str.ofString (toString i))) else none
  | _ => none
abbrev mFmt (a : ME) : ME := mO1 opFmt a
abbrev mJn : List ME := []
abbrev mJc (c : ME) (cs : List ME) : List ME := c :: cs
def mJs : List ME → Str → Slots → Mem → Res Str
  | [], acc, _, m => .ok acc m
  | c :: cs, acc, s, m => (c s m).bind fun d m1 => (fun (d : D) (s : Slots) (m1 : Mem) => match d with
    | .str y => if (acc ++ y).length ≤ sizeLine then mJs cs (acc ++ y) s m1 else .bad
    | _ => .bad) d s m1
def mJoined (cs : List ME) : ME := fun s m => (mJs cs Str.empty s m).bind fun out m1 => .ok (.str out) m1
def RStr : RelT Str Str := fun _ _ _ _ a b => a = b
theorem d_fs (h : PE X e (tE (ctOf X) W ca)) : PE X e (tE (ctOf X) W ca) := h
theorem d_ff (h : PE X e (tE (ctOf X) W ca)) : PE X (.FormattedValue e (-1) none pos) (tE (ctOf X) W (mFmt ca)) :=
  pe_imp (pe_fmt h) fun σ H Q h => (tO1_of h).imp fun x H1 h2 => by
    obtain ⟨io, F, m, d, S, r, z, hz, k⟩ := h2
    unfold opFmt at hz
    split at hz
    · rename_i y e1
      split at hz
      · rename_i hl
        cases hz
        exact .inl ⟨y, is_str r e1, hl, k.now S (by simp only [RelD])⟩
      · cases hz
    · rename_i i e1
      split at hz
      · rename_i hl
        cases hz
        exact .inr ⟨i, is_int r e1, hl, k.now S (by simp only [RelD])⟩
      · cases hz
    · cases hz
theorem d_jn : PJ X [] (List.map (tE (ctOf X) W) []) := PJ.nil
theorem d_jc (h : PE X e (tE (ctOf X) W c)) (r : PJ X es (cs.map (tE (ctOf X) W))) : PJ X (e :: es) ((mJc c cs).map (tE (ctOf X) W)) := PJ.cons h r
theorem tJs_of {T : Ct} : ∀ (cs : List ME) (acc : Str) {σ : L2.St} {H : Hp} {Q : Str → Hp → Prop}, tG RStr T W (mJs cs acc) σ H Q → tJs (cs.map (tE T W)) acc σ H Q
  | [], acc, σ, H, Q, h => by
    obtain ⟨io, F, m, sd, S, rs, p⟩ := h
    exact p.now S rfl
  | c :: cs, acc, σ, H, Q, h => by
    refine (tG.bind (R := RD T) (c := c) (R' := RStr) h).imp fun v H1 h2 => ?_
    obtain ⟨io, F, m, sd, d, S, rs, r, p⟩ := h2
    cases d <;> dsimp only at p
    case str y =>
      split at p
      · rename_i hl
        have r : RelD T.K io F m.nx H1 (.str y) v := r
        simp only [RelD] at r
        exact ⟨y, r, hl, tJs_of cs (acc ++ y) ⟨io, F, m, sd, S, rs, p⟩⟩
      · exact p.elim
    all_goals exact p.elim
theorem d_joined {v1 v2 : Expr} {rest : List Expr} (h : PJ X (v1 :: v2 :: rest) (cs.map (tE (ctOf X) W))) : PE X (.JoinedStr (v1 :: v2 :: rest) pos) (tE (ctOf X) W (mJoined cs)) :=
  pe_imp (pe_joined h) fun σ H Q h => by
    refine tJs_of cs Str.empty ?_
    refine (tG.bind (R := RStr) (c := mJs cs Str.empty) (R' := RD (ctOf X)) (k := fun out s m1 => .ok (D.str out) m1) h).imp fun out H1 h2 => ?_
    obtain ⟨io, F, m, sd, o, S, rs, r, p⟩ := h2
    have r : o = out := r
    subst r
    exact p.now S (by simp only [RD, RelD])
end
/-! what they tell -/
section
variable {s : Slots} {m : Mem} {Q : D → Mem → Prop} {QS : Str → Mem → Prop} {XX : XQ} {cs : List ME} {c : ME} {acc : Str}
theorem v_joined (h : wp (mJs cs Str.empty s m) (fun out m1 => Q (.str out) m1) XX) : wp (mJoined cs s m) Q XX := by
  unfold mJoined
  cases q : mJs cs Str.empty s m with
  | ok a m1 => rw [q] at h; exact h
  | exc K fs m1 => rw [q] at h; exact h
  | bad => rw [q] at h; exact h
theorem j_nil (h : QS acc m) : wp (mJs [] acc s m) QS XX := h
theorem j_cons (h : wp (c s m) (fun d m1 => ∃ y, d = .str y ∧ (acc ++ y).length ≤ sizeLine ∧ wp (mJs cs (acc ++ y) s m1) QS XX) XX) : wp (mJs (c :: cs) acc s m) QS XX := by
  unfold mJs
  cases q : c s m with
  | ok a m1 =>
    rw [q] at h
    obtain ⟨y, rfl, hl, h⟩ := h
    show wp (if (acc ++ y).length ≤ sizeLine then mJs cs (acc ++ y) s m1 else .bad) QS XX
    rw [if_pos hl]
    exact h
  | exc K fs m1 => rw [q] at h; exact h
  | bad => rw [q] at h; exact h
theorem q_fmtS {y : Str} (hl : y.length ≤ sizeLine) (h : Q (.str y) m) : wp (Res.of (opFmt (.str y) m) m) Q XX := wp_of (if_pos hl) h
theorem q_fmtI {i : Int} (hi : i.natAbs < 10 ^ 30) (h : Q (.str (numS i)) m) : wp (Res.of (opFmt (.int i) m) m) Q XX := by
  have l := log2_lt (n := i.natAbs) (k := 149) (Nat.lt_trans hi (by decide))
  exact wp_of (if_pos (by omega)) h
end
end Ev

set_option Elab.async false
set_option linter.all false
set_option maxRecDepth 100000
set_option autoImplicit false
/-! Ev22: the pen with script, at, great, anywhere. -/
namespace Ev
open PySem PySem.Spec PyProof.Rows L2
def penB (x : D) (a l : Int) : Ob := .dk [.inr "script", .inr "at", .inr "great"] [x, .int a, .int l]
def mB_draw : MS :=
    (mSeq (mIf (mT (mOp opGt (mOp opIx (mV 0) (mC (.str "great"))) (mC (.int 0)))) (mSeq (mSet 2 (mOp opMod (mOp opIx (mV 0) (mC (.str "great"))) (mV 1)))
    (mSeq (mDPut (mV 0) (mC (.str "great")) (mOp opDiv (mOp opIx (mV 0) (mC (.str "great"))) (mV 1)))
    (mRet (mV 2)))) mSkip)
    (mSeq (mSet 3 (mOp opIx (mV 0) (mC (.str "script"))))
    (mSeq (mSet 4 (mOp opIx (mV 0) (mC (.str "at"))))
    (mSeq (mDPut (mV 0) (mC (.str "at")) (mOp opAdd (mV 4) (mC (.int 1))))
    (mSeq (mSet 5 (mOp opAdd (mOp opMul (mC (.int 60169)) (mV 4)) (mC (.int 77))))
    (mSeq (mIf (mT (mOp opNe (mV 3) (mLst mNil))) (mSet 5 (mOp opIx (mV 3) (mOp opMod (mV 4) (mCB opLen (mCons (mV 3) mNil))))) mSkip)
    (mSeq (mIf (mAnd (mT (mOp opLt (mV 4) (mCB opLen (mCons (mV 3) mNil)))) (mT (mOp opGe (mCB opAbs (mCons (mV 5) mNil)) (mOp opPow (mC (.int 10)) (mC (.int 18)))))) (mSeq (mDPut (mV 0) (mC (.str "great")) (mOp opDiv (mCB opAbs (mCons (mV 5) mNil)) (mV 1)))
    (mRet (mOp opMod (mCB opAbs (mCons (mV 5) mNil)) (mV 1)))) mSkip)
    (mSeq (mSet 6 (mOp opMod (mOp opMul (mOp opAdd (mOp opAdd (mOp opMod (mV 5) (mC (.int 2147483563))) (mOp opMul (mC (.int 6151)) (mV 4))) (mC (.int 1))) (mC (.int 40014))) (mC (.int 2147483563))))
    (mSeq (mSet 6 (mOp opMod (mOp opAdd (mOp opAdd (mOp opMul (mV 6) (mV 6)) (mOp opMul (mC (.int 60013)) (mV 6))) (mV 4)) (mC (.int 2147483399))))
    (mSeq (mSet 6 (mOp opMod (mOp opAdd (mOp opAdd (mOp opMul (mV 6) (mV 6)) (mOp opMul (mC (.int 30011)) (mV 6))) (mC (.int 7))) (mC (.int 2147483353))))
    (mRet (mOp opMod (mOp opDiv (mV 6) (mC (.int 32))) (mV 1)))))))))))))
def sCB : MS :=
    (mSeq (mSet 6 (mOp opMod (mOp opMul (mOp opAdd (mOp opAdd (mOp opMod (mV 5) (mC (.int 2147483563))) (mOp opMul (mC (.int 6151)) (mV 4))) (mC (.int 1))) (mC (.int 40014))) (mC (.int 2147483563))))
    (mSeq (mSet 6 (mOp opMod (mOp opAdd (mOp opAdd (mOp opMul (mV 6) (mV 6)) (mOp opMul (mC (.int 60013)) (mV 6))) (mV 4)) (mC (.int 2147483399))))
    (mSeq (mSet 6 (mOp opMod (mOp opAdd (mOp opAdd (mOp opMul (mV 6) (mV 6)) (mOp opMul (mC (.int 30011)) (mV 6))) (mC (.int 7))) (mC (.int 2147483353))))
    (mRet (mOp opMod (mOp opDiv (mV 6) (mC (.int 32))) (mV 1))))))
def sBB : MS :=
    (mSeq (mIf (mAnd (mT (mOp opLt (mV 4) (mCB opLen (mCons (mV 3) mNil)))) (mT (mOp opGe (mCB opAbs (mCons (mV 5) mNil)) (mOp opPow (mC (.int 10)) (mC (.int 18)))))) (mSeq (mDPut (mV 0) (mC (.str "great")) (mOp opDiv (mCB opAbs (mCons (mV 5) mNil)) (mV 1)))
    (mRet (mOp opMod (mCB opAbs (mCons (mV 5) mNil)) (mV 1)))) mSkip)
    sCB)
theorem lookB_great (c a l : D) : look [(.inr "script" : Key), .inr "at", .inr "great"] [c, a, l] (.inr "great") = some l := by
  rw [look_cons, if_neg (by decide), look_cons, if_neg (by decide), look_cons, if_pos rfl]
theorem lookB_at (c a l : D) : look [(.inr "script" : Key), .inr "at", .inr "great"] [c, a, l] (.inr "at") = some a := by
  rw [look_cons, if_neg (by decide), look_cons, if_pos rfl]
theorem lookB_script (c a l : D) : look [(.inr "script" : Key), .inr "at", .inr "great"] [c, a, l] (.inr "script") = some c := by
  rw [look_cons, if_pos rfl]
theorem putB_great (c a l l' : D) : putD ([(.inr "script" : Key), .inr "at", .inr "great"].zip [c, a, l]) (.inr "great") l' = [(.inr "script", c), (.inr "at", a), (.inr "great", l')] := by
  unfold putD
  rw [if_pos (by rw [List.any_eq_true]; exact ⟨(.inr "great", l), by simp [List.zip, List.zipWith], decide_eq_true rfl⟩)]
  show [_, _, _] = _
  dsimp only
  rw [if_neg (by decide), if_neg (by decide), if_pos rfl]
theorem putB_at (c a l a' : D) : putD ([(.inr "script" : Key), .inr "at", .inr "great"].zip [c, a, l]) (.inr "at") a' = [(.inr "script", c), (.inr "at", a'), (.inr "great", l)] := by
  unfold putD
  rw [if_pos (by rw [List.any_eq_true]; exact ⟨(.inr "at", a), by simp [List.zip, List.zipWith], decide_eq_true rfl⟩)]
  show [_, _, _] = _
  dsimp only
  rw [if_neg (by decide), if_pos rfl, if_neg (by decide)]
/-- a script as it came, or a list of its numbers -/
def ScrD (x : D) (c : List Int) : Prop := x = .scr c ∨ x = .lst (c.map D.int)
section
variable {Q : D → Mem → Prop} {XX : XQ} {m : Mem} {x : D} {c : List Int} {a l l' : Int} {J : Nat}
theorem ixB_great (hp : m.ob J = some (penB x a l)) (h : Q (.int l) m) : wp (Res.of (opIx (.ref J) (.str "great") m) m) Q XX := wp_of (ix_dk hp rfl (lookB_great _ _ _)) h
theorem ixB_at (hp : m.ob J = some (penB x a l)) (h : Q (.int a) m) : wp (Res.of (opIx (.ref J) (.str "at") m) m) Q XX := wp_of (ix_dk hp rfl (lookB_at _ _ _)) h
theorem ixB_script (hp : m.ob J = some (penB x a l)) (h : Q x m) : wp (Res.of (opIx (.ref J) (.str "script") m) m) Q XX := wp_of (ix_dk hp rfl (lookB_script _ _ _)) h
theorem putB_l {P : Mem → Prop} (hp : m.ob J = some (penB x a l)) (h : P (m.put J (penB x a l'))) : dputP (.ref J) (.str "great") (.int l') m P :=
  ⟨J, _, _, .inr "great", rfl, hp, rfl, by decide, rfl, by rw [putB_great]; exact h⟩
theorem putB_a {P : Mem → Prop} (hp : m.ob J = some (penB x a l)) (h : P (m.put J (penB x l' l))) : dputP (.ref J) (.str "at") (.int l') m P :=
  ⟨J, _, _, .inr "at", rfl, hp, rfl, by decide, rfl, by rw [putB_at]; exact h⟩
theorem toPys_ints : ∀ c : List Int, toPys (c.map D.int) = some (c.map PyData.int)
  | [] => rfl
  | i :: c => by simp only [List.map_cons, toPys, toPy, toPys_ints c]
theorem q_neScr (hx : ScrD x c) (h : Q (.bl (!deq (.lst (c.map D.int)) (.lst []))) m) : wp (Res.of (opNe x (.lst []) m) m) Q XX := by
  have e : opNe x (.lst []) m = opNe (.lst (c.map D.int)) (.lst []) m := by
    rcases hx with rfl | rfl
    · unfold opNe pyEq
      have e1 : toPy (view m (.scr c)) = toPy (view m (.lst (c.map D.int))) := by
        show toPy (.scr c) = toPy (.lst (c.map D.int))
        simp only [toPy, toPys_ints, Option.map_some]
      rw [e1]
      rfl
    · rfl
  rw [e]
  exact q_ne (pl_ints _) pl_nil h
theorem q_lenScr (hx : ScrD x c) (h : Q (.int c.length) m) : wp (Res.of (opLen [x] m) m) Q XX := by
  rcases hx with rfl | rfl
  · exact h
  · refine q_lenL ?_
    rw [List.length_map]; exact h
theorem q_ixScr {j : Nat} (hx : ScrD x c) (hj : j < c.length) (h : Q (.int c[j]) m) : wp (Res.of (opIx x (.int (j : Nat)) m) m) Q XX := by
  rcases hx with rfl | rfl
  · refine wp_of (a := .int c[j]) ?_ h
    show (atI c (j : Nat)).map D.int = _
    rw [atI_nat (List.getElem?_eq_getElem hj)]; rfl
  · exact q_ixL (ex_o (atI_nat (by rw [List.getElem?_map, List.getElem?_eq_getElem hj]; rfl)) h)
end
/-- memory with the pen at J, at most t numbers drawn anew -/
structure PG (J t : Nat) (m : Mem) : Prop where
  pen : ∃ x c a l, m.ob J = some (penB x a l) ∧ ScrD x c ∧ c.length ≤ 200 ∧ 0 ≤ a ∧ a ≤ t ∧ 0 ≤ l
  wf : ∀ j, m.nx ≤ j → m.ob j = none
/-- just the pen is another one -/
structure CG (J : Nat) (m m' : Mem) : Prop where
  nx : m.nx ≤ m'.nx
  ob : ∀ j, j ≠ J → j < m.nx → m'.ob j = m.ob j
section
variable {J t u : Nat} {m m0 : Mem}
theorem CG.refl (J : Nat) (m : Mem) : CG J m m := ⟨Nat.le_refl _, fun _ _ _ => rfl⟩
theorem CG.trans {a b c : Mem} (h : CG J a b) (k : CG J b c) : CG J a c := ⟨Nat.le_trans h.nx k.nx, fun j z l => (k.ob j z (Nat.lt_of_lt_of_le l h.nx)).trans (h.ob j z l)⟩
theorem PG.mono (h : PG J t m) (l : t ≤ u) : PG J u m := by
  obtain ⟨⟨x, c, a, l0, e, hx, h1, h2, h3, h4⟩, w⟩ := h
  exact ⟨⟨x, c, a, l0, e, hx, h1, h2, by omega, h4⟩, w⟩
theorem PG.nx (h : PG J t m) : J < m.nx := by
  obtain ⟨⟨x, c, a, l0, e, _⟩, w⟩ := h
  rcases Nat.lt_or_ge J m.nx with z | z
  · exact z
  · rw [w J z] at e; cases e
theorem PG.put (h : PG J t m) {x : D} {c : List Int} {a l : Int} (u : Nat) (hx : ScrD x c) (h1 : c.length ≤ 200) (h2 : 0 ≤ a) (h3 : a ≤ u) (h4 : 0 ≤ l) : PG J u (m.put J (penB x a l)) ∧ CG J m (m.put J (penB x a l)) :=
  ⟨⟨⟨x, c, a, l, put_ob _ _ _, hx, h1, h2, h3, h4⟩, fun j hj => by
    have := h.nx
    have hj' : m.nx ≤ j := hj
    show (if j = J then _ else m.ob j) = none
    rw [if_neg (by omega)]; exact h.wf j hj⟩, ⟨Nat.le_refl _, fun j hj _ => if_neg hj⟩⟩
theorem PG.addO (h : PG J t m) (o : Ob) : PG J t (m.add o) := by
  have hn := h.nx
  obtain ⟨⟨x, c, a, l, e, h1⟩, w⟩ := h
  refine ⟨⟨x, c, a, l, ?_, h1⟩, fun j hj => ?_⟩
  · show (if J = m.nx then _ else m.ob J) = _
    rw [if_neg (by omega)]; exact e
  · have hj : m.nx + 1 ≤ j := hj
    show (if j = m.nx then _ else m.ob j) = _
    rw [if_neg (by omega)]; exact w j (by omega)
theorem PG.putO (h : PG J t m) {i : Nat} (hi : i ≠ J) (hl : i < m.nx) (o : Ob) : PG J t (m.put i o) := by
  obtain ⟨⟨x, c, a, l, e, h1⟩, w⟩ := h
  refine ⟨⟨x, c, a, l, ?_, h1⟩, fun j hj => ?_⟩
  · show (if J = i then _ else m.ob J) = _
    rw [if_neg (by omega)]; exact e
  · have hj : m.nx ≤ j := hj
    show (if j = i then _ else m.ob j) = _
    rw [if_neg (by omega)]; exact w j hj
theorem PG.killO (h : PG J t m) {i : Nat} (hi : i ≠ J) : PG J t (m.kill i) := by
  obtain ⟨⟨x, c, a, l, e, h1⟩, w⟩ := h
  refine ⟨⟨x, c, a, l, ?_, h1⟩, fun j hj => ?_⟩
  · show (if J = i then _ else m.ob J) = _
    rw [if_neg (by omega)]; exact e
  · have hj : m.nx ≤ j := hj
    show (if j = i then _ else m.ob j) = _
    split
    · rfl
    · exact w j hj
theorem CG.addO (h : CG J m0 m) (o : Ob) : CG J m0 (m.add o) :=
  ⟨Nat.le_succ_of_le h.nx, fun j hj hl => by
    have := h.nx
    show (if j = m.nx then _ else m.ob j) = _
    rw [if_neg (by omega)]; exact h.ob j hj hl⟩
theorem CG.putO (h : CG J m0 m) {i : Nat} (hi : m0.nx ≤ i) (o : Ob) : CG J m0 (m.put i o) :=
  ⟨h.nx, fun j hj hl => by
    show (if j = i then _ else m.ob j) = _
    rw [if_neg (by omega)]; exact h.ob j hj hl⟩
theorem CG.killO (h : CG J m0 m) {i : Nat} (hi : m0.nx ≤ i) : CG J m0 (m.kill i) :=
  ⟨h.nx, fun j hj hl => by
    show (if j = i then _ else m.ob j) = _
    rw [if_neg (by omega)]; exact h.ob j hj hl⟩
theorem obg_lt (h : PG J t m) {j : Nat} {o : Ob} (e : m.ob j = some o) : j < m.nx := by
  rcases Nat.lt_or_ge j m.nx with z | z
  · exact z
  · rw [h.wf j z] at e; cases e
/-- a new pen -/
theorem PG.new {m : Mem} (wf : ∀ j, m.nx ≤ j → m.ob j = none) {x : D} {c : List Int} (hx : ScrD x c) (h : c.length ≤ 200) : PG m.nx 0 (m.add (penB x 0 0)) :=
  ⟨⟨x, c, 0, 0, add_ob _ _, hx, h, by decide, by decide, by decide⟩, fun j hj => by
    have hj : m.nx + 1 ≤ j := hj
    show (if j = m.nx then _ else m.ob j) = _
    rw [if_neg (by omega)]; exact wf j (by omega)⟩
end
theorem w_drawB {J t : Nat} {n : Int} {m : Mem} {Q : D → Mem → Prop} {XX : XQ} (p : PG J t m) (ht : t < 2 ^ 31) (hn : 0 < n) (hl : n.natAbs.log2 < 9000)
    (k : ∀ d m', PG J (t + 1) m' → CG J m m' → 0 ≤ d → d < n → Q (.int d) m') : wp (body 2 7 mB_draw [.ref J, .int n] m) Q XX := by
  obtain ⟨⟨x, c, a, l, hp, hx, h1, h2, h3, h4⟩, w⟩ := p
  have p : PG J t m := ⟨⟨x, c, a, l, hp, hx, h1, h2, h3, h4⟩, w⟩
  refine w_body rfl ?_
  unfold mB_draw
  (repeat' (first | (with_reducible first | refine w_seq ?_ | refine w_if ?_ | refine v_c ?_ | refine v_op ?_ | refine t_t ?_) | (with_reducible refine v_vx ?_; refine ex_v rfl ?_) | fail))
  refine ixB_great hp ?_
  (repeat' (first | (with_reducible first | refine v_c ?_ | refine ex_bl ?_ | refine q_gt ?_) | fail))
  refine pick_d (fun h => ?_) (fun h => ?_)
  · (repeat' (first | (with_reducible first | refine w_seq ?_ | refine w_set ?_ | refine v_c ?_ | refine v_op ?_) | (with_reducible refine v_vx ?_; refine ex_v rfl ?_) | fail))
    refine ixB_great hp ?_
    (repeat' (first | (with_reducible refine v_vx ?_; refine ex_v rfl ?_) | fail))
    refine i_mod hn ?_
    (repeat' (first | (with_reducible first | refine w_seq ?_ | refine w_dput ?_ | refine v_c ?_ | refine v_op ?_) | (with_reducible refine v_vx ?_; refine ex_v rfl ?_) | fail))
    refine ixB_great hp ?_
    (repeat' (first | (with_reducible refine v_vx ?_; refine ex_v rfl ?_) | fail))
    refine i_div hn hl ?_
    (repeat' (first | (with_reducible first | refine v_c ?_) | (with_reducible refine v_vx ?_; refine ex_v rfl ?_) | fail))
    refine putB_l hp ?_
    (repeat' (first | (with_reducible first | refine w_ret ?_) | (with_reducible refine v_vx ?_; refine ex_v rfl ?_) | fail))
    have q := p.put (c := c) (a := a) (l := l / n) (t + 1) hx h1 h2 (by omega) (Int.ediv_nonneg h4 (Int.le_of_lt hn))
    exact k _ _ q.1 q.2 (Int.emod_nonneg _ (by omega)) (Int.emod_lt_of_pos _ hn)
  · (repeat' (first | (with_reducible first | refine w_seq ?_ | refine w_set ?_ | refine w_skip ?_ | refine v_c ?_ | refine v_op ?_) | (with_reducible refine v_vx ?_; refine ex_v rfl ?_) | fail))
    refine ixB_script hp ?_
    (repeat' (first | (with_reducible first | refine w_seq ?_ | refine w_set ?_ | refine v_c ?_ | refine v_op ?_) | (with_reducible refine v_vx ?_; refine ex_v rfl ?_) | fail))
    refine ixB_at hp ?_
    (repeat' (first | (with_reducible first | refine w_seq ?_ | refine w_dput ?_ | refine v_c ?_ | refine v_op ?_ | refine q_add ?_) | (with_reducible refine v_vx ?_; refine ex_v rfl ?_) | fail))
    refine putB_a hp ?_
    (repeat' (first | (with_reducible first | refine w_seq ?_ | refine w_set ?_ | refine v_c ?_ | refine v_op ?_) | (with_reducible refine v_vx ?_; refine ex_v rfl ?_) | fail))
    refine i_mul (by decide) (by omega) ?_
    (repeat' (first | (with_reducible first | refine w_seq ?_ | refine w_if ?_ | refine v_c ?_ | refine v_op ?_ | refine a_nil ?_ | refine v_lst ?_ | refine t_t ?_ | refine q_add ?_) | (with_reducible refine v_vx ?_; refine ex_v rfl ?_) | (with_reducible refine len_ok (by simp [sizeLine_eq]) ?_) | fail))
    refine q_neScr hx ?_
    refine ex_bl ?_
    -- the cell
    have fin : ∀ e : Int, ws (sBB (((List.set (entry 7 [D.ref J, D.int n]) 3 (some x)).set 4 (some (D.int a))).set 5 (some (D.int e))) (m.put J (penB x (a + 1) l)))
        (fun _ m1 => Q .non m1) Q noS noS (fun K fs _ m1 => XX K fs m1) := by
      intro e
      have hp1 : (m.put J (penB x (a + 1) l)).ob J = some (penB x (a + 1) l) := put_ob _ _ _
      unfold sBB
      (repeat' (first | (with_reducible first | refine w_seq ?_ | refine w_if ?_ | refine v_op ?_ | refine v_cb ?_ | refine a_nil ?_ | refine a_cons ?_ | refine t_t ?_ | refine t_and ?_) | (with_reducible refine v_vx ?_; refine ex_v rfl ?_) | fail))
      have rest : ws (sCB ((((List.set (entry 7 [D.ref J, D.int n]) 3 (some x)).set 4 (some (D.int a))).set 5 (some (D.int e)))) (m.put J (penB x (a + 1) l)))
          (fun _ m1 => Q .non m1) Q noS noS (fun K fs _ m1 => XX K fs m1) := by
        have at31 : a < 2 ^ 31 := by omega
        unfold sCB
        (repeat' (first | (with_reducible first | refine w_seq ?_ | refine w_set ?_ | refine v_c ?_ | refine v_op ?_) | (with_reducible refine v_vx ?_; refine ex_v rfl ?_) | (with_reducible refine i_mod (by decide) ?_) | fail))
        have b1 := Int.emod_nonneg e (b := 2147483563) (by decide)
        have b2 := Int.emod_lt_of_pos e (b := 2147483563) (by decide)
        generalize e % 2147483563 = f at b1 b2 ⊢
        refine i_mul (by decide) (by omega) ?_
        (repeat' (first | (with_reducible first | refine v_c ?_ | refine q_add ?_) | fail))
        refine i_mul (by omega) (by decide) ?_
        (repeat' (first | (with_reducible first | refine w_seq ?_ | refine w_set ?_ | refine v_c ?_ | refine v_op ?_) | (with_reducible refine v_vx ?_; refine ex_v rfl ?_) | (with_reducible refine i_mod (by decide) ?_) | fail))
        generalize ((f + 6151 * a + 1) * 40014) = g
        have c1 := Int.emod_nonneg g (b := 2147483563) (by decide)
        have c2 := Int.emod_lt_of_pos g (b := 2147483563) (by decide)
        generalize g % 2147483563 = y at c1 c2 ⊢
        refine i_mul (by omega) (by omega) ?_
        (repeat' (first | (with_reducible first | refine v_c ?_ | refine v_op ?_) | (with_reducible refine v_vx ?_; refine ex_v rfl ?_) | fail))
        refine i_mul (by decide) (by omega) ?_
        (repeat' (first | (with_reducible first | refine w_seq ?_ | refine w_set ?_ | refine v_c ?_ | refine v_op ?_ | refine q_add ?_) | (with_reducible refine v_vx ?_; refine ex_v rfl ?_) | (with_reducible refine i_mod (by decide) ?_) | fail))
        generalize (y * y + 60013 * y + a) = z
        have c3 := Int.emod_nonneg z (b := 2147483399) (by decide)
        have c4 := Int.emod_lt_of_pos z (b := 2147483399) (by decide)
        generalize z % 2147483399 = v at c3 c4 ⊢
        refine i_mul (by omega) (by omega) ?_
        (repeat' (first | (with_reducible first | refine v_c ?_ | refine v_op ?_) | (with_reducible refine v_vx ?_; refine ex_v rfl ?_) | fail))
        refine i_mul (by decide) (by omega) ?_
        (repeat' (first | (with_reducible first | refine w_ret ?_ | refine v_c ?_ | refine v_op ?_ | refine q_add ?_) | (with_reducible refine v_vx ?_; refine ex_v rfl ?_) | (with_reducible refine i_mod (by decide) ?_) | (with_reducible refine i_div (by decide) (by decide) ?_) | fail))
        refine i_mod hn ?_
        have q := p.put (c := c) (a := a + 1) (l := l) (t + 1) hx h1 (by omega) (by omega) h4
        exact k _ _ q.1 q.2 (Int.emod_nonneg _ (by omega)) (Int.emod_lt_of_pos _ hn)
      refine q_lenScr hx ?_
      (repeat' (first | (with_reducible first | refine ex_bl ?_ | refine q_lt ?_) | fail))
      refine pick_d (fun h5 => ?_) (fun h5 => ?_)
      · (repeat' (first | (with_reducible first | refine v_c ?_ | refine v_op ?_ | refine v_cb ?_ | refine a_nil ?_ | refine a_cons ?_ | refine t_t ?_ | refine ex_bl ?_ | refine q_ge ?_ | refine q_abs ?_) | (with_reducible refine v_vx ?_; refine ex_v rfl ?_) | (with_reducible refine i_pow (by decide) (by decide) (by decide) ?_) | fail))
        refine pick_d (fun h6 => ?_) (fun h6 => ?_)
        · (repeat' (first | (with_reducible first | refine w_seq ?_ | refine w_dput ?_ | refine v_op ?_ | refine v_cb ?_ | refine a_nil ?_ | refine a_cons ?_ | refine q_abs ?_) | (with_reducible refine v_vx ?_; refine ex_v rfl ?_) | fail))
          refine i_div hn hl ?_
          (repeat' (first | (with_reducible first | refine v_c ?_) | (with_reducible refine v_vx ?_; refine ex_v rfl ?_) | fail))
          refine putB_l hp1 ?_
          (repeat' (first | (with_reducible first | refine w_ret ?_ | refine v_op ?_ | refine v_cb ?_ | refine a_nil ?_ | refine a_cons ?_ | refine q_abs ?_) | (with_reducible refine v_vx ?_; refine ex_v rfl ?_) | fail))
          refine i_mod hn ?_
          rw [put_put]
          have q := p.put (c := c) (a := a + 1) (l := (e.natAbs : Int) / n) (t + 1) hx h1 (by omega) (by omega) (Int.ediv_nonneg (by omega) (Int.le_of_lt hn))
          exact k _ _ q.1 q.2 (Int.emod_nonneg _ (by omega)) (Int.emod_lt_of_pos _ hn)
        · refine w_skip ?_
          exact rest
      · refine pick_f rfl ?_
        refine w_skip ?_
        exact rest
    refine pick_b (fun hc => ?_) (fun hc => ?_)
    · (repeat' (first | (with_reducible first | refine w_set ?_ | refine v_op ?_ | refine v_cb ?_ | refine a_nil ?_ | refine a_cons ?_) | (with_reducible refine v_vx ?_; refine ex_v rfl ?_) | fail))
      have hl : c ≠ [] := by
        rintro rfl
        simp only [List.map_nil, deq, deqs, Bool.not_true, Bool.false_eq_true] at hc
      have hl : 0 < c.length := List.length_pos_iff.mpr hl
      refine q_lenScr hx ?_
      skip
      refine i_mod (by omega) ?_
      have d1 := Int.emod_nonneg a (b := (c.length : Int)) (by omega)
      have d2 := Int.emod_lt_of_pos a (b := (c.length : Int)) (by omega)
      obtain ⟨j, hj⟩ := Int.eq_ofNat_of_zero_le d1
      rw [hj] at d2 ⊢
      have hj2 : j < c.length := by omega
      refine q_ixScr hx hj2 ?_
      exact fin _
    · refine w_skip ?_
      exact fin _
/-- drawn, told from where one began -/
theorem w_drawG {J t : Nat} {n : Int} {m0 m : Mem} {Q : D → Mem → Prop} {XX : XQ} (p : PG J t m) (c : CG J m0 m) (ht : t < 2 ^ 31) (hn : 0 < n) (hl : n.natAbs.log2 < 9000)
    (k : ∀ d m', PG J (t + 1) m' → CG J m0 m' → 0 ≤ d → d < n → Q (.int d) m') : wp (body 2 7 mB_draw [.ref J, .int n] m) Q XX :=
  w_drawB p ht hn hl fun d m' p' c' h0 h1 => k d m' p' (c.trans c') h0 h1
/-- from a promise, told from where one began -/
theorem wp_fromG {α : Type} {r : Res α} {J t : Nat} {m0 m : Mem} {P : α → Prop} {Q : α → Mem → Prop} {XX : XQ} (h : wp r (fun v m' => PG J t m' ∧ CG J m m' ∧ P v) noX) (c : CG J m0 m) (k : ∀ v m', PG J t m' → CG J m0 m' → P v → Q v m') : wp r Q XX :=
  wp_imp h fun v m' ⟨p, c', hv⟩ => k v m' p (c.trans c') hv
end Ev

set_option Elab.async false
set_option linter.all false
set_option maxRecDepth 100000
set_option autoImplicit false
/-! Ev23: a sign so many times. -/
namespace Ev
open PySem PySem.Spec PyProof.Rows L2
section
variable {X : Cx}
def repS (z : Str) (n : Int) : Str := ⟨(List.replicate n.toNat z.cps).foldl (· ++ ·) #[]⟩
theorem repS_0 (z : Str) {n : Int} (h : n < 1) : repS z n = Str.empty := by
  unfold repS
  rw [show n.toNat = 0 by omega]
  rfl
theorem repS_1 (z : Str) : repS z 1 = z := by
  unfold repS
  show (⟨#[] ++ z.cps⟩ : Str) = z
  rw [Array.empty_append]
theorem fold_size : ∀ (k : Nat) (a acc : Array Nat), ((List.replicate k a).foldl (· ++ ·) acc).size = acc.size + k * a.size
  | 0, a, acc => by simp
  | k + 1, a, acc => by
    rw [List.replicate_succ, List.foldl_cons, fold_size k a, Array.size_append, Nat.add_mul, Nat.one_mul]
    omega
theorem repS_len {z : Str} (h : z.length = 1) (n : Int) : (repS z n).length = n.toNat := by
  show ((List.replicate n.toNat z.cps).foldl (· ++ ·) #[]).size = _
  rw [fold_size]
  have h : z.cps.size = 1 := h
  rw [h]
  simp
theorem op_mul_str : OpR X (binaryOp .Mult) (fun x y H Q => ∃ z n, x = .str z ∧ y = .int n ∧ z.length = 1 ∧ 0 ≤ n ∧ n < 100000 ∧ Q (.str (repS z n)) H) := by
  intro pins s σ H x y v u Q I rx ry h
  obtain ⟨z, n, rfl, rfl, hz, h0, h1, q⟩ := h
  obtain ⟨t, rfl⟩ := rx
  obtain ⟨t', rfl⟩ := ry
  refine PySem.P.mul_str ?_ ?_ ?_ ?_
  · rw [decide_eq_false (by omega), decide_eq_false (by omega)]; rfl
  · intro g1 g2
    rw [hz]
    intro hx
    have : 1 ≤ (2 ^ 63 - 1) / n := (Int.le_ediv_iff_mul_le (by omega)).mpr (by omega)
    omega
  · intro g1 g2
    rw [hz]
    unfold PySem.Builtin.Str.tooLong
    exact decide_eq_false (by rw [show sizeLine = 16777216 from rfl]; omega)
  · split
    · rename_i g
      rw [repS_0 z g] at q
      exact ⟨by decide, .str Str.empty, H, I.tok _, ⟨_, rfl⟩, q⟩
    · rename_i g
      split
      · rename_i g2
        have : n = 1 := by
          rw [hz] at g2
          simpa using g2
        subst this
        rw [repS_1] at q
        exact ⟨.str z, H, I, ⟨_, rfl⟩, q⟩
      · exact ⟨by
          have := repS_len hz n
          show (repS z n).length ≤ sizeLine
          rw [this, show sizeLine = 16777216 from rfl]
          omega, .str (repS z n), H, I.tok _, ⟨_, rfl⟩, q⟩
@[irreducible] def mulOk (z : Str) (n : Int) : Bool := decide (z.length = 1) && decide (0 ≤ n) && decide (n < 100000)
theorem mulOk_inv {z : Str} {n : Int} (h : mulOk z n = true) : z.length = 1 ∧ 0 ≤ n ∧ n < 100000 := by
  unfold mulOk at h
  simp only [Bool.and_eq_true, decide_eq_true_eq] at h
  exact ⟨h.1.1, h.1.2, h.2⟩
def opMulS : O2 := fun x y m => match view m x, view m y with
  | .str z, .int n => if mulOk z n = true then some (.str (repS z n)) else none
  | _, _ => none
theorem o_mulS : OpR X (binaryOp .Mult) (rD (ctOf X) opMulS) := by
  intro pins s σ H x y v u Q I rx ry h
  obtain ⟨io, F, m, d, e, S, rd, re, z, hz, k⟩ := h
  unfold opMulS at hz
  split at hz
  · rename_i i j e1 e2
    split at hz
    · rename_i hl
      have hl := mulOk_inv hl
      cases hz
      exact op_mul_str pins s σ H _ _ v u Q I rx ry ⟨i, j, is_str rd e1, is_int re e2, hl.1, hl.2.1, hl.2.2, k.now S (by simp only [RelD])⟩
    · cases hz
  · cases hz
theorem q_mulS {z : Str} {n : Int} {m : Mem} {Q : D → Mem → Prop} {XX : XQ} (h1 : z.length = 1) (h0 : 0 ≤ n) (h2 : n < 100000) (k : Q (.str (repS z n)) m) : wp (Res.of (opMulS (.str z) (.int n) m) m) Q XX := wp_of (if_pos (by
  unfold mulOk
  rw [decide_eq_true h1, decide_eq_true h0, decide_eq_true h2]; rfl)) k
end
end Ev

set_option Elab.async false
set_option linter.all false
set_option maxRecDepth 100000
set_option autoImplicit false
/-! Ev24: a list in a dict is frozen. -/
namespace Ev
open PySem PySem.Spec PyProof.Rows L2
section
variable {T : Ct} {io : Nat → Addr} {F : Addr → Prop} {m : Mem} {H : Hp}
/-- the heap stays, what is said of a thing is another -/
theorem Sim.say {i : Nat} {u u' : Ob} (S : Sim T io F m H) (hi : m.ob i = some u) (hu : RelO T io F m.nx H u' (io i)) : Sim T io F (m.put i u') H ∧ Ext io F m H io F (m.put i u') H := by
  have at_ : ∀ {j z}, (m.put i u').ob j = some z → (j = i ∧ z = u') ∨ (j ≠ i ∧ m.ob j = some z) := fun {j z} h => by
    have h : (if j = i then some u' else m.ob j) = some z := h
    split at h
    · rename_i e; cases h; exact .inl ⟨e, rfl⟩
    · rename_i e; exact .inr ⟨e, h⟩
  have has : ∀ {j z}, (m.put i u').ob j = some z → ∃ w, m.ob j = some w := fun {j z} h => by
    rcases at_ h with ⟨rfl, _⟩ | ⟨_, h⟩
    · exact ⟨_, hi⟩
    · exact ⟨_, h⟩
  refine ⟨⟨fun j k z w hj hk e => ?_, fun j z h => ?_, fun j z h => ?_, fun j z h => ?_, S.fh⟩, ?_⟩
  · obtain ⟨z', hj⟩ := has hj
    obtain ⟨w', hk⟩ := has hk
    exact S.inj j k _ _ hj hk e
  · obtain ⟨z', h⟩ := has h
    exact S.lt j _ h
  · obtain ⟨z', h⟩ := has h
    exact S.nf j _ h
  · rcases at_ h with ⟨rfl, rfl⟩ | ⟨_, h⟩
    · exact hu
    · exact S.ob j z h
  · refine ⟨Nat.le_refl _, fun _ _ => rfl, fun _ h => h, fun _ _ h _ => h, fun j h1 h2 => absurd (Nat.lt_of_lt_of_le h2 h1) (Nat.lt_irrefl _), fun j hj h => ?_, fun j o h => ?_, fun _ o h => ⟨o, h⟩, fun _ h => .inl h⟩
    · show (if j = i then some u' else m.ob j) = none
      rw [if_neg]
      · exact h
      · rintro rfl; rw [hi] at h; cases h
    · obtain ⟨z', h⟩ := has h
      exact S.lt j _ h
theorem RelDs.setD {K : PySem.W.Frag} {n : Nat} {F : Addr → Prop} : ∀ {ds : List D} {vs : List V} {p : Nat} {d : D} {v : V}, RelDs K io F n H ds vs → vs[p]? = some v → RelD K io F n H d v → RelDs K io F n H (ds.set p d) vs
  | [], [], _, _, _, _, h, _ => by cases h
  | [], _ :: _, _, _, _, r, _, _ => by simp only [RelDs] at r
  | _ :: _, [], _, _, _, r, _, _ => by simp only [RelDs] at r
  | d0 :: ds, v0 :: vs, 0, d, v, r, h, rd => by
    simp only [RelDs] at r
    cases h
    simp only [List.set_cons_zero, RelDs]
    exact ⟨rd, r.2⟩
  | d0 :: ds, v0 :: vs, p + 1, d, v, r, h, rd => by
    simp only [RelDs] at r
    simp only [List.set_cons_succ, RelDs]
    exact ⟨r.1, RelDs.setD r.2 h rd⟩
end
section
variable {X : Cx} {W : WT} {st : Stmt} {sts : List Stmt} {sa : MS}
/-- at a place of a dict the list is frozen -/
def mFrzK (i p : Nat) : MS := fun s m => match s[i]? with
  | some (some (.ref f)) => (match m.ob f with
    | some (.dk ks ds) => (match ds[p]? with
      | some (.ref j) => (match m.ob j with
        | some (.lst es) => if j ≠ f then .nx s ((m.kill j).put f (.dk ks (ds.set p (.lst es)))) else .bad
        | _ => .bad)
      | _ => .bad)
    | _ => .bad)
  | _ => .bad
theorem frzk_of {i p : Nat} {D : Ends} {σ : L2.St} {H : Hp} (h : tS (ctOf X) W (mSeq (mFrzK i p) sa) D σ H) : tS (ctOf X) W sa D σ H := by
  obtain ⟨io, F, m, sd, S, rs, q⟩ := h
  unfold mSeq mFrzK at q
  cases q1 : sd[i]? with
  | none => rw [q1] at q; exact q.elim
  | some o =>
    rw [q1] at q
    cases o with
    | none => exact q.elim
    | some d =>
      cases d with
      | ref f =>
        simp only at q
        cases q2 : m.ob f with
        | none => rw [q2] at q; exact q.elim
        | some u =>
          rw [q2] at q
          cases u with
          | dk ks ds =>
            simp only at q
            cases q3 : ds[p]? with
            | none => rw [q3] at q; exact q.elim
            | some d3 =>
              rw [q3] at q
              cases d3 with
              | ref j =>
                simp only at q
                cases q4 : m.ob j with
                | none => rw [q4] at q; exact q.elim
                | some u4 =>
                  rw [q4] at q
                  cases u4 with
                  | lst es =>
                    simp only at q
                    by_cases hjf : j ≠ f
                    · rw [if_pos hjf] at q
                      obtain ⟨S', E⟩ := S.frz q4
                      have M := S.mono E
                      obtain ⟨kvs, h1, h2, h3⟩ := S.ob f _ q2
                      obtain ⟨xs, g1, g2⟩ := S.ob j _ q4
                      have hf' : (m.kill j).ob f = some (.dk ks ds) := by
                        show (if f = j then none else m.ob f) = _
                        rw [if_neg (Ne.symm hjf)]; exact q2
                      obtain ⟨v, e1, e2⟩ := h3.get q3
                      simp only [RelD] at e2
                      obtain ⟨S2, E2⟩ := S'.say (u' := .dk ks (ds.set p (.lst es))) hf' (by
                        refine ⟨kvs, h1, h2, RelDs.setD (h3.mono M) e1 ?_⟩
                        rw [e2.2]
                        simp only [RelD]
                        exact ⟨io j, xs, rfl, .inr rfl, g1, g2.mono M⟩)
                      have E3 := E.trans E2
                      exact ⟨io, _, _, sd, S2, rs.mono (S.mono E3), q.ext E3⟩
                    · rw [if_neg hjf] at q; exact q.elim
                  | _ => exact q.elim
              | _ => exact q.elim
          | _ => exact q.elim
      | _ => exact q.elim
theorem d_frzk {i p : Nat} (h : PS X st (tS (ctOf X) W sa)) : PS X st (tS (ctOf X) W (mSeq (mFrzK i p) sa)) := ps_imp h fun D σ H q => frzk_of q
theorem w_frzk {i p f j : Nat} {ks : List Key} {ds es : List D} {s : Slots} {m : Mem} {N : Slots → Mem → Prop} {R : D → Mem → Prop} {B C : Slots → Mem → Prop} {X : XS} (h1 : s[i]? = some (some (.ref f))) (h2 : m.ob f = some (.dk ks ds)) (h3 : ds[p]? = some (.ref j)) (h4 : m.ob j = some (.lst es)) (h5 : j ≠ f) (h : N s ((m.kill j).put f (.dk ks (ds.set p (.lst es))))) : ws (mFrzK i p s m) N R B C X := by
  unfold mFrzK
  rw [h1]; dsimp only
  rw [h2]; dsimp only
  rw [h3]; dsimp only
  rw [h4]; dsimp only
  rw [if_pos h5]; exact h
end
end Ev

set_option Elab.async false
set_option linter.all false
set_option maxRecDepth 100000
set_option autoImplicit false
/-! Ev25: t > u of tuples of ints, by KE.DataCmp. -/
namespace Ev
open PySem PySem.Spec PyProof.Rows L2
theorem firstLt_map (e r : Nat → Bool) (z : Bool) (f : Nat → Nat) : ∀ l : List Nat, SeqAt.firstLt e r z (l.map f) = SeqAt.firstLt (fun j => e (f j)) (fun j => r (f j)) z l
  | [] => rfl
  | j :: l => by
    show (if e (f j) = true then SeqAt.firstLt e r z (l.map f) else r (f j)) = (if e (f j) = true then SeqAt.firstLt (fun j => e (f j)) (fun j => r (f j)) z l else r (f j))
    rw [firstLt_map e r z f l]
def eqJ (ns ms : List Int) (j : Nat) : Bool := decide (ns.getD j 0 = ms.getD j 0)
def gtJ (ns ms : List Int) (j : Nat) : Bool := decide (ms.getD j 0 < ns.getD j 0)
theorem first_lex : ∀ ns ms : List Int, SeqAt.firstLt (eqJ ns ms) (gtJ ns ms) (decide (ns.length > ms.length)) (List.range (min ns.length ms.length)) = HT.lexLt ms ns
  | [], [] => rfl
  | [], m :: ms => rfl
  | n :: ns, [] => by
    rw [show min (n :: ns).length ([] : List Int).length = 0 from Nat.min_zero _]
    show decide (_ > _) = true
    exact decide_eq_true (Nat.succ_pos _)
  | n :: ns, m :: ms => by
    have ih := first_lex ns ms
    rw [show min (n :: ns).length (m :: ms).length = min ns.length ms.length + 1 by simp only [List.length_cons]; omega, List.range_succ_eq_map]
    show (if eqJ (n :: ns) (m :: ms) 0 = true then SeqAt.firstLt (eqJ (n :: ns) (m :: ms)) (gtJ (n :: ns) (m :: ms)) _ ((List.range (min ns.length ms.length)).map Nat.succ) else gtJ (n :: ns) (m :: ms) 0) = (if m = n then HT.lexLt ms ns else decide (m < n))
    rw [firstLt_map]
    have e1 : eqJ (n :: ns) (m :: ms) 0 = decide (n = m) := rfl
    have e2 : gtJ (n :: ns) (m :: ms) 0 = decide (m < n) := rfl
    have e3 : decide ((n :: ns).length > (m :: ms).length) = decide (ns.length > ms.length) := by simp only [List.length_cons]; exact decide_eq_decide.mpr (by omega)
    rw [e1, e2, e3]
    by_cases h : n = m
    · rw [decide_eq_true h, if_pos rfl, if_pos h.symm]
      exact ih
    · rw [decide_eq_false h, if_neg (by decide), if_neg (Ne.symm h)]
theorem ints_at : ∀ {us : List Value} {ns : List Int}, IntsAre us ns → ∀ (j : Nat) (h : j < us.length), ∃ t, us[j] = .int (ns.getD j 0) t
  | _, _, .nil, j, h => absurd h (Nat.not_lt_zero _)
  | _, _, .cons a t r, 0, h => ⟨t, rfl⟩
  | _, _, .cons a t r, j + 1, h => ints_at r j (Nat.lt_of_succ_lt_succ h)
section
variable {X : Cx}
theorem op_gtT (hu : X.A.units < cLine) : OpR X (compareOp .Gt) (fun x y H Q => ∃ a b ns ms, x = .ref a ∧ y = .ref b ∧ SqT X.K H a (ns.map V.int) ∧ SqT X.K H b (ms.map V.int) ∧ Q (.bl (HT.lexLt ms ns)) H) := by
  intro pins s σ H x y v u Q I rx ry h
  obtain ⟨a, b, ns, ms, rfl, rfl, ha, hb, q⟩ := h
  cases rx
  cases ry
  obtain ⟨its, r1, p1, _⟩ := I.tuple ha
  obtain ⟨its2, r2, p2, _⟩ := I.tuple hb
  have i1 : IntsAre its.toArray.toList ns := intsAre_of r1
  have i2 : IntsAre its2.toArray.toList ms := intsAre_of r2
  have l1 := i1.length
  have l2 := i2.length
  have e := first_lex ns ms
  rw [← l1, ← l2, Array.length_toList, Array.length_toList] at e
  have w : SeqAt.RcOp .Gt X.A s (.ref a) (.ref b) (HT.lexLt ms ns) := by
    rw [← e]
    refine SeqAt.RcOp.tuples_gt p1 p2 hu ?_ ?_
    · intro j h1 h2
      obtain ⟨t1, e1⟩ := ints_at i1 j (by rw [Array.length_toList]; exact h1)
      obtain ⟨t2, e2⟩ := ints_at i2 j (by rw [Array.length_toList]; exact h2)
      rw [Array.getElem_toList] at e1 e2
      rw [e1, e2]
      exact SeqAt.EqAt.int_int _ t1 _ t2
    · intro j h1 h2 _
      obtain ⟨t1, e1⟩ := ints_at i1 j (by rw [Array.length_toList]; exact h1)
      obtain ⟨t2, e2⟩ := ints_at i2 j (by rw [Array.length_toList]; exact h2)
      rw [Array.getElem_toList] at e1 e2
      rw [e1, e2]
      exact fun _ _ _ _ h => PyProof.Rows.gt_int h
  exact w X.prog X.w _ _ ⟨.bl (HT.lexLt ms ns), H, I, rfl, q⟩
def opGtT : O2 := fun x y m => match view m x, view m y with
  | .tup a, .tup b => (match intsOf a, intsOf b with
    | some ns, some ms => some (.bl (HT.lexLt ms ns))
    | _, _ => none)
  | _, _ => none
theorem o_gtT (hu : X.A.units + 65 < cLine) : OpR X (compareOp .Gt) (rD (ctOf X) opGtT) := by
  intro pins s σ H x y v u Q I rx ry h
  obtain ⟨io, F, m, d, e, S, rd, re, z, hz, k⟩ := h
  unfold opGtT at hz
  split at hz
  · rename_i a b e1 e2
    split at hz
    · rename_i ns ms h1 h2
      cases hz
      obtain ⟨p, xs, rfl, t1, q1⟩ := is_tup rd e1
      obtain ⟨q, ys, rfl, t2, q2⟩ := is_tup re e2
      rw [intsOf_map h1] at q1
      rw [intsOf_map h2] at q2
      have z1 := intsV_rel q1
      have z2 := intsV_rel q2
      subst z1 z2
      exact op_gtT (by omega) pins s σ H _ _ v u Q I rx ry ⟨p, q, ns, ms, rfl, rfl, t1.sq, t2.sq, k.now S (by simp only [RelD])⟩
    · cases hz
  · cases hz
theorem q_gtT {ns ms : List Int} {m : Mem} {Q : D → Mem → Prop} {XX : XQ} (h : Q (.bl (HT.lexLt ms ns)) m) : wp (Res.of (opGtT (.tup (ns.map D.int)) (.tup (ms.map D.int)) m) m) Q XX := by
  refine wp_of (a := .bl (HT.lexLt ms ns)) ?_ h
  show (match intsOf (ns.map D.int), intsOf (ms.map D.int) with | some ns, some ms => some (D.bl (HT.lexLt ms ns)) | _, _ => none) = _
  rw [intsOf_of, intsOf_of]
end
end Ev

set_option Elab.async false
set_option linter.all false
set_option maxRecDepth 100000
set_option autoImplicit false
/-! Ev26: len of a dict. -/
namespace Ev
open PySem PySem.Spec PyProof.Rows L2
section
variable {X : Cx}
def opLenD : OL := fun ds m => match ds with
  | [x] => (match view m x with
    | .dk ks ds => some (.int ks.length)
    | .dt ks ds => some (.int ks.length)
    | _ => none)
  | _ => none
theorem c_lenD : CallR X (.builtin "len") (rC (ctOf X) opLenD) := by
  intro pins s σ H xs us Q I rx h
  obtain ⟨io, F, m, ds, S, r, z, hz, kk⟩ := h
  unfold opLenD at hz
  split at hz
  · rename_i d
    obtain ⟨v, rfl, rv⟩ := one_rel r
    split at hz
    · rename_i ks ds e1
      cases hz
      obtain ⟨a, kvs, rfl, h1, h2, h3⟩ := at_dk S rv e1
      obtain ⟨u, rfl, ru⟩ := vals1 rx
      cases ru
      have : kvs.length = ks.length := by rw [← h2, List.length_map]
      exact d_len I h1 fun t s' I' => ⟨.int kvs.length, H, I', ⟨t, rfl⟩, by rw [this]; exact kk.now S (by simp only [RelD])⟩
    · rename_i ks ds e1
      cases hz
      obtain ⟨a, kvs, rfl, h1, h2, h3⟩ := at_dt S rv e1
      obtain ⟨u, rfl, ru⟩ := vals1 rx
      cases ru
      have hk : kvs.length = ks.length := by rw [← h2, List.length_map]
      obtain ⟨z, hd, ys, rel, dd⟩ := dt_rd I.hok h1
      have hl : kvs.length = ys.length := Paired.length rel
      refine call_len_dictH hd dd (by rw [← hl]; rw [sizeLine_eq] at z; omega) ?_
      rw [← hl]
      exact ⟨.int ((kvs.length : Nat) : Int), H, I.tok _, ⟨_, rfl⟩, by rw [hk]; exact kk.now S (by simp only [RelD])⟩
    · cases hz
  · cases hz
theorem q_lenDt {ks : List (List Key)} {ds : List D} {m : Mem} {Q : D → Mem → Prop} {XX : XQ} (h : Q (.int (ks.length : Nat)) m) : wp (Res.of (opLenD [.dt ks ds] m) m) Q XX := h
end
end Ev

set_option Elab.async false
set_option linter.all false
set_option maxRecDepth 100000
set_option autoImplicit false
/-! Ev27: repr of what holds dicts; str of a text. -/
namespace Ev
open PySem PySem.Spec PyProof.Rows L2
def kPy : Key → PyData
  | .inl i => .int i
  | .inr s => .str s
mutual
def pyK : D → PyData
  | .non => .none
  | .bl b => .bool b
  | .int i => .int i
  | .str s => .str s
  | .tup ds => .tuple (pyKs ds)
  | .lst ds => .list (pyKs ds)
  | .dk ks ds => .dict ((ks.map kPy).zip (pyKs ds))
  | .scr _ => .none
  | .dt _ _ => .none
  | .ref _ => .none
def pyKs : List D → List PyData
  | [] => []
  | d :: ds => pyK d :: pyKs ds
end
mutual
/-- what can be read so -/
def okK : D → Bool
  | .non => true
  | .bl _ => true
  | .int _ => true
  | .str _ => true
  | .tup ds => okKs ds
  | .lst ds => okKs ds
  | .dk ks ds => okKs ds && decide (ks.length = ds.length)
  | .scr _ => false
  | .dt _ _ => false
  | .ref _ => false
def okKs : List D → Bool
  | [] => true
  | d :: ds => okK d && okKs ds
end
mutual
/-- without lists -/
def noL : D → Bool
  | .tup ds => noLs ds
  | .dk _ ds => noLs ds
  | .lst _ => false
  | .non => true
  | .bl _ => true
  | .int _ => true
  | .str _ => true
  | .scr _ => false
  | .dt _ _ => false
  | .ref _ => false
def noLs : List D → Bool
  | [] => true
  | d :: ds => noL d && noLs ds
end
theorem pyKs_len : ∀ ds : List D, (pyKs ds).length = ds.length
  | [] => rfl
  | d :: ds => by simp only [pyKs, List.length_cons, pyKs_len ds]
section
variable {X : Cx} {pins : List (Addr × Obj)} {σ : L2.St} {H : Hp} {s : Shared} {io : Nat → Addr} {F : Addr → Prop} {n : Nat}
theorem pairs_keys {knd : KeyKind X.prog X.w Key} (hk : ∀ k v, knd.is k v = true → RelV (kV k) v) (h : Heap) : ∀ {es : List DictEntry} {kvs : List (Key × Value)}, Pairs knd es kvs →
    ReadsAll h (es.map (·.key)) ((kvs.map (·.1)).map kPy) [] ∧ es.map (·.val) = kvs.map (·.2)
  | _, _, .nil => ⟨.nil, rfl⟩
  | _, _, .cons (e := e) (kv := kv) (es := es) (kvs := kvs) h1 h2 r => by
    obtain ⟨a, b⟩ := pairs_keys hk h r
    refine ⟨?_, by simp only [List.map_cons, h2, b]⟩
    have rk := hk _ _ h1
    have hr : Reads h e.key (kPy kv.1) [] := by
      cases q : kv.1 with
      | inl i =>
        rw [q] at rk
        obtain ⟨t, e1⟩ := rk
        rw [e1]
        exact .int i t
      | inr x =>
        rw [q] at rk
        obtain ⟨t, e1⟩ := rk
        rw [e1]
        exact .str x t
    exact ReadsAll.cons (as := []) hr a
theorem mix_rel (P : Program) (w : World) (k : Key) (v : Value) (h : (mixKind P w).is k v = true) : RelV (kV k) v := by
  rcases keyIs_shape h with ⟨i, t, rfl, rfl⟩ | ⟨x, t, rfl, rfl⟩
  · exact ⟨t, rfl⟩
  · exact ⟨t, rfl⟩
theorem kv_keys : ∀ {kvs : List (Key × V)} {vs : List (Key × Value)}, KV kvs vs → kvs.map (·.1) = vs.map (·.1) ∧ Vals (kvs.map (·.2)) (vs.map (·.2))
  | _, _, .nil => ⟨rfl, .nil⟩
  | _, _, .cons h r => by
    obtain ⟨a, b⟩ := kv_keys r
    exact ⟨by simp only [List.map_cons, h.1, a], .cons h.2 b⟩
mutual
theorem readsK (I : Inv X pins σ H s) : ∀ (d : D) (v : V) (u : Value), RelD X.K io F n H d v → RelV v u → okK d = true → ∃ as, Reads s.heap u (pyK d) as ∧ (noL d = true → sysModules ∉ as)
  | .non, _, _, r, q, _ => by
    simp only [RelD] at r; subst r; cases q
    simp only [pyK]
    exact ⟨_, .none, fun _ => List.not_mem_nil⟩
  | .bl b, _, _, r, q, _ => by
    simp only [RelD] at r; subst r; cases q
    simp only [pyK]
    exact ⟨_, .bool b, fun _ => List.not_mem_nil⟩
  | .int i, _, _, r, q, _ => by
    simp only [RelD] at r; subst r; obtain ⟨t, rfl⟩ := q
    simp only [pyK]
    exact ⟨_, .int i t, fun _ => List.not_mem_nil⟩
  | .str x, _, _, r, q, _ => by
    simp only [RelD] at r; subst r; obtain ⟨t, rfl⟩ := q
    simp only [pyK]
    exact ⟨_, .str x t, fun _ => List.not_mem_nil⟩
  | .tup ds, _, _, r, q, h => by
    simp only [RelD] at r
    simp only [okK] at h
    obtain ⟨a, xs, rfl, t, rs⟩ := r
    cases q
    obtain ⟨its, rv, ⟨o, ho, hc, n, hd⟩, _⟩ := I.tuple t.sq
    obtain ⟨as, h1, h2⟩ := readsKs I ds xs its rs rv h
    simp only [pyK, noL]
    exact ⟨_, .tuple ho hc hd h1, h2⟩
  | .lst ds, _, _, r, q, h => by
    simp only [RelD] at r
    simp only [okK] at h
    obtain ⟨a, xs, rfl, _, t, rs⟩ := r
    cases q
    obtain ⟨its, rv, ⟨o, n, ho, hc, _, hd⟩, _⟩ := I.list (.inl (.inl t))
    obtain ⟨as, h1, h2⟩ := readsKs I ds xs its rs rv h
    simp only [pyK, noL]
    exact ⟨_, .list ho hc hd h1, fun z => by cases z⟩
  | .dk ks ds, _, _, r, q, h => by
    simp only [RelD] at r
    simp only [okK, Bool.and_eq_true, decide_eq_true_eq] at h
    obtain ⟨a, kvs, rfl, _, t, hk, rs⟩ := r
    cases q
    obtain ⟨_, hsys, vs, kv, o, es, ep, ho, hex, hd, _, hp, _⟩ := dk_rd I.hok t
    obtain ⟨e1, e2⟩ := kv_keys kv
    obtain ⟨p1, p2⟩ := pairs_keys (mix_rel _ _) s.heap hp
    obtain ⟨as, h1, h2⟩ := readsKs I ds _ _ rs e2 h.1
    rw [← e1, hk] at p1
    rw [← p2] at h1
    simp only [pyK, noL]
    refine ⟨_, Reads.dict (as := []) (bs := as) (kvs := (ks.map kPy).zip (pyKs ds)) ho hex.1 hd ?_ ?_, ?_⟩
    · rw [List.map_fst_zip (by rw [List.length_map, pyKs_len]; omega)]
      exact p1
    · rw [List.map_snd_zip (by rw [List.length_map, pyKs_len]; omega)]
      exact h1
    · intro z hm
      rw [List.cons_append, List.nil_append] at hm
      rcases List.mem_cons.mp hm with e | hm
      · rw [← e] at hsys
        simp at hsys
      · exact h2 z hm
  | .scr _, _, _, _, _, h => by simp only [okK] at h; cases h
  | .dt _ _, _, _, _, _, h => by simp only [okK] at h; cases h
  | .ref _, _, _, _, _, h => by simp only [okK] at h; cases h
theorem readsKs (I : Inv X pins σ H s) : ∀ (ds : List D) (vs : List V) (us : List Value), RelDs X.K io F n H ds vs → Vals vs us → okKs ds = true → ∃ as, ReadsAll s.heap us (pyKs ds) as ∧ (noLs ds = true → sysModules ∉ as)
  | [], vs, _, r, q, _ => by
    cases vs with
    | nil => cases q; simp only [pyKs]; exact ⟨_, .nil, fun _ => List.not_mem_nil⟩
    | cons v vs => simp only [RelDs] at r
  | d :: ds, vs, _, r, q, h => by
    cases vs with
    | nil => simp only [RelDs] at r
    | cons v vs =>
      simp only [RelDs] at r
      simp only [okKs, Bool.and_eq_true] at h
      cases q with
      | cons q1 q2 =>
        obtain ⟨as, a1, a2⟩ := readsK I d v _ r.1 q1 h.1
        obtain ⟨bs, b1, b2⟩ := readsKs I ds vs _ r.2 q2 h.2
        simp only [pyKs, noLs]
        refine ⟨_, .cons a1 b1, fun z hm => ?_⟩
        rw [Bool.and_eq_true] at z
        rcases List.mem_append.mp hm with hm | hm
        · exact a2 z.1 hm
        · exact b2 z.2 hm
end
end
section
variable {k : Nat} {W : WT} {X : Cx}
/-- repr of a thing that may hold dicts -/
def opReprK : OL := fun ds m => match ds with
  | [x] => if okK x = true ∧ (noL x = true ∨ PyData.hasDict (pyK x) = false) ∧ PyData.showable (pyK x) = true ∧ PyData.depth (pyK x) ≤ 64 ∧ (PyData.shown (pyK x)).length ≤ sizeLine then some (.str (PyData.shown (pyK x))) else none
  | _ => none
theorem c_reprK (hh : Here k W X) : CallR X (.builtin "repr") (rC (ctOf X) opReprK) := by
  intro pins s σ H xs us Q I rx h
  obtain ⟨io, F, m, ds, S, r, z, hz, kk⟩ := h
  unfold opReprK at hz
  split at hz
  · rename_i d
    obtain ⟨v, rfl, rv⟩ := one_rel r
    split at hz
    · rename_i hs
      obtain ⟨s0, s1, s2, s3, s4⟩ := hs
      cases hz
      have fin := kk.now S (v := .str (PyData.shown (pyK d))) (by simp only [RelD])
      cases rx with
      | cons r1 r2 =>
        rename_i u us'
        cases r2
        obtain ⟨as, rd, hs⟩ := readsK I d v u rv r1 s0
        have hsm : PyData.hasDict (pyK d) = true → sysModules ∉ as := fun e => by
          rcases s1 with s1 | s1
          · exact hs s1
          · rw [s1] at e; cases e
        have hu := hh.rm.un
        have big : ∀ a, u = .ref a → wpAny (model X.prog X.w) X.A (call (.builtin "repr") [u]) (fun u' s' => ∃ x H', L2.Inv X pins σ H' s' ∧ RelV x u' ∧ Q x H') X.xe s := fun a e => by
          subst e
          exact PySem.repr_of_reads' rd s2 hsm hh.gd (by omega) (fun _ _ e => e) (fun h' u tk hk => ⟨.str _, H, I.kept (t' := tk) hk, ⟨_, rfl⟩, fin⟩) s4
        cases d with
        | non =>
          simp only [RelD] at rv; subst rv; cases r1
          exact PySem.P.repr_of_none ⟨.str _, H, I.tok _, ⟨_, rfl⟩, fin⟩
        | bl bb =>
          simp only [RelD] at rv; subst rv; cases r1
          refine PySem.P.repr_of_bool ⟨.str _, H, I.tok _, ⟨_, rfl⟩, ?_⟩
          cases bb <;> exact fin
        | int i =>
          simp only [RelD] at rv; subst rv; obtain ⟨t, rfl⟩ := r1
          simp only [pyK, PyData.showable, decide_eq_true_eq] at s2
          exact PySem.P.repr_of_int s2 ⟨.str _, H, I.tok _, ⟨_, rfl⟩, fin⟩
        | str t =>
          simp only [RelD] at rv; subst rv; obtain ⟨tk, rfl⟩ := r1
          exact PySem.P.repr_of_str ⟨.str _, H, I.tok _, ⟨_, rfl⟩, fin⟩ s4
        | tup ds => simp only [RelD] at rv; obtain ⟨a, xs, rfl, _⟩ := rv; cases r1; exact big a rfl
        | lst ds => simp only [RelD] at rv; obtain ⟨a, xs, rfl, _⟩ := rv; cases r1; exact big a rfl
        | dk ks ds => simp only [RelD] at rv; obtain ⟨a, xs, rfl, _⟩ := rv; cases r1; exact big a rfl
        | scr _ => simp only [okK] at s0; cases s0
        | dt _ _ => simp only [okK] at s0; cases s0
        | ref _ => simp only [okK] at s0; cases s0
    · cases hz
  · cases hz
def opStrG : OL := fun ds m => match ds with
  | [.int i] => if i.natAbs.log2 < 1920 then some (.str (Str.ofString (toString i))) else none
  | [.str s] => some (.str s)
  | _ => none
theorem c_strG : CallR X (.type "str") (rC (ctOf X) opStrG) := by
  intro pins s σ H xs us Q I rx h
  obtain ⟨io, F, m, ds, S, r, z, hz, kk⟩ := h
  unfold opStrG at hz
  split at hz
  · rename_i i
    obtain ⟨v, rfl, rv⟩ := one_rel r
    simp only [RelD] at rv
    subst rv
    split at hz
    · rename_i hl
      cases hz
      exact call_str_int pins s σ H _ us Q I rx ⟨i, rfl, hl, kk.now S (by simp only [RelD])⟩
    · cases hz
  · rename_i x
    obtain ⟨v, rfl, rv⟩ := one_rel r
    simp only [RelD] at rv
    subst rv
    cases hz
    cases rx with
    | cons r1 r2 =>
      cases r2
      obtain ⟨t, rfl⟩ := r1
      exact PySem.P.str_of_str ⟨.str x, H, I, ⟨_, rfl⟩, kk.now S (by simp only [RelD])⟩
  · cases hz
/-- {} that stays -/
theorem d_newK0 {pos : Pos} : PE X (.Dict [] [] pos) (tE (ctOf X) W (mC (.dk [] []))) := pe_imp pe_dnewK fun σ H Q h q hq => by
  obtain ⟨io, F, m, sd, S, rs, p⟩ := h
  exact Then.newK (kvs := []) (T := ctOf X) (fun io' F' H' b => p io' F' H' b) S hq rfl (by simp only [List.map_nil, RelDs])
end
end Ev

set_option Elab.async false
set_option linter.all false
set_option maxRecDepth 100000
set_option autoImplicit false
/-! Ev28: what repr (opReprK) can tell. -/
namespace Ev
open PySem PySem.Spec PyProof.Rows L2
mutual
def shK : D → Bool
  | .non => true
  | .bl _ => true
  | .int i => decide (i.natAbs.log2 < 1920)
  | .str s => PyData.strOk s
  | .tup ds => shKs ds
  | .lst ds => shKs ds
  | .dk ks ds => okK (.dk ks ds) && PyData.showable (pyK (.dk ks ds))
  | .scr _ => false
  | .dt _ _ => false
  | .ref _ => false
def shKs : List D → Bool
  | [] => true
  | d :: ds => shK d && shKs ds
end
mutual
def dpK : D → Nat
  | .tup ds => dpKs ds + 1
  | .lst ds => dpKs ds + 1
  | .dk ks ds => PyData.depth (pyK (.dk ks ds))
  | .non => 0
  | .bl _ => 0
  | .int _ => 0
  | .str _ => 0
  | .scr _ => 0
  | .dt _ _ => 0
  | .ref _ => 0
def dpKs : List D → Nat
  | [] => 0
  | d :: ds => max (dpK d) (dpKs ds)
end
mutual
def szK : D → Nat
  | .non => 4
  | .bl _ => 5
  | .int i => i.natAbs.log2 + 2
  | .str s => 10 * s.length + 2
  | .tup ds => szKs ds + 3
  | .lst ds => szKs ds + 3
  | .dk ks ds => (PyData.shown (pyK (.dk ks ds))).length
  | .scr _ => 0
  | .dt _ _ => 0
  | .ref _ => 0
def szKs : List D → Nat
  | [] => 0
  | d :: ds => szK d + 2 + szKs ds
end
mutual
/-- without dicts -/
def noD : D → Bool
  | .tup ds => noDs ds
  | .lst ds => noDs ds
  | .dk _ _ => false
  | .non => true
  | .bl _ => true
  | .int _ => true
  | .str _ => true
  | .scr _ => false
  | .dt _ _ => false
  | .ref _ => false
def noDs : List D → Bool
  | [] => true
  | d :: ds => noD d && noDs ds
end
mutual
theorem shK_ok : ∀ d : D, shK d = true → okK d = true ∧ PyData.showable (pyK d) = true
  | .non, _ => ⟨rfl, rfl⟩
  | .bl _, _ => ⟨rfl, rfl⟩
  | .int _, h => by simp only [shK] at h; simp only [okK, pyK, PyData.showable]; exact ⟨trivial, h⟩
  | .str _, _ => ⟨rfl, rfl⟩
  | .tup ds, h => by simp only [shK] at h; simp only [okK, pyK, PyData.showable]; exact shKs_ok ds h
  | .lst ds, h => by simp only [shK] at h; simp only [okK, pyK, PyData.showable]; exact shKs_ok ds h
  | .dk ks ds, h => by simp only [shK, Bool.and_eq_true] at h; exact h
  | .scr _, h => by simp only [shK] at h; cases h
  | .dt _ _, h => by simp only [shK] at h; cases h
  | .ref _, h => by simp only [shK] at h; cases h
theorem shKs_ok : ∀ ds : List D, shKs ds = true → okKs ds = true ∧ PyData.showableAll (pyKs ds) = true
  | [], _ => ⟨rfl, rfl⟩
  | d :: ds, h => by
    simp only [shKs, Bool.and_eq_true] at h
    obtain ⟨a, b⟩ := shK_ok d h.1
    obtain ⟨a2, b2⟩ := shKs_ok ds h.2
    simp only [okKs, pyKs, PyData.showableAll, a, b, a2, b2, Bool.and_self, and_self]
end
mutual
theorem dpK_ok : ∀ d : D, PyData.depth (pyK d) ≤ dpK d
  | .non => Nat.le_refl _
  | .bl _ => Nat.le_refl _
  | .int _ => Nat.le_refl _
  | .str _ => Nat.le_refl _
  | .tup ds => by have := dpKs_ok ds; simp only [pyK, PyData.depth, dpK]; omega
  | .lst ds => by have := dpKs_ok ds; simp only [pyK, PyData.depth, dpK]; omega
  | .dk ks ds => by simp only [dpK]; exact Nat.le_refl _
  | .scr _ => Nat.le_refl _
  | .dt _ _ => Nat.le_refl _
  | .ref _ => Nat.le_refl _
theorem dpKs_ok : ∀ ds : List D, PyData.depthAll (pyKs ds) ≤ dpKs ds
  | [] => Nat.le_refl _
  | d :: ds => by
    have := dpK_ok d
    have := dpKs_ok ds
    simp only [pyKs, PyData.depthAll, dpKs]; omega
end
mutual
theorem noD_ok : ∀ d : D, noD d = true → PyData.hasDict (pyK d) = false
  | .non, _ => rfl
  | .bl _, _ => rfl
  | .int _, _ => rfl
  | .str _, _ => rfl
  | .tup ds, h => by simp only [noD] at h; simp only [pyK, PyData.hasDict]; exact noDs_ok ds h
  | .lst ds, h => by simp only [noD] at h; simp only [pyK, PyData.hasDict]; exact noDs_ok ds h
  | .dk _ _, h => by simp only [noD] at h; cases h
  | .scr _, h => by simp only [noD] at h; cases h
  | .dt _ _, h => by simp only [noD] at h; cases h
  | .ref _, h => by simp only [noD] at h; cases h
theorem noDs_ok : ∀ ds : List D, noDs ds = true → PyData.hasDictAll (pyKs ds) = false
  | [], _ => rfl
  | d :: ds, h => by
    simp only [noDs, Bool.and_eq_true] at h
    simp only [pyKs, PyData.hasDictAll, noD_ok d h.1, noDs_ok ds h.2, Bool.or_self]
end
theorem shownKs_len : ∀ ds : List D, (PyData.shownAll (pyKs ds)).length = ds.length
  | [] => by simp only [pyKs, PyData.shownAll, List.length_nil]
  | d :: ds => by simp only [pyKs, PyData.shownAll, List.length_cons, shownKs_len ds]
mutual
theorem szK_ok : ∀ d : D, shK d = true → (PyData.shown (pyK d)).length ≤ szK d
  | .non, _ => by decide
  | .bl b, _ => by cases b <;> decide
  | .int i, _ => by simp only [szK, pyK]; exact strInt_len
  | .str s, h => by
    simp only [shK] at h
    have := shown_sz (d := .str s) (by simp only [plD]; exact h)
    simp only [szD] at this
    simp only [szK]
    exact this
  | .tup ds, h => by
    simp only [shK] at h
    have h1 := tupleText_len_le (PyData.shownAll (pyKs ds))
    have h2 := szKs_ok ds h
    have h3 := shownKs_len ds
    show (PyData.shown (.tuple (pyKs ds))).length ≤ _
    simp only [PyData.shown, szK]
    omega
  | .lst ds, h => by
    simp only [shK] at h
    have h1 := listText_len_le (PyData.shownAll (pyKs ds))
    have h2 := szKs_ok ds h
    have h3 := shownKs_len ds
    show (PyData.shown (.list (pyKs ds))).length ≤ _
    simp only [PyData.shown, szK]
    omega
  | .dk ks ds, h => by simp only [szK]; exact Nat.le_refl _
  | .scr _, h => by simp only [shK] at h; cases h
  | .dt _ _, h => by simp only [shK] at h; cases h
  | .ref _, h => by simp only [shK] at h; cases h
theorem szKs_ok : ∀ ds : List D, shKs ds = true → ((PyData.shownAll (pyKs ds)).map (·.length)).sum + 2 * ds.length ≤ szKs ds
  | [], _ => by simp only [pyKs, PyData.shownAll, szKs, List.map_nil, List.sum_nil, List.length_nil]; omega
  | d :: ds, h => by
    simp only [shKs, Bool.and_eq_true] at h
    have h1 := szK_ok d h.1
    have h2 := szKs_ok ds h.2
    simp only [pyKs, PyData.shownAll, szKs, List.map_cons, List.sum_cons, List.length_cons]
    omega
end
/-- a thing that repr tells; no ref stands in it -/
structure G (k n : Nat) (d : D) : Prop where
  sh : shK d = true
  mx : noL d = true ∨ noD d = true
  dp : dpK d ≤ k
  sz : szK d ≤ n
theorem q_reprK {d : D} {k n : Nat} {m : Mem} {Q : D → Mem → Prop} {XX : XQ} (g : G k n d) (hk : k ≤ 64) (hn : n ≤ 16000000) (h : Q (.str (PyData.shown (pyK d))) m) : wp (Res.of (opReprK [d] m) m) Q XX := by
  obtain ⟨h1, h2⟩ := shK_ok d g.sh
  have h3 := dpK_ok d
  have h4 := szK_ok d g.sh
  have h5 := g.dp
  have h6 := g.sz
  refine wp_of (a := .str (PyData.shown (pyK d))) ?_ h
  unfold opReprK
  dsimp only
  rw [if_pos ⟨h1, g.mx.imp id (noD_ok d), h2, by omega, by rw [sizeLine_eq]; omega⟩]
theorem G.mono {k n k' n' : Nat} {d : D} (g : G k n d) (h1 : k ≤ k') (h2 : n ≤ n') : G k' n' d := ⟨g.sh, g.mx, Nat.le_trans g.dp h1, Nat.le_trans g.sz h2⟩
theorem shKs_all : ∀ {ds : List D}, (∀ d ∈ ds, shK d = true) → shKs ds = true
  | [], _ => rfl
  | d :: ds, h => by simp only [shKs, Bool.and_eq_true]; exact ⟨h d (List.mem_cons_self ..), shKs_all fun x hx => h x (List.mem_cons_of_mem _ hx)⟩
theorem noLs_all : ∀ {ds : List D}, (∀ d ∈ ds, noL d = true) → noLs ds = true
  | [], _ => rfl
  | d :: ds, h => by simp only [noLs, Bool.and_eq_true]; exact ⟨h d (List.mem_cons_self ..), noLs_all fun x hx => h x (List.mem_cons_of_mem _ hx)⟩
theorem noDs_all : ∀ {ds : List D}, (∀ d ∈ ds, noD d = true) → noDs ds = true
  | [], _ => rfl
  | d :: ds, h => by simp only [noDs, Bool.and_eq_true]; exact ⟨h d (List.mem_cons_self ..), noDs_all fun x hx => h x (List.mem_cons_of_mem _ hx)⟩
theorem dpKs_all {k : Nat} : ∀ {ds : List D}, (∀ d ∈ ds, dpK d ≤ k) → dpKs ds ≤ k
  | [], _ => Nat.zero_le _
  | d :: ds, h => by
    have := h d (List.mem_cons_self ..)
    have := dpKs_all (k := k) (ds := ds) fun x hx => h x (List.mem_cons_of_mem _ hx)
    simp only [dpKs]; omega
theorem szKs_all {n : Nat} : ∀ {ds : List D}, (∀ d ∈ ds, szK d ≤ n) → szKs ds ≤ (n + 2) * ds.length
  | [], _ => Nat.zero_le _
  | d :: ds, h => by
    have := h d (List.mem_cons_self ..)
    have := szKs_all (n := n) (ds := ds) fun x hx => h x (List.mem_cons_of_mem _ hx)
    simp only [szKs, List.length_cons, Nat.mul_add]; omega
/-- a thing without parts -/
def Sc (d : D) : Prop := (∃ s : Str, d = .str s ∧ PyData.strOk s = true ∧ s.length ≤ 60) ∨ (∃ i : Int, d = .int i ∧ i.natAbs < 10 ^ 50) ∨ (∃ b, d = .bl b)
theorem Sc.g {d : D} (h : Sc d) : shK d = true ∧ noL d = true ∧ noD d = true ∧ dpK d = 0 ∧ szK d ≤ 602 := by
  rcases h with ⟨s, rfl, h1, h2⟩ | ⟨i, rfl, h⟩ | ⟨b, rfl⟩
  · refine ⟨h1, rfl, rfl, rfl, ?_⟩
    simp only [szK]; omega
  · have hl : i.natAbs.log2 ≤ 170 := log2_lt (n := i.natAbs) (k := 170) (by omega)
    refine ⟨?_, rfl, rfl, rfl, ?_⟩
    · simp only [shK, decide_eq_true_eq]; omega
    · simp only [szK]; omega
  · exact ⟨rfl, rfl, rfl, rfl, by simp only [szK]; omega⟩
theorem G.row {k n : Nat} {a b : List D} {o : D} (ha : ∀ x ∈ a, Sc x) (hb : ∀ x ∈ b, Sc x) (g : G k n o) (hl : a.length + b.length ≤ 6) : G (k + 1) (n + 7000) (.tup (a ++ o :: b)) := by
  have split : ∀ x ∈ a ++ o :: b, Sc x ∨ x = o := fun x hx => by
    rcases List.mem_append.mp hx with h | h
    · exact .inl (ha x h)
    · rcases List.mem_cons.mp h with rfl | h
      · exact .inr rfl
      · exact .inl (hb x h)
  refine ⟨?_, ?_, ?_, ?_⟩
  · simp only [shK]
    refine shKs_all fun x hx => ?_
    rcases split x hx with h | rfl
    · exact h.g.1
    · exact g.sh
  · rcases g.mx with h | h
    · refine .inl ?_
      simp only [noL]
      refine noLs_all fun x hx => ?_
      rcases split x hx with h | rfl
      · exact h.g.2.1
      · exact h
    · refine .inr ?_
      simp only [noD]
      refine noDs_all fun x hx => ?_
      rcases split x hx with h | rfl
      · exact h.g.2.2.1
      · exact h
  · have := dpKs_all (k := k) (ds := a ++ o :: b) fun x hx => by
      rcases split x hx with h | rfl
      · rw [h.g.2.2.2.1]; exact Nat.zero_le _
      · exact g.dp
    simp only [dpK]; omega
  · have h1 := szKs_all (n := 602) (ds := a) fun x hx => (ha x hx).g.2.2.2.2
    have h2 := szKs_all (n := 602) (ds := b) fun x hx => (hb x hx).g.2.2.2.2
    have app : ∀ xs ys : List D, szKs (xs ++ ys) = szKs xs + szKs ys := by
      intro xs ys
      induction xs with
      | nil => simp [szKs]
      | cons x xs ih => simp only [List.cons_append, szKs, ih]; omega
    have := g.sz
    simp only [szK, app, szKs]
    omega
theorem G.flat {ds : List D} (h : ∀ x ∈ ds, Sc x) (hl : ds.length ≤ 6) : G 1 7000 (.tup ds) ∧ G 1 7000 (.lst ds) := by
  have h1 := shKs_all (ds := ds) fun x hx => (h x hx).g.1
  have h2 := noDs_all (ds := ds) fun x hx => (h x hx).g.2.2.1
  have h3 := dpKs_all (k := 0) (ds := ds) fun x hx => by rw [(h x hx).g.2.2.2.1]; exact Nat.zero_le _
  have h4 := szKs_all (n := 602) (ds := ds) fun x hx => (h x hx).g.2.2.2.2
  constructor
  · exact ⟨by simp only [shK]; exact h1, .inr (by simp only [noD]; exact h2), by simp only [dpK]; omega, by simp only [szK]; omega⟩
  · exact ⟨by simp only [shK]; exact h1, .inr (by simp only [noD]; exact h2), by simp only [dpK]; omega, by simp only [szK]; omega⟩
theorem q_strG_s {s : Str} {m : Mem} {Q : D → Mem → Prop} {XX : XQ} (h : Q (.str s) m) : wp (Res.of (opStrG [.str s] m) m) Q XX := h
theorem q_strG_i {i : Int} {m : Mem} {Q : D → Mem → Prop} {XX : XQ} (hi : i.natAbs < 10 ^ 50) (h : Q (.str (numS i)) m) : wp (Res.of (opStrG [.int i] m) m) Q XX := by
  refine wp_of (a := .str (numS i)) ?_ h
  have hl : i.natAbs.log2 ≤ 170 := log2_lt (n := i.natAbs) (k := 170) (by omega)
  unfold opStrG
  dsimp only
  rw [if_pos (by omega)]
  rfl
theorem numS_sc {i : Int} (hi : i.natAbs < 10 ^ 50) : Sc (.str (numS i)) := by
  have dl : ∀ n : Nat, n < 10 ^ 50 → (digs n).length ≤ 50 := fun n hn => digs_len 49 n (by simpa using hn)
  have da : ∀ n : Nat, ∀ c ∈ digs n, c < 128 := fun n c hc => by
    have := digs_all n c hc
    omega
  cases i with
  | ofNat n =>
    have hn : n < 10 ^ 50 := by simpa using hi
    have e := numS_nat n
    refine .inl ⟨_, rfl, ?_, ?_⟩
    · unfold PyData.strOk
      rw [← Array.all_toList]
      show (numS (n : Int)).cps.toList.all _ = true
      rw [e, List.all_eq_true]
      intro c hc
      have := da n c hc
      exact decide_eq_true (by omega)
    · show (numS (n : Int)).length ≤ _
      rw [str_len, e]; have := dl n hn; omega
  | negSucc n =>
    have hn : n + 1 < 10 ^ 50 := by simpa using hi
    have e := numS_neg n
    refine .inl ⟨_, rfl, ?_, ?_⟩
    · unfold PyData.strOk
      rw [← Array.all_toList, e, List.all_eq_true]
      intro c hc
      rcases List.mem_cons.mp hc with rfl | hc
      · rfl
      · have := da _ c hc
        exact decide_eq_true (by omega)
    · rw [str_len, e, List.length_cons]; have := dl _ hn; omega
end Ev

set_option Elab.async false
set_option linter.all false
set_option maxRecDepth 100000
set_option autoImplicit false
/-! Ev29: sorted(set(texts)), len(set(texts)), sorted(dict). -/
namespace Ev
open PySem PySem.Spec PyProof.Rows L2
/-! ### texts in order -/
def ltS (a b : Str) : Bool := decide (a.cps.toList < b.cps.toList)
theorem ltS_irr (a : Str) : ltS a a = false := PyProof.Rows.strKind.irrefl a.cps.toList
theorem ltS_tr {a b c : Str} (h1 : ltS a b = true) (h2 : ltS b c = true) : ltS a c = true := PyProof.Rows.strKind.trans _ _ _ h1 h2
theorem ltS_neg {a b c : Str} (h : ltS a c = true) : ltS a b = true ∨ ltS b c = true := PyProof.Rows.strKind.negTrans _ _ _ h
theorem ltS_tot {a b : Str} (h1 : ltS a b = false) (h2 : ltS b a = false) : a = b := by
  have q := PyProof.Rows.strKind.total _ _ h1 h2
  cases a; cases b
  simp only [Str.mk.injEq]
  exact Array.toList_inj.mp q
def insU (x : Str) : List Str → List Str
  | [] => [x]
  | y :: ys => bif ltS x y then x :: y :: ys else bif ltS y x then y :: insU x ys else y :: ys
/-- in order, each once -/
def srtU : List Str → List Str
  | [] => []
  | x :: xs => insU x (srtU xs)
def Stc (l : List Str) : Prop := l.Pairwise fun a b => ltS a b = true
theorem mem_insU {x z : Str} : ∀ l : List Str, z ∈ insU x l ↔ z = x ∨ z ∈ l
  | [] => by simp [insU]
  | y :: ys => by
    unfold insU
    cases h1 : ltS x y with
    | true => simp
    | false =>
      cases h2 : ltS y x with
      | true =>
        simp only [cond_true, cond_false, List.mem_cons, mem_insU ys]
        constructor
        · rintro (h | h | h)
          · exact .inr (.inl h)
          · exact .inl h
          · exact .inr (.inr h)
        · rintro (h | h | h)
          · exact .inr (.inl h)
          · exact .inl h
          · exact .inr (.inr h)
      | false =>
        have e := ltS_tot h1 h2
        subst e
        simp only [cond_false, List.mem_cons]
        exact ⟨.inr, fun h => h.elim .inl id⟩
theorem mem_srtU {z : Str} : ∀ l : List Str, z ∈ srtU l ↔ z ∈ l
  | [] => Iff.rfl
  | x :: xs => by rw [srtU, mem_insU, mem_srtU xs, List.mem_cons]
theorem stc_insU {x : Str} : ∀ l : List Str, Stc l → Stc (insU x l)
  | [], _ => by simp [insU, Stc]
  | y :: ys, h => by
    obtain ⟨h1, h2⟩ := List.pairwise_cons.mp h
    unfold insU
    cases q1 : ltS x y with
    | true =>
      simp only [cond_true]
      refine List.pairwise_cons.mpr ⟨fun z hz => ?_, h⟩
      rcases List.mem_cons.mp hz with e | hz
      · rw [e]; exact q1
      · exact ltS_tr q1 (h1 z hz)
    | false =>
      cases q2 : ltS y x with
      | true =>
        simp only [cond_true, cond_false]
        refine List.pairwise_cons.mpr ⟨fun z hz => ?_, stc_insU ys h2⟩
        rcases (mem_insU ys).mp hz with e | hz
        · rw [e]; exact q2
        · exact h1 z hz
      | false => exact h
theorem stc_srtU : ∀ l : List Str, Stc (srtU l)
  | [] => List.Pairwise.nil
  | x :: xs => stc_insU _ (stc_srtU xs)
theorem Stc.nodup {l : List Str} (h : Stc l) : l.Nodup := List.Pairwise.imp (fun {a b} q e => by rw [e, ltS_irr] at q; cases q) h
theorem stc_eq : ∀ {l m : List Str}, Stc l → Stc m → (∀ z, z ∈ l ↔ z ∈ m) → l = m
  | [], [], _, _, _ => rfl
  | [], y :: m, _, _, h => by have := (h y).2 List.mem_cons_self; cases this
  | x :: l, [], _, _, h => by have := (h x).1 List.mem_cons_self; cases this
  | x :: l, y :: m, h1, h2, h => by
    obtain ⟨a1, a2⟩ := List.pairwise_cons.mp h1
    obtain ⟨b1, b2⟩ := List.pairwise_cons.mp h2
    have e : x = y := by
      rcases List.mem_cons.mp ((h x).1 List.mem_cons_self) with e | hx
      · exact e
      · rcases List.mem_cons.mp ((h y).2 List.mem_cons_self) with e | hy
        · exact e.symm
        · have q := ltS_tr (a1 y hy) (b1 x hx)
          rw [ltS_irr] at q; cases q
    subst e
    rw [stc_eq a2 b2 fun z => ?_]
    constructor
    · intro hz
      rcases List.mem_cons.mp ((h z).1 (List.mem_cons_of_mem _ hz)) with e | q
      · subst e; have w := a1 z hz; rw [ltS_irr] at w; cases w
      · exact q
    · intro hz
      rcases List.mem_cons.mp ((h z).2 (List.mem_cons_of_mem _ hz)) with e | q
      · subst e; have w := b1 z hz; rw [ltS_irr] at w; cases w
      · exact q
theorem srtU_congr {l m : List Str} (h : ∀ z, z ∈ l ↔ z ∈ m) : srtU l = srtU m :=
  stc_eq (stc_srtU l) (stc_srtU m) fun z => by rw [mem_srtU, mem_srtU]; exact h z
theorem le_of_rising : ∀ (p : Str) (l : List Str), risingS p l = true → (p :: l).Pairwise fun a b => ltS b a = false
  | p, [], _ => by simp
  | p, x :: r, h => by
    have h' : (!Spec.ltCps x.cps.toList p.cps.toList && risingS x r) = true := h
    rw [Bool.and_eq_true, Bool.not_eq_true', ltCps_eq] at h'
    have ih := le_of_rising x r h'.2
    refine List.pairwise_cons.mpr ⟨fun z hz => ?_, ih⟩
    rcases List.mem_cons.mp hz with e | hz
    · rw [e]; exact h'.1
    · cases q : ltS z p with
      | false => rfl
      | true =>
        have a := (List.pairwise_cons.mp ih).1 z hz
        rcases ltS_neg (b := x) q with w | w
        · rw [a] at w; cases w
        · have b : ltS x p = false := h'.1
          rw [b] at w; cases w
theorem stc_of_sorted {l : List Str} (h : sortedS l = true) (nd : l.Nodup) : Stc l := by
  have le : l.Pairwise fun a b => ltS b a = false := by
    cases l with
    | nil => exact List.Pairwise.nil
    | cons x r => exact le_of_rising x r h
  have both := List.Pairwise.and le nd
  refine List.Pairwise.imp (fun {a b} q => ?_) both
  cases w : ltS a b with
  | true => rfl
  | false => exact absurd (ltS_tot w q.1) q.2
theorem srt_of {l m : List Str} (h : sortedS l = true) (nd : l.Nodup) (e : ∀ z, z ∈ l ↔ z ∈ m) : l = srtU m :=
  stc_eq (stc_of_sorted h nd) (stc_srtU m) fun z => by rw [mem_srtU]; exact e z
theorem nodup_srtU (l : List Str) : (srtU l).Nodup := (stc_srtU l).nodup
theorem perm_srtU {l m : List Str} (nd : l.Nodup) (e : ∀ z, z ∈ l ↔ z ∈ m) : l.Perm (srtU m) :=
  (List.perm_ext_iff_of_nodup nd (nodup_srtU m)).2 fun z => by rw [mem_srtU]; exact e z
theorem insU_len (x : Str) : ∀ l : List Str, (insU x l).length ≤ l.length + 1
  | [] => by simp [insU]
  | y :: ys => by
    unfold insU
    have ih := insU_len x ys
    cases ltS x y <;> cases ltS y x <;> simp <;> omega
theorem srtU_len : ∀ l : List Str, (srtU l).length ≤ l.length
  | [] => Nat.le_refl _
  | x :: xs => by
    have a := insU_len x (srtU xs)
    have b := srtU_len xs
    simp only [srtU, List.length_cons]; omega
/-! ### a set of texts (follows the library's set of ints) -/
def skey (e : Int × Value) : Str := match e.2 with | .str k _ => k | _ => Str.empty
def GoodS (w : World) (e : Int × Value) : Prop := ∃ k tk, e.2 = Value.str k tk ∧ e.1 = hashStr w k
def SetRS (w : World) (h : Heap) (a : Addr) (S : Str → Bool) (n : Nat) : Prop :=
  ∃ o es ep t, h.get? a = some o ∧ o.ExactSet ∧ o.data = .set es ep t ∧ (∀ e ∈ es.toList, GoodS w e) ∧ (es.toList.map skey).Nodup ∧ (∀ k, S k = true ↔ k ∈ es.toList.map skey) ∧
    es.size < scanBound ∧ t.fits es.size = true ∧ es.size = n ∧ Ris t.place.toList ∧ (w.params.followText "set-order" = true ∨ t.led = true)
section
variable {P : Program} {w : World} {h h' : Heap} {a : Addr} {S : Str → Bool} {n : Nat}
theorem SetRS.at (R : SetRS w h a S n) (k : ∀ o, h.get? a = some o → h'.get? a = some o) : SetRS w h' a S n := by
  obtain ⟨o, es, ep, t, ho, r⟩ := R
  exact ⟨o, es, ep, t, k o ho, r⟩
theorem SetRS.congr {S' : Str → Bool} (R : SetRS w h a S n) (e : ∀ k, S' k = S k) : SetRS w h a S' n := by
  have q : S' = S := funext e
  rw [q]; exact R
theorem goodS_elems {l : List (Int × Value)} (g : ∀ e ∈ l, GoodS w e) : ElemsOf (PySem.strKind P w) l := fun e he => by
  obtain ⟨k, tk, h1, h2⟩ := g e he
  exact ⟨⟨k, by rw [h1]; exact strKind_is P w k tk, h2⟩, by rw [h1] <;> rfl⟩
theorem goodS_is {e : Int × Value} (g : GoodS w e) (k : Str) : (PySem.strKind P w).is k e.2 = true ↔ skey e = k := by
  obtain ⟨k0, tk, h1, _⟩ := g
  unfold skey
  rw [h1]
  show (Value.isStrOf k (.str k0 tk) = true) ↔ k0 = k
  unfold Value.isStrOf
  exact ⟨fun z => (of_decide_eq_true (by simpa using z)), fun z => by simp [z]⟩
theorem goodS_mem {l : List (Int × Value)} (g : ∀ e ∈ l, GoodS w e) (k : Str) : k ∈ l.map skey ↔ ∃ e ∈ l, (PySem.strKind P w).is k e.2 = true := by
  rw [List.mem_map]
  constructor
  · rintro ⟨e, he, q⟩
    exact ⟨e, he, (goodS_is (g e he) k).2 q⟩
  · rintro ⟨e, he, q⟩
    exact ⟨e, he, (goodS_is (g e he) k).1 q⟩
end
section
variable {P : Program} {w : World} {A : Around} {E : Value → Shared → Prop} {s : Shared} {a : Addr} {S : Str → Bool} {n : Nat}
theorem setRS_tail {g : Bool → Sem Unit} (hg : ∀ (b : Bool) (s₁ : Shared) (Q' : Unit → Shared → Prop), Q' () s₁ → wpAny (model P w) A (g b) Q' E s₁)
    {o : Obj} {es : Array (Int × Value)} {ep : Nat} {t : SetTable} (ho : s.heap.get? a = some o) (hex : o.ExactSet) (hd : o.data = .set es ep t)
    {es1 : Array (Int × Value)} {t2 : SetTable} {S' : Str → Bool} (g1 : ∀ e ∈ es1.toList, GoodS w e) (nd1 : (es1.toList.map skey).Nodup) (m1 : ∀ k, S' k = true ↔ k ∈ es1.toList.map skey)
    (hb1 : es1.size < scanBound) (hf2 : t2.fits es1.size = true) (hr : Ris t2.place.toList) (hl : w.params.followText "set-order" = true ∨ t2.led = true) {wasDummy : Bool} {R : Option Bool → Shared → Prop}
    (hR : ∀ h', Heap.SameBut a s.heap h' → SetRS w h' a S' es1.size → R (some true) { s with heap := h' }) :
    wpAny (model P w) A (do
        storeSet a es1 t2
        if (!wasDummy && t2.tooFull) = true then do
            g (relayAll t2 es1 (SetTable.grown es1.size)).2.2
            storeSet a (relayAll t2 es1 (SetTable.grown es1.size)).1 (relayAll t2 es1 (SetTable.grown es1.size)).2.1
            pure (some true)
          else pure (some true)) R E s := by
  refine wpAny_bind (wpAny_storeSet_of ho hd ?_ (fits_of_scanBound hb1))
  have ho1 := store_at (es' := es1) (t' := t2) ho hd
  have sb1 := Heap.SameBut.update s.heap a (Obj.putSet es1 t2)
  split
  · have pm := relayAll_perm t2 es1 (SetTable.grown es1.size)
    have hf3 := relayAll_fits t2 es1 (SetTable.grown es1.size)
    have hr3 := relayAll_ris t2 es1 (SetTable.grown es1.size)
    have hl3 := relayAll_led t2 es1 (SetTable.grown es1.size)
    generalize relayAll t2 es1 (SetTable.grown es1.size) = Z at pm hf3 hr3 hl3 ⊢
    obtain ⟨es2, t3, gave⟩ := Z
    dsimp only at pm hf3 hr3 hl3 ⊢
    have hsz : es2.size = es1.size := by rw [← Array.length_toList, pm.length_eq, Array.length_toList]
    have hb2 : es2.size < scanBound := by rw [hsz]; exact hb1
    refine wpAny_bind (hg _ _ _ ?_)
    refine wpAny_bind (wpAny_storeSet_of ho1 rfl ?_ (fits_of_scanBound hb2))
    have ho2 := store_at (es' := es2) (t' := t3) ho1 rfl
    refine wpAny_pure (hR _ (sb1.trans (Heap.SameBut.update _ a _)) ?_)
    exact ⟨_, es2, _, t3, ho2, hex, rfl, fun e he => g1 e (pm.mem_iff.mp he), (pm.map skey).nodup_iff.mpr nd1, fun k => (m1 k).trans (pm.map skey).mem_iff.symm, hb2, hf3, hsz, hr3,
      hl.imp id fun z => by rw [hl3]; exact z⟩
  · exact wpAny_pure (hR _ sb1 ⟨_, es1, _, t2, ho1, hex, rfl, g1, nd1, m1, hb1, hf2, rfl, hr, hl⟩)
theorem setRS_add {k : Str} {tk : Tok} {Q : Bool → Shared → Prop} (R : SetRS w s.heap a S n) (room : n + 1 < scanBound)
    (hQ : ∀ h', Heap.SameBut a s.heap h' → SetRS w h' a (fun j => S j || decide (j = k)) (if S k = true then n else n + 1) → Q (!S k) { s with heap := h' }) :
    wpAny (model P w) A (setAddHashed a (.str k tk) ((PySem.strKind P w).hash k)) Q E s := by
  obtain ⟨o, es, ep, t, ho, hex, hd, g, nd, hm, hb, hf, hn, hr, hl⟩ := R
  have hkey : (PySem.strKind P w).is k (.str k tk) = true := strKind_is P w k tk
  have hsc : (Value.str k tk).scannable = true := rfl
  have hel : ElemsOf (PySem.strKind P w) es.toList := goodS_elems g
  unfold setAddHashed setAddHashedIn
  refine wpAny_holding (wpAny_bind (wpAny_setState_of ho hd hf ?_))
  dsimp only
  rw [byScan_of hsc hb hel]
  simp only [↓reduceIte]
  unfold setAddByScan
  refine wpAny_bind ?_
  refine wpAny_bind (wpAny_rule ?_)
  refine wpAny_bind (wpAny_setScan_of hkey ho hd hf hel ?_)
  cases hfi : List.findIdx? (fun e => (PySem.strKind P w).is k e.2) es.toList with
  | some j =>
    dsimp only
    obtain ⟨hj, pj, _⟩ := List.findIdx?_eq_some_iff_getElem.mp hfi
    have hSk : S k = true := (hm k).2 ((goodS_mem (P := P) (w := w) g k).2 ⟨es.toList[j], List.getElem_mem hj, pj⟩)
    refine wpAny_pure (wpAny_pure ?_)
    have q := hQ s.heap (Heap.SameBut.refl a s.heap) ⟨o, es, ep, t, ho, hex, hd, g, nd, fun i => by
      rw [Bool.or_eq_true, decide_eq_true_eq, ← hm i]
      exact ⟨fun z => z.elim id (fun e => e ▸ hSk), .inl⟩, hb, hf, by rw [if_pos hSk]; exact hn, hr, hl⟩
    rw [hSk] at q
    exact q
  | none =>
    dsimp only
    have hnk : k ∉ es.toList.map skey := fun z => by
      obtain ⟨e, he, q⟩ := (goodS_mem (P := P) (w := w) g k).1 z
      have c := List.findIdx?_eq_none_iff.mp hfi e he
      rw [q] at c
      cases c
    have hSk : S k = false := by
      cases q : S k with
      | false => rfl
      | true => exact absurd ((hm k).1 q) hnk
    have hgw : ∀ (b : Bool) {s₁ : Shared} {Q' : Unit → Shared → Prop}, Q' () s₁ → wpAny (model P w) A (match b with | true => rule "set.scan.the-table-gave-way" | false => pure ()) Q' E s₁ :=
      fun b s₁ Q' q => by cases b <;> first | exact wpAny_pure q | exact wpAny_rule q
    have pm := layNew_perm t es ((PySem.strKind P w).hash k) (.str k tk)
    have hf1 := layNew_fits t es ((PySem.strKind P w).hash k) (.str k tk)
    have hr1 := layNew_ris t es ((PySem.strKind P w).hash k) (.str k tk) hr
    have hl1 := layNew_led t es ((PySem.strKind P w).hash k) (.str k tk)
    generalize layNew t es ((PySem.strKind P w).hash k) (.str k tk) = Z at pm hf1 hr1 hl1 ⊢
    obtain ⟨es1, t1, wasDummy, gave⟩ := Z
    dsimp only at pm hf1 hr1 hl1 ⊢
    rw [Array.toList_push] at pm
    have pc : es1.toList.Perm (((PySem.strKind P w).hash k, Value.str k tk) :: es.toList) := pm.trans (List.perm_append_singleton _ _)
    have pk : (es1.toList.map skey).Perm (k :: es.toList.map skey) := pc.map skey
    have g1 : ∀ e ∈ es1.toList, GoodS w e := fun e he => by
      rcases List.mem_cons.mp (pc.mem_iff.mp he) with z | z
      · rw [z]; exact ⟨k, tk, rfl, rfl⟩
      · exact g e z
    have nd1 : (es1.toList.map skey).Nodup := pk.nodup_iff.mpr (List.nodup_cons.mpr ⟨hnk, nd⟩)
    have m1 : ∀ i, (S i || decide (i = k)) = true ↔ i ∈ es1.toList.map skey := fun i => by
      rw [Bool.or_eq_true, decide_eq_true_eq, hm i, pk.mem_iff, List.mem_cons]
      exact Or.comm
    have hsz : es1.size = n + 1 := by rw [← Array.length_toList, pc.length_eq, List.length_cons, Array.length_toList, hn]
    have hb1 : es1.size < scanBound := by rw [hsz]; exact room
    have hled : w.params.followText "set-order" = true ∨ t1.led = true := hl.imp id fun z => by rw [hl1]; exact z
    have fin : ∀ h', Heap.SameBut a s.heap h' → SetRS w h' a (fun j => S j || decide (j = k)) es1.size → Q true { s with heap := h' } := fun h' sb r => by
      have q := hQ h' sb
      rw [hSk] at q
      rw [hsz] at r
      exact q r
    refine wpAny_bind (hgw _ ?_)
    split
    · refine wpAny_bind ?_
      rw [hashByValue_scannable 8 hsc]
      refine wpAny_pure ?_
      refine setRS_tail ?_ ho hex hd g1 nd1 m1 hb1 ?_ ?_ ?_ ?_
      · intro b s₁ Q' q; cases b <;> first | exact wpAny_pure q | exact wpAny_rule q
      · first | (split <;> first | exact hf1 | exact SetTable.fits_plain_off hf1) | exact hf1
      · first | (split <;> exact hr1) | exact hr1
      · first | (split <;> exact hled) | exact hled
      · intro h' sb r; dsimp only; exact wpAny_pure (fin h' sb r)
    · refine wpAny_bind (wpAny_pure ?_)
      simp only [↓reduceIte]
      refine setRS_tail ?_ ho hex hd g1 nd1 m1 hb1 hf1 hr1 hled ?_
      · intro b s₁ Q' q; cases b <;> first | exact wpAny_pure q | exact wpAny_rule q
      · intro h' sb r; dsimp only; exact wpAny_pure (fin h' sb r)
theorem setRS_fresh {h : Heap} (w : World) : SetRS w (h.push { cls := .type "set", dict := none, data := .set #[] 0 (.fresh 0 0 (!w.params.followText "set-order")) }) h.objs.size (fun k => decide (k ∈ ([] : List Str))) 0 :=
  ⟨_, #[], 0, _, Heap.get?_push_size _ rfl, ⟨rfl, rfl, rfl⟩, rfl, (fun e he => by simp at he), (by simp), (fun k => by simp), (by decide), (by rfl), rfl, List.Pairwise.nil, by
    show _ ∨ (!w.params.followText "set-order") = true
    cases w.params.followText "set-order"
    · exact .inr rfl
    · exact .inl rfl⟩
theorem set_new1 (x : Value) {Q₁ : Value → Shared → Prop}
    (h : Q₁ (.ref s.heap.objs.size) { s with heap := s.heap.push { cls := .type "set", dict := none, data := .set #[] 0 (.fresh 0 0 (!w.params.followText "set-order")) } }) :
    codeAny (model P w) A (.call (.builtin "set.__new__") ⟨[.type "set", x], []⟩) (wants Q₁ E) s := by
  refine codeAny_of_tree ?_
  show wpAny _ A.in1 (do checkBuiltinCall "set.__new__" ⟨[.type "set", x], []⟩; again (.builtin "set.__new__" ⟨[.type "set", x], []⟩)) _ _ s
  refine wpAny_bind (wpAny_of_eq (PySem.F.newCall_set_1 x) (wpAny_pure ⟨plainId_quiet PySem.F.plain_set_new _, codeAny_builtin PySem.F.entry_set_new ?_⟩))
  rw [Around.under_plainId PySem.F.plain_set_new _]
  unfold Builtin.«set.__new__» Builtin.Frozenset.newClass
  have hsub := sub_set_self
  obtain ⟨hp, g, d, tk, os⟩ := s
  dsimp only
  wp_walk
  refine wpAny_askSetting (wpAny_pure ?_)
  dsimp only
  simp only [newObj]
  refine wpAny_bind (wpAny_alloc (wpAny_pure ?_))
  exact wpAny_pure h
end
section
variable {prog : Program} {w : World} {A : Around} {R : Result → Shared → Prop} {I : Addr} {fp wr : List Addr} {G : Array GenState → Array GenState → Prop} {n : Nat} {P : Nat → Value → Prop} {St : Nat → Shared → Prop}
theorem take_more {xs : List Str} {i : Nat} (h : i < xs.length) (k : Str) : (decide (k ∈ xs.take i) || decide (k = xs.getD i Str.empty)) = decide (k ∈ xs.take (i + 1)) := by
  have e : xs.take (i + 1) = xs.take i ++ [xs.getD i Str.empty] := by
    rw [List.take_add_one]; simp [List.getD_eq_getElem?_getD, List.getElem?_eq_getElem h]
  rw [e, ← Bool.decide_or]
  exact decide_eq_decide.mpr (by rw [List.mem_append, List.mem_singleton])
theorem loopRS (W : WalksS prog w A.in1 I fp wr G n P St) (S : Addr) (hSf : S ∉ fp) (xs : List Str) (hsz : xs.length = n) (hb : n + 1 < scanBound)
    (hval : ∀ i v, P i v → ∃ t, v = .str (xs.getD i Str.empty) t) :
    ∀ (k i : Nat) (s : Shared), n - i = k → i ≤ n → St i s →
      (∃ c, c ≤ i ∧ SetRS w s.heap S (fun k' => decide (k' ∈ xs.take i)) c) →
      (∀ s', Moved (S :: wr) G s s' → (∃ c, SetRS w s'.heap S (fun k' => decide (k' ∈ xs)) c) → R (.ok (.ret .none)) s') →
      codeAny (model prog w) A (.builtin "set.update.loop" ⟨[.ref S, .ref I], []⟩) R s := by
  have hSw : S ∉ wr := fun h => hSf (W.sub _ h)
  have hsub : ∀ b ∈ wr, b ∈ S :: wr := fun b hb => List.mem_cons_of_mem _ hb
  intro k
  induction k with
  | zero =>
    intro i s hk hi hst hS hR
    have hin : i = n := by omega
    subst hin
    refine codeAny_builtin PyProof.Rows.F.entry_set_update_loop ?_
    rw [Around.under_plainId PyProof.Rows.F.plain_set_update_loop _]
    show wpAny _ A.in1 (pyNext (.ref I) >>= _) _ _ s
    refine wpAny_bind (W.done s _ _ hst fun s' hm => ?_)
    show wpAny _ A.in1 (ret Value.none) _ _ s'
    refine wpAny_pure (hR s' (hm.mono hsub) ?_)
    obtain ⟨c, hc, r⟩ := hS
    rw [← hsz, List.take_length] at r
    exact ⟨c, r.at fun o e => hm.heap S _ hSw e⟩
  | succ k ih =>
    intro i s hk hi hst hS hR
    have hlt : i < n := by omega
    refine codeAny_builtin PyProof.Rows.F.entry_set_update_loop ?_
    rw [Around.under_plainId PyProof.Rows.F.plain_set_update_loop _]
    show wpAny _ A.in1 (pyNext (.ref I) >>= _) _ _ s
    refine wpAny_bind (W.item i s _ _ hlt hst fun v s' hP hst' hm => ?_)
    obtain ⟨t, rfl⟩ := hval i v hP
    obtain ⟨c, hc, r⟩ := hS
    have hS' : SetRS w s'.heap S (fun k' => decide (k' ∈ xs.take i)) c := r.at fun o e => hm.heap S _ hSw e
    show wpAny _ A.in1 (holding [Value.str (xs.getD i Str.empty) t] (setAdd S (.str (xs.getD i Str.empty) t)) >>= _) _ _ s'
    refine wpAny_bind (wpAny_holding ?_)
    unfold setAdd
    refine wpAny_holding ?_
    refine wpAny_bind ((PySem.strKind prog w).pyHash (k := xs.getD i Str.empty) (strKind_is _ _ _ _) ?_)
    refine setRS_add (s := { s' with toks := s'.toks + 1 }) hS' (by omega) fun h' hsb hS2 => ?_
    have hSi : SetRS w h' S (fun k' => decide (k' ∈ xs.take (i + 1))) _ := hS2.congr fun k' => (take_more (by rw [hsz]; exact hlt) k').symm
    refine wpAny_pure ⟨plainId_quiet PyProof.Rows.F.plain_set_update_loop _, ih (i + 1) _ (by omega) hlt (W.frame _ s' _ _ hst' (Nat.le_succ _) fun b hb o e => ?_) ⟨_, by split <;> omega, hSi⟩ fun s'' hm'' hS'' => ?_⟩
    · rw [hsb.2 b (fun h : b = S => hSf (by rw [← h]; exact hb))]; exact e
    · refine hR s'' (Moved.trans W.gtrans ((hm.mono hsub).then_heap (Nat.le_succ _) fun b o hb e => ?_) hm'') hS''
      rw [hsb.2 b (fun h : b = S => hb (by rw [h]; exact List.mem_cons_self))]; exact e
end
section
variable {prog : Program} {w : World} {A : Around} {E : Value → Shared → Prop} {s : Shared}

set_option maxHeartbeats 3200000 in
theorem set_of_list {l : Addr} {items : Array Value} {xs : List Str} {Q : Value → Shared → Prop}
    (hh : A.handled = none) (hl : s.heap.IsList l items) (hi : PyProof.Rows.StrsAre items.toList xs) (hb : items.size + 1 < scanBound)
    (h : ∀ (h' : Heap) (tk : Nat), (∃ c, SetRS w h' s.heap.objs.size (fun k' => decide (k' ∈ xs)) c) →
      (∀ b o, b < s.heap.objs.size → s.heap.get? b = some o → h'.get? b = some o) → Q (.ref s.heap.objs.size) { s with heap := h', toks := tk }) :
    wpAny (model prog w) A (call (.type "set") [.ref l]) Q E s := by
  obtain ⟨c, tl, hmro⟩ := PySem.F.called_set.mro
  have hmade := PySem.F.called_set.made
  have hsub := PySem.F.called_set.sub
  refine wpAny_call (codeAny_of_tree ?_)
  show wpAny _ _ (callAny (.type "set") _) _ _ _
  refine wpAny_pure ⟨Code.quiet_builtin _ (by decide +kernel), codeAny_builtin PySem.F.entry_type_call ?_⟩
  rw [Around.under_plain (weight_type_call_type "set" [.ref l] []) rfl]
  have h1 := PySem.F.called_set.notType
  have h2 := PySem.F.called_set.canCreate
  have hct := PySem.F.typeCall_set_1 (.ref l)
  repeat (any_goals (first | assumption | wp_step))
  refine codeAny_mono (set_new1 (.ref l) (E := E) (Q₁ := fun obj s₁ => obj = .ref s.heap.objs.size ∧ s₁ = { s with heap := s.heap.push { cls := .type "set", dict := none, data := .set #[] 0 (.fresh 0 0 (!w.params.followText "set-order")) } }) ⟨rfl, rfl⟩) fun r s₁ hr => ?_
  cases r with
  | error e => exact hr
  | ok fl =>
    cases fl with
    | ret obj =>
      obtain ⟨rfl, rfl⟩ := hr
      have hRS0 := setRS_fresh (h := s.heap) w
      generalize (!w.params.followText "set-order") = led at hRS0 ⊢
      have hS : (s.heap.push { cls := .type "set", dict := none, data := .set #[] 0 (.fresh 0 0 led) }).get? s.heap.objs.size = some { cls := .type "set", dict := none, data := .set #[] 0 (.fresh 0 0 led) } := Heap.get?_push_size _ rfl
      have hT : Shared.TypeIs { s with heap := s.heap.push { cls := .type "set", dict := none, data := .set #[] 0 (.fresh 0 0 led) } } (.ref s.heap.objs.size) "set" := ⟨_, hS, rfl⟩
      have hli := PySem.F.called_set.init.lookup
      have hbi := PySem.F.called_set.init.bind (.ref s.heap.objs.size)
      repeat (any_goals (first | assumption | wp_step))
      refine codeAny_mono (codeAny_call_builtin (R := wants (fun r s₂ => r = .none ∧ ∃ h' tk, s₂ = { s with heap := h', toks := tk } ∧
          (∃ c, SetRS w h' s.heap.objs.size (fun k' => decide (k' ∈ xs)) c) ∧
          (∀ b o, b < s.heap.objs.size → s.heap.get? b = some o → h'.get? b = some o)) E) PySem.F.called_set.init.plain PySem.F.entry_set_init (check_set_init_1 hT ?_)) fun r₂ s₂ hr₂ => ?_
      · obtain ⟨ol, hol, hcl, nl, hdl⟩ := hl
        obtain ⟨ocls, odict, odata, oslots⟩ := ol
        simp only at hcl hdl
        subst hcl; subst hdl
        have hol' : (s.heap.push { cls := .type "set", dict := none, data := .set #[] 0 (.fresh 0 0 led) }).get? l = some { cls := .type "list", dict := odict, data := .seq items nl, slots := oslots } := Heap.get?_push_of_some _ hol
        have hsls := PySem.F.sub_list_set
        have hslf := PySem.F.sub_list_frozenset
        have hne : (Value.type "list" == Value.type "dict") = false := by decide
        have hl1 : (s.heap.push { cls := .type "set", dict := none, data := .set #[] 0 (.fresh 0 0 led) }).IsList l items := ⟨_, hol', rfl, nl, rfl⟩
        unfold Builtin.«set.__init__» noKeywords Builtin.Frozenset.updateFrom
        generalize hPI : pyIter = PI
        wp_walk
        subst hPI
        refine wpAny_pyIter_list hl1 ?_
        refine wpAny_bind (wpAny_runValue ?_)
        have hlS : l < s.heap.objs.size := Heap.lt_size hol
        have hh3 : A.in1.in1.in1.handled = none := by simp [hh]
        have hneI : l ≠ (s.heap.push { cls := .type "set", dict := none, data := .set #[] 0 (.fresh 0 0 led) }).objs.size := by
          rw [Heap.size_push]; exact Nat.ne_of_lt (Nat.lt_succ_of_lt hlS)
        have hSf : s.heap.objs.size ∉ [(s.heap.push { cls := .type "set", dict := none, data := .set #[] 0 (.fresh 0 0 led) }).objs.size, l] := by
          rw [Heap.size_push]; simp only [List.mem_cons, List.mem_singleton, List.not_mem_nil, or_false, not_or]
          exact ⟨Nat.ne_of_lt (Nat.lt_succ_self _), Nat.ne_of_gt hlS⟩
        have hsz : xs.length = items.size := by rw [← StrsAre.len_eq hi, Array.length_toList]
        have hval : ∀ (i : Nat) (v : Value), items[i]? = some v → ∃ t, v = .str (xs.getD i Str.empty) t := fun i v hv => SS.strs_at hi i v (by rw [Array.getElem?_toList]; exact hv)
        refine loopRS ((Walks.list hh3 _ l hneI items).toS) s.heap.objs.size
          hSf xs hsz hb hval (items.size - 0) 0 _ (by omega) (Nat.zero_le _)
          ⟨⟨_, Heap.get?_push_size _ rfl, rfl, rfl⟩, (hl1.push _)⟩ ?hS0 ?hR
        case hS0 =>
          exact ⟨0, Nat.le_refl _, hRS0.at fun o e => Heap.get?_push_of_some _ e⟩
        case hR =>
          intro s' hm hS'
          obtain ⟨h', g', d', tk', os'⟩ := s'
          have eg : g' = s.gens := hm.gens
          have ed : d' = s.drawn := hm.drawn
          have eo : os' = s.os := hm.os
          subst eg; subst ed; subst eo
          show wpAny _ _ _ _ _ _
          refine wpAny_pure ?_
          show wpAny _ _ (ret Value.none) _ _ _
          refine wpAny_pure ⟨rfl, h', tk', rfl, hS', fun b o hb e => ?_⟩
          have hb1 : b ≠ s.heap.objs.size := Nat.ne_of_lt hb
          have hb2 : b ≠ (s.heap.push { cls := .type "set", dict := none, data := .set #[] 0 (.fresh 0 0 led) }).objs.size := by
            rw [Heap.size_push]; exact Nat.ne_of_lt (Nat.lt_succ_of_lt hb)
          exact hm.heap b o (by simp only [List.mem_cons, List.mem_singleton, List.not_mem_nil, or_false, not_or]; exact ⟨hb1, hb2⟩) (Heap.get?_push_of_some _ (Heap.get?_push_of_some _ e))
      · cases r₂ with
        | error e => exact hr₂
        | ok fl₂ =>
          cases fl₂ with
          | ret r =>
            obtain ⟨rfl, h', tk, rfl, hS', hk'⟩ := hr₂
            repeat (any_goals (first | assumption | wp_step))
            exact h _ _ hS' hk'
          | _ => exact hr₂.elim
    | _ => exact hr.elim

set_option maxHeartbeats 3200000 in
theorem set_of_tuple {l : Addr} {items : Array Value} {xs : List Str} {Q : Value → Shared → Prop}
    (hh : A.handled = none) (hl : s.heap.IsTuple l items) (hi : PyProof.Rows.StrsAre items.toList xs) (hb : items.size + 1 < scanBound)
    (h : ∀ (h' : Heap) (tk : Nat), (∃ c, SetRS w h' s.heap.objs.size (fun k' => decide (k' ∈ xs)) c) →
      (∀ b o, b < s.heap.objs.size → s.heap.get? b = some o → h'.get? b = some o) → Q (.ref s.heap.objs.size) { s with heap := h', toks := tk }) :
    wpAny (model prog w) A (call (.type "set") [.ref l]) Q E s := by
  obtain ⟨c, tl, hmro⟩ := PySem.F.called_set.mro
  have hmade := PySem.F.called_set.made
  have hsub := PySem.F.called_set.sub
  refine wpAny_call (codeAny_of_tree ?_)
  show wpAny _ _ (callAny (.type "set") _) _ _ _
  refine wpAny_pure ⟨Code.quiet_builtin _ (by decide +kernel), codeAny_builtin PySem.F.entry_type_call ?_⟩
  rw [Around.under_plain (weight_type_call_type "set" [.ref l] []) rfl]
  have h1 := PySem.F.called_set.notType
  have h2 := PySem.F.called_set.canCreate
  have hct := PySem.F.typeCall_set_1 (.ref l)
  repeat (any_goals (first | assumption | wp_step))
  refine codeAny_mono (set_new1 (.ref l) (E := E) (Q₁ := fun obj s₁ => obj = .ref s.heap.objs.size ∧ s₁ = { s with heap := s.heap.push { cls := .type "set", dict := none, data := .set #[] 0 (.fresh 0 0 (!w.params.followText "set-order")) } }) ⟨rfl, rfl⟩) fun r s₁ hr => ?_
  cases r with
  | error e => exact hr
  | ok fl =>
    cases fl with
    | ret obj =>
      obtain ⟨rfl, rfl⟩ := hr
      have hRS0 := setRS_fresh (h := s.heap) w
      generalize (!w.params.followText "set-order") = led at hRS0 ⊢
      have hS : (s.heap.push { cls := .type "set", dict := none, data := .set #[] 0 (.fresh 0 0 led) }).get? s.heap.objs.size = some { cls := .type "set", dict := none, data := .set #[] 0 (.fresh 0 0 led) } := Heap.get?_push_size _ rfl
      have hT : Shared.TypeIs { s with heap := s.heap.push { cls := .type "set", dict := none, data := .set #[] 0 (.fresh 0 0 led) } } (.ref s.heap.objs.size) "set" := ⟨_, hS, rfl⟩
      have hli := PySem.F.called_set.init.lookup
      have hbi := PySem.F.called_set.init.bind (.ref s.heap.objs.size)
      repeat (any_goals (first | assumption | wp_step))
      refine codeAny_mono (codeAny_call_builtin (R := wants (fun r s₂ => r = .none ∧ ∃ h' tk, s₂ = { s with heap := h', toks := tk } ∧
          (∃ c, SetRS w h' s.heap.objs.size (fun k' => decide (k' ∈ xs)) c) ∧
          (∀ b o, b < s.heap.objs.size → s.heap.get? b = some o → h'.get? b = some o)) E) PySem.F.called_set.init.plain PySem.F.entry_set_init (check_set_init_1 hT ?_)) fun r₂ s₂ hr₂ => ?_
      · obtain ⟨ol, hol, hcl, nl, hdl⟩ := hl
        obtain ⟨ocls, odict, odata, oslots⟩ := ol
        simp only at hcl hdl
        subst hcl; subst hdl
        have hol' : (s.heap.push { cls := .type "set", dict := none, data := .set #[] 0 (.fresh 0 0 led) }).get? l = some { cls := .type "tuple", dict := odict, data := .seq items nl, slots := oslots } := Heap.get?_push_of_some _ hol
        have hsls := PySem.F.sub_tuple_set
        have hslf := PySem.F.sub_tuple_frozenset
        have hne : (Value.type "tuple" == Value.type "dict") = false := by decide
        have hl1 : (s.heap.push { cls := .type "set", dict := none, data := .set #[] 0 (.fresh 0 0 led) }).IsTuple l items := ⟨_, hol', rfl, nl, rfl⟩
        unfold Builtin.«set.__init__» noKeywords Builtin.Frozenset.updateFrom
        generalize hPI : pyIter = PI
        wp_walk
        subst hPI
        refine wpAny_pyIter_tuple hl1 ?_
        refine wpAny_bind (wpAny_runValue ?_)
        have hlS : l < s.heap.objs.size := Heap.lt_size hol
        have hh3 : A.in1.in1.in1.handled = none := by simp [hh]
        have hneI : l ≠ (s.heap.push { cls := .type "set", dict := none, data := .set #[] 0 (.fresh 0 0 led) }).objs.size := by
          rw [Heap.size_push]; exact Nat.ne_of_lt (Nat.lt_succ_of_lt hlS)
        have hSf : s.heap.objs.size ∉ [(s.heap.push { cls := .type "set", dict := none, data := .set #[] 0 (.fresh 0 0 led) }).objs.size, l] := by
          rw [Heap.size_push]; simp only [List.mem_cons, List.mem_singleton, List.not_mem_nil, or_false, not_or]
          exact ⟨Nat.ne_of_lt (Nat.lt_succ_self _), Nat.ne_of_gt hlS⟩
        have hsz : xs.length = items.size := by rw [← StrsAre.len_eq hi, Array.length_toList]
        have hval : ∀ (i : Nat) (v : Value), items[i]? = some v → ∃ t, v = .str (xs.getD i Str.empty) t := fun i v hv => SS.strs_at hi i v (by rw [Array.getElem?_toList]; exact hv)
        refine loopRS ((Walks.tuple hh3 _ l hneI items).toS) s.heap.objs.size
          hSf xs hsz hb hval (items.size - 0) 0 _ (by omega) (Nat.zero_le _)
          ⟨⟨_, Heap.get?_push_size _ rfl, rfl, rfl⟩, (hl1.push _)⟩ ?hS0 ?hR
        case hS0 =>
          exact ⟨0, Nat.le_refl _, hRS0.at fun o e => Heap.get?_push_of_some _ e⟩
        case hR =>
          intro s' hm hS'
          obtain ⟨h', g', d', tk', os'⟩ := s'
          have eg : g' = s.gens := hm.gens
          have ed : d' = s.drawn := hm.drawn
          have eo : os' = s.os := hm.os
          subst eg; subst ed; subst eo
          show wpAny _ _ _ _ _ _
          refine wpAny_pure ?_
          show wpAny _ _ (ret Value.none) _ _ _
          refine wpAny_pure ⟨rfl, h', tk', rfl, hS', fun b o hb e => ?_⟩
          have hb1 : b ≠ s.heap.objs.size := Nat.ne_of_lt hb
          have hb2 : b ≠ (s.heap.push { cls := .type "set", dict := none, data := .set #[] 0 (.fresh 0 0 led) }).objs.size := by
            rw [Heap.size_push]; exact Nat.ne_of_lt (Nat.lt_succ_of_lt hb)
          exact hm.heap b o (by simp only [List.mem_cons, List.mem_singleton, List.not_mem_nil, or_false, not_or]; exact ⟨hb1, hb2⟩) (Heap.get?_push_of_some _ (Heap.get?_push_of_some _ e))
      · cases r₂ with
        | error e => exact hr₂
        | ok fl₂ =>
          cases fl₂ with
          | ret r =>
            obtain ⟨rfl, h', tk, rfl, hS', hk'⟩ := hr₂
            repeat (any_goals (first | assumption | wp_step))
            exact h _ _ hS' hk'
          | _ => exact hr₂.elim
    | _ => exact hr.elim
theorem sorted_rs {P : Program} {a : Addr} {S : Str → Bool} {n : Nat} {Q : Value → Shared → Prop} (R : SetRS w s.heap a S n) (hh : A.handled = none)
    (hQ : ∀ s' p (out : Array Value) (c : Nat) (ss : List Str), (∀ b o, s.heap.get? b = some o → s'.heap.get? b = some o) → s'.gens = s.gens → s'.os = s.os → s.heap.objs.size ≤ p →
      s'.heap.get? p = some (seqObj "list" out c) → StrsAre out.toList ss → Stc ss → (∀ k, k ∈ ss ↔ S k = true) → ss.length ≤ sizeLine → Q (.ref p) s') :
    wpAny (model P w) A (call (.builtin "sorted") [.ref a]) Q E s := by
  obtain ⟨o, es, ep, t, ho, hex, hd, g, nd, hm, hb, hf, hn, hr, hl⟩ := R
  refine Calls.call_function_entry kind_sorted plain_sorted entry_sorted (args_sorted1 _) ?_
  unfold Builtin.«sorted»
  refine wpAny_bind (m := checkCount "sorted" 1 1 _) (wpAny_pure ?_)
  refine wpAny_bind (collect_set (A := A.in1) hh ⟨o, ho, hex.1, hd⟩ hf hb hr hl fun s1 vs k1 hz g1 o1 pm => ?_)
  have hvl : vs.length = es.size := by rw [pm.length_eq, List.length_map, Array.length_toList]
  have hI : StrsAre vs (vs.map strOf) := strsAre_map vs fun v hv => by
    obtain ⟨e, he, q⟩ := List.mem_map.mp (pm.mem_iff.mp hv)
    obtain ⟨k, tk, h1, _⟩ := g e he
    exact ⟨k, tk, by rw [← q]; exact h1⟩
  have pk : (vs.map strOf).Perm (es.toList.map skey) := by
    have q := pm.map strOf
    rw [List.map_map] at q
    refine q.trans (List.Perm.of_eq (List.map_congr_left fun e he => ?_))
    obtain ⟨k, tk, h1, _⟩ := g e he
    unfold skey
    rw [Function.comp, h1]; rfl
  have hvs : vs.length ≤ sizeLine := by rw [hvl]; exact fits_of_scanBound hb
  refine wpAny_bind (wpAny_newList ?_ hvs)
  have hoL : (s1.heap.push (seqObj "list" vs.toArray 0)).get? s1.heap.objs.size = some (seqObj "list" vs.toArray 0) := Heap.get?_push_size _ rfl
  refine wpAny_bind (wpAny_holding (wpAny_call_entry slot_list_sort ⟨_, hoL, rfl⟩ entry_list_sort (list_sort_treeKAny strKind_oneLt hoL hI.keysOf (fun v₁ v₂ rest e => keyKind_strs (by rw [← e]; exact hI)) hvs fun st' hp hs => ⟨_, rfl, ?_⟩) (args_list_sort _)))
  obtain ⟨ss', a1, a2, a3⟩ := sorted_out_str hI hp hs
  obtain ⟨c, hc⟩ := sortedHeap_at (vs := vs) (out := (arrOf st').map (·.2)) hoL
  have pn : ss'.Perm (es.toList.map skey) := a2.trans pk
  refine wpAny_pure ⟨_, rfl, hQ _ s1.heap.objs.size _ c ss' (fun b u e => ?_) g1 o1 hz hc a1 (stc_of_sorted a3 (pn.nodup_iff.mpr nd)) (fun k => by rw [pn.mem_iff, ← hm k]) (by rw [a2.length_eq, List.length_map]; exact hvs)⟩
  have q := k1 b u e
  have hlt := Heap.lt_size q
  show (sortedHeap (s1.heap.push (seqObj "list" vs.toArray 0)) s1.heap.objs.size vs _).get? b = some u
  rw [sortedHeap_old (Nat.ne_of_lt hlt) (by rw [size_push']; exact Nat.lt_succ_of_lt hlt)]
  exact Heap.get?_push_of_some _ q
theorem keysAre : ∀ {acc : List Value} {ks : List Str}, acc.length = ks.length → (∀ (i : Nat) v, acc[i]? = some v → ∃ x t, ks[i]? = some x ∧ v = .str x t) → StrsAre acc ks
  | [], [], _, _ => .nil
  | v :: acc, k :: ks, h, q => by
    obtain ⟨x, t, e1, e2⟩ := q 0 v rfl
    cases e1
    rw [e2]
    exact .cons k t (keysAre (by simpa using h) fun i u hu => q (i + 1) u hu)
  | [], k :: ks, h, _ => by simp at h
  | v :: acc, [], h, _ => by simp at h
open PySem.Calls PySem.W in
theorem collect_ge {prog : Program} {T : String} {r d : Addr} {n : Nat} {Pv : Nat → Value → Prop} {OK : Heap → Prop} {R : List Value → Shared → Prop} (K : PySem.W.KdlSrc prog w T r d n Pv OK) (hh : A.handled = none) (hok : OK s.heap) (hn : n ≤ sizeLine)
    (h : ∀ (h' : Heap) (tk : Nat) (acc : Array Value), (∀ b o, s.heap.get? b = some o → h'.get? b = some o) → s.heap.objs.size ≤ h'.objs.size → ItemsOf Pv acc n → R acc.toList { s with heap := h', toks := tk }) :
    wpAny (model prog w) A (collect (.ref r)) R E s := by
  have hlt := K.there _ hok
  unfold collect
  refine wpAny_bind (wpAny_runValue (codeAny_builtin entry_proto_collect' ?_))
  rw [Around.under_plainId PySem.F.plain_proto_collect _]
  show wpAny _ A.in1 (newList [] >>= fun l => again (.builtin "list.__iadd__" ⟨[l, .ref r], []⟩)) _ _ s
  refine wpAny_bind (wpAny_newObj_type ?_)
  refine wpAny_pure ⟨plainId_quiet PySem.F.plain_list_iadd _, codeAny_builtin entry_list_iadd' ?_⟩
  rw [Around.under_plainId PySem.F.plain_list_iadd _]
  have hS₁ : (s.heap.push { cls := .type "list", data := .seq ([] : List Value).toArray }).get? s.heap.objs.size = some { cls := .type "list", data := .seq #[] } := Heap.get?_push_size _ rfl
  show wpAny _ A.in1 (Builtin.List.listExtendWith (.ref s.heap.objs.size) (.ref r) (.ref s.heap.objs.size)) _ _ _
  have key := PySem.W.kdl_extend (A := A) (s := { s with heap := s.heap.push { cls := .type "list", data := .seq ([] : List Value).toArray } })
    (R := fun (q : Result) (s' : Shared) => ∃ (h' : Heap) (tk : Nat) (acc' : Array Value) (c' : Nat), q = .ok (.ret (.ref s.heap.objs.size)) ∧ s' = { s with heap := h', toks := tk } ∧
      (∀ b o, s.heap.get? b = some o → h'.get? b = some o) ∧ h'.get? s.heap.objs.size = some { cls := .type "list", dict := none, data := .seq acc' c', slots := #[] } ∧ ItemsOf Pv acc' n)
    K hh (K.keep _ _ hok fun b _ o e => Heap.get?_push_of_some _ e) s.heap.objs.size (Nat.ne_of_gt hlt.1) (Nat.ne_of_gt hlt.2) (.ref s.heap.objs.size) 0 hS₁
    (fun h' tk acc' c' hk hS' hacc => ⟨h', tk, acc', c', rfl, rfl, fun b o e => hk b o (Nat.ne_of_lt (Heap.lt_size e)) (Heap.get?_push_of_some _ e), hS', hacc⟩) hn
  refine wpAny_mono key (fun fin s' x => ?_) fun e s' x => ?_
  · cases fin with
    | done f =>
      obtain ⟨h', tk, acc', c', e, rfl, hk, hS', hacc⟩ := x
      cases e
      show wpAny _ A (load s.heap.objs.size >>= _) _ _ _
      refine wpAny_bind (wpAny_load hS' ?_)
      exact wpAny_pure (h h' tk acc' hk (Nat.le_of_lt (Heap.lt_size hS')) hacc)
    | again c₁ =>
      refine ⟨x.1, codeAny_mono x.2 fun q s₂ y => ?_⟩
      obtain ⟨h', tk, acc', c', rfl, rfl, hk, hS', hacc⟩ := y
      show wpAny _ A (load s.heap.objs.size >>= _) _ _ _
      refine wpAny_bind (wpAny_load hS' ?_)
      exact wpAny_pure (h h' tk acc' hk (Nat.le_of_lt (Heap.lt_size hS')) hacc)
  · obtain ⟨_, _, _, _, e', _⟩ := x
    cases e'
theorem sorted_dk {P : Program} {a : Addr} {xs : List (Key × Value)} {ks : List Str} {Q : Value → Shared → Prop} (hd : s.heap.DictOf (mixKind P w) a xs) (lo : (a == sysModules) = false)
    (hk : xs.map (·.1) = ks.map Sum.inr) (hn : xs.length ≤ sizeLine) (hh : A.handled = none)
    (hQ : ∀ h' tk p (out : Array Value) (c : Nat) (ss : List Str), (∀ b o, s.heap.get? b = some o → h'.get? b = some o) → s.heap.objs.size ≤ p →
      h'.get? p = some (seqObj "list" out c) → StrsAre out.toList ss → Stc ss → (∀ k, k ∈ ss ↔ k ∈ ks) → ss.length ≤ sizeLine → Q (.ref p) { s with heap := h', toks := tk }) :
    wpAny (model P w) A (call (.builtin "sorted") [.ref a]) Q E s := by
  obtain ⟨ep, hat⟩ := hd.dictAt
  obtain ⟨_, _, _, _, _, _, _, _, nd0⟩ := hd
  have nd : ks.Nodup := by
    rw [hk] at nd0
    exact (List.pairwise_map.mp nd0).imp fun h e => h (by rw [e])
  have hlen : xs.length = ks.length := by rw [← List.length_map (f := (·.1)), hk, List.length_map]
  refine Calls.call_function_entry kind_sorted plain_sorted entry_sorted (args_sorted1 _) ?_
  unfold Builtin.«sorted»
  refine wpAny_bind (m := checkCount "sorted" 1 1 _) (wpAny_pure ?_)
  refine wpAny_bind (collect_ge (A := A.in1) (PySem.W.kdl_dict (knd := mixKind P w) (kvs := xs) (ep := ep) lo) hh hat hn fun h1 tk acc k1 hz hacc => ?_)
  have hI : StrsAre acc.toList ks := keysAre (by rw [Array.length_toList, hacc.1, hlen]) fun i v hv => by
    obtain ⟨k, x, h2, h3⟩ := hacc.2 i v (by rw [← Array.getElem?_toList]; exact hv)
    have h4 : (ks.map (Sum.inr : Str → Key))[i]? = some k := by rw [← hk, List.getElem?_map, h2]; rfl
    rw [List.getElem?_map] at h4
    cases h5 : ks[i]? with
    | none => rw [h5] at h4; cases h4
    | some y =>
      rw [h5] at h4
      cases h4
      rcases keyIs_shape (show keyIs (Sum.inr y) v = true from h3) with ⟨i, t, e, _⟩ | ⟨x, t, e, e2⟩
      · cases e
      · cases e
        exact ⟨_, t, rfl, e2⟩
  have hvs : acc.toList.length ≤ sizeLine := by rw [Array.length_toList, hacc.1]; exact hn
  refine wpAny_bind (wpAny_newList ?_ hvs)
  have hoL : (h1.push (seqObj "list" acc.toList.toArray 0)).get? h1.objs.size = some (seqObj "list" acc.toList.toArray 0) := Heap.get?_push_size _ rfl
  refine wpAny_bind (wpAny_holding (wpAny_call_entry (s := { s with heap := h1.push (seqObj "list" acc.toList.toArray 0), toks := tk }) slot_list_sort ⟨_, hoL, rfl⟩ entry_list_sort (list_sort_treeKAny strKind_oneLt hoL hI.keysOf (fun v₁ v₂ rest e => keyKind_strs (by rw [← e]; exact hI)) hvs fun st' hp hs => ⟨_, rfl, ?_⟩) (args_list_sort _)))
  obtain ⟨ss', a1, a2, a3⟩ := sorted_out_str hI hp hs
  obtain ⟨c, hc⟩ := sortedHeap_at (vs := acc.toList) (out := (arrOf st').map (·.2)) hoL
  refine wpAny_pure ⟨_, rfl, hQ _ tk h1.objs.size _ c ss' (fun b u e => ?_) hz hc a1 (stc_of_sorted a3 (a2.nodup_iff.mpr nd)) (fun k => a2.mem_iff) (by rw [a2.length_eq, ← hlen]; exact hn)⟩
  have q := k1 b u e
  have hlt := Heap.lt_size q
  show (sortedHeap (h1.push (seqObj "list" acc.toList.toArray 0)) h1.objs.size acc.toList _).get? b = some u
  rw [sortedHeap_old (Nat.ne_of_lt hlt) (by rw [size_push']; exact Nat.lt_succ_of_lt hlt)]
  exact Heap.get?_push_of_some _ q
end
end Ev

set_option Elab.async false
set_option linter.all false
set_option maxRecDepth 100000
set_option autoImplicit false
/-! Ev30: the rules for sorted(set(texts)), len(set(texts)), sorted(dict). -/
namespace Ev
open PySem PySem.Spec PyProof.Rows L2
/-! ### the rules -/
theorem strsOf_txt : ∀ l : List Str, strsOf (l.map .str) = some l
  | [] => rfl
  | x :: l => by simp [strsOf, strsOf_txt l]
theorem rel_strs {K : PySem.W.Frag} {io : Nat → Addr} {F : Addr → Prop} {n : Nat} {H : Hp} : ∀ {l : List Str} {vs : List V}, RelDs K io F n H (l.map .str) vs → vs = l.map V.str
  | [], [], _ => rfl
  | [], v :: vs, h => by cases h
  | x :: l, [], h => by cases h
  | x :: l, v :: vs, h => by
    simp only [List.map_cons, RelDs, RelD] at h
    rw [h.1, rel_strs h.2]; rfl
theorem vals_strs : ∀ {us : List Value} {l : List Str}, StrsAre us l → Vals (l.map V.str) us
  | _, _, .nil => .nil
  | _, _, .cons x t h => .cons ⟨t, rfl⟩ (vals_strs h)
def textsOf (x : D) (m : Mem) : Option (List Str) := match seqOf x m with
  | some ds => (match strsOf ds with
    | some l => bif decide (l.length ≤ 4000) then some l else none
    | none => none)
  | none => none
def opSortSet : O1 := fun x m => match textsOf x m with
  | some l => some (.lst ((srtU l).map .str))
  | none => none
def opLenSet : O1 := fun x m => match textsOf x m with
  | some l => some (.int (srtU l).length)
  | none => none
def keyStrs : List Key → Option (List Str)
  | [] => some []
  | .inr s :: r => (keyStrs r).map (s :: ·)
  | .inl _ :: _ => none
theorem keyStrs_map : ∀ l : List Str, keyStrs (l.map .inr) = some l
  | [] => rfl
  | x :: l => by simp [keyStrs, keyStrs_map l]
theorem keyStrs_inv : ∀ {ks : List Key} {l : List Str}, keyStrs ks = some l → ks = l.map .inr
  | [], l, h => by simp only [keyStrs, Option.some.injEq] at h; rw [← h]; rfl
  | .inl _ :: _, l, h => by simp only [keyStrs] at h; cases h
  | .inr s :: ks, l, h => by
    simp only [keyStrs] at h
    cases q : keyStrs ks with
    | none => rw [q] at h; cases h
    | some r =>
      rw [q] at h
      cases h
      rw [keyStrs_inv q]; rfl
/-- sorted(d), d a dict of texts -/
def opSortD : OL := fun ds m => match ds with
  | [x] => (match view m x with
    | .dk ks _ => (match keyStrs ks with
      | some l => some (.lst ((srtU l).map .str))
      | none => none)
    | _ => none)
  | _ => none
section
variable {k : Nat} {X : Cx} {W : WT}
theorem c_sortD (hh : Here k W X) : CallR X (.builtin "sorted") (rC (ctOf X) opSortD) := by
  intro pins s σ H xs us Q I rx h
  obtain ⟨io, F, m, ds, S, r, z, hz, kk⟩ := h
  unfold opSortD at hz
  split at hz
  · rename_i d
    obtain ⟨v, rfl, rv⟩ := one_rel r
    split at hz
    · rename_i ks ds e1
      split at hz
      · rename_i l e2
        cases hz
        obtain ⟨a, kvs, rfl, h1, h2, h3⟩ := at_dk S rv e1
        obtain ⟨u, rfl, ru⟩ := vals1 rx
        cases ru
        obtain ⟨z1, z2, vs, kv, hd⟩ := dk_rd I.hok h1
        have hk : vs.map (·.1) = l.map Sum.inr := by rw [← keyStrs_inv e2, ← h2]; exact (KV.keys kv).symm
        have hn : vs.length ≤ sizeLine := by rw [← List.length_map (f := (·.1)), ← KV.keys kv, List.length_map]; exact z1
        refine sorted_dk hd z2 hk hn (I.ok.hd hh.calm) fun h' tk p out c ss k hp hg hi hs hm hl => ?_
        have hlen : (ss.map V.str).length ≤ sizeLine := by rw [List.length_map]; exact hl
        have hn : H p = none := I.hok.fresh hp
        have e : ss = srtU l := stc_eq hs (stc_srtU l) fun z => by rw [mem_srtU]; exact hm z
        refine ⟨.ref p, upd H p (.lst (ss.map V.str)), I.laid (t' := tk) k hp ⟨hlen, out.toList, c, vals_strs hi, hg⟩, rfl, ?_⟩
        rw [e] at *
        exact kk.newL S hn (strs_rel _ _ _ _ _ _)
      · cases hz
    · cases hz
  · cases hz
theorem texts_at {io : Nat → Addr} {F : Addr → Prop} {m : Mem} {H : Hp} {d : D} {v : V} {l : List Str} (S : Sim (ctOf X) io F m H) (rv : RelD X.K io F m.nx H d v) (e : textsOf d m = some l) :
    ∃ u, v = .ref u ∧ (SqL X.K H u (l.map V.str) ∨ SqT X.K H u (l.map V.str)) ∧ l.length ≤ 4000 := by
  unfold textsOf at e
  split at e
  · rename_i ds e1
    split at e
    · rename_i l' e2
      cases q : decide (l'.length ≤ 4000) with
      | false => rw [q] at e; cases e
      | true =>
        rw [q] at e
        cases e
        have hd := strsOf_map e2
        unfold seqOf at e1
        split at e1
        · rename_i f e3
          cases e1
          obtain ⟨u, ys, rfl, t, r⟩ := at_lst S rv e3
          rw [hd] at r
          rw [rel_strs r] at t
          exact ⟨u, rfl, .inl (.inl (.inl t)), of_decide_eq_true q⟩
        · rename_i f e3
          cases e1
          obtain ⟨u, ys, rfl, t, r⟩ := is_tup (T := ctOf X) rv e3
          rw [hd] at r
          rw [rel_strs r] at t
          exact ⟨u, rfl, .inr t.sq, of_decide_eq_true q⟩
        · cases e1
    · cases e
  · cases e
variable {a : Expr} {ca : ME} {p p2 q pos : Pos}
/-- set(texts), then more -/
theorem set_thn (hh : Here k W X) {pins : List (Addr × Obj)} {σ : L2.St} {H : Hp} {s : Shared} {l : List Str} {u : Addr} {Q : Value → Shared → Prop} (I : Inv X pins σ H s) (h : SqL X.K H u (l.map V.str) ∨ SqT X.K H u (l.map V.str)) (hl : l.length ≤ 4000)
    (hQ : ∀ (h' : Heap) (tk : Nat) c, SetRS X.w h' s.heap.objs.size (fun k' => decide (k' ∈ l)) c → Inv X pins σ H { s with heap := h', toks := tk } → Q (.ref s.heap.objs.size) { s with heap := h', toks := tk }) :
    wpAny (model X.prog X.w) X.A (call (.type "set") [.ref u]) Q X.xe s := by
  have fin : ∀ (h' : Heap) (tk : Nat), (∃ c, SetRS X.w h' s.heap.objs.size (fun k' => decide (k' ∈ l)) c) → (∀ b o, b < s.heap.objs.size → s.heap.get? b = some o → h'.get? b = some o) → Q (.ref s.heap.objs.size) { s with heap := h', toks := tk } :=
    fun h' tk ⟨c, r⟩ hk => hQ h' tk c r (I.kept fun b o e => hk b o (Heap.lt_size e) e)
  rcases h with h | h
  · obtain ⟨its, r, pl, hz⟩ := I.list h
    have hlen : its.toArray.size = l.length := by rw [List.size_toArray, ← r.length, List.length_map]
    exact set_of_list (I.ok.hd hh.calm) pl.isList (by simpa using strsAre_of r) (by rw [hlen]; unfold scanBound; omega) fin
  · obtain ⟨its, r, pl, hz⟩ := I.tuple h
    have hlen : its.toArray.size = l.length := by rw [List.size_toArray, ← r.length, List.length_map]
    exact set_of_tuple (I.ok.hd hh.calm) pl (by simpa using strsAre_of r) (by rw [hlen]; unfold scanBound; omega) fin
theorem d_sortSet (hh : Here k W X) (hg : Gl X "sorted") (hm : X.mg "sorted" = none) (hg2 : Gl X "set") (hm2 : X.mg "set" = none) (ha : PE X a (tE (ctOf X) W ca))
    (na : starEach [a] X.env = (false, eval a X.env) :: starEach [] X.env := by rfl) : PE X (.Call (.Name "sorted" p) [.Call (.Name "set" p2) [a] [] q] [] pos) (tE (ctOf X) W (mO1 opSortSet ca)) := by
  refine ⟨fun pins s σ H Q I h => ?_⟩
  refine Call_ (ld_blt I hg hm PyProof.Rows.boot_sorted ?_)
  refine PyProof.Rows.callWith_builtin1 (PyProof.Rows.args_cons ?_ rfl) rfl rfl
  refine Call_ (ld_blt I hg2 hm2 PyProof.Rows.boot_set ?_)
  refine PyProof.Rows.callWith_type1 (PyProof.Rows.args_cons (thn (ha.run pins s σ H _ I (tO1_of h)) fun v s1 ⟨x, H1, I1, r1, q1⟩ => PyProof.Rows.args_nil ?_) na) na rfl
  obtain ⟨io, F, m, d, S, rv, z, hz, kk⟩ := q1
  unfold opSortSet at hz
  split at hz
  · rename_i l e1
    cases hz
    obtain ⟨u, rfl, ht, hl⟩ := texts_at S rv e1
    cases r1
    refine set_thn hh I1 ht hl fun h1 tk c R I2 => PyProof.Rows.args_nil ?_
    refine sorted_rs (s := { s1 with heap := h1, toks := tk }) R (I2.ok.hd hh.calm) fun s' p out c2 ss kp g o hp hg' hi hs hm' hl' => ?_
    have hlen : (ss.map V.str).length ≤ sizeLine := by rw [List.length_map]; exact hl'
    have hn : H1 p = none := I2.hok.fresh hp
    have e : ss = srtU l := stc_eq hs (stc_srtU l) fun z => by rw [mem_srtU, hm']; exact decide_eq_true_iff
    have J : Inv X pins σ (upd H1 p (.lst (ss.map V.str))) { ({ s1 with heap := h1, toks := tk } : Shared) with heap := s'.heap, gens := s'.gens, drawn := s'.drawn, toks := s'.toks } :=
      I2.call (ch := []) (Un.laid kp hp hn) (I2.hok.laid kp hp ⟨hlen, out.toList, c2, vals_strs hi, hg'⟩) (by rw [g]; exact I2.bare) (fun _ z => nomatch z)
    have es : s' = { ({ s1 with heap := h1, toks := tk } : Shared) with heap := s'.heap, gens := s'.gens, drawn := s'.drawn, toks := s'.toks } := by
      cases s'
      cases s1
      cases o
      rfl
    rw [es]
    refine ⟨.ref p, _, J, rfl, ?_⟩
    rw [e]
    exact kk.newL S hn (strs_rel _ _ _ _ _ _)
  · cases hz
theorem d_lenSet (hh : Here k W X) (hg : Gl X "len") (hm : X.mg "len" = none) (hg2 : Gl X "set") (hm2 : X.mg "set" = none) (ha : PE X a (tE (ctOf X) W ca))
    (na : starEach [a] X.env = (false, eval a X.env) :: starEach [] X.env := by rfl) : PE X (.Call (.Name "len" p) [.Call (.Name "set" p2) [a] [] q] [] pos) (tE (ctOf X) W (mO1 opLenSet ca)) := by
  refine ⟨fun pins s σ H Q I h => ?_⟩
  refine Call_ (ld_blt I hg hm PySem.boot_len ?_)
  refine PyProof.Rows.callWith_builtin1 (PyProof.Rows.args_cons ?_ rfl) rfl rfl
  refine Call_ (ld_blt I hg2 hm2 PyProof.Rows.boot_set ?_)
  refine PyProof.Rows.callWith_type1 (PyProof.Rows.args_cons (thn (ha.run pins s σ H _ I (tO1_of h)) fun v s1 ⟨x, H1, I1, r1, q1⟩ => PyProof.Rows.args_nil ?_) na) na rfl
  obtain ⟨io, F, m, d, S, rv, z, hz, kk⟩ := q1
  unfold opLenSet at hz
  split at hz
  · rename_i l e1
    cases hz
    obtain ⟨u, rfl, ht, hl⟩ := texts_at S rv e1
    cases r1
    refine set_thn hh I1 ht hl fun h1 tk c R I2 => PyProof.Rows.args_nil ?_
    obtain ⟨o, es, ep, t, ho, hex, hd, g, nd, hmm, hb, hf, hn, hr, hled⟩ := R
    have hz : es.size = (srtU l).length := by
      have q := perm_srtU (m := l) nd fun z => by rw [← hmm z]; exact decide_eq_true_iff
      rw [← q.length_eq, List.length_map, Array.length_toList]
    have hsm : (srtU l).length ≤ l.length := srtU_len l
    refine call_len_set ho hex hd hf (by rw [hz]; omega) ?_
    exact ⟨.int ((srtU l).length : Nat), H1, I2.tok _, ⟨_, by rw [hz]⟩, kk.now S (by simp only [RelD])⟩
  · cases hz
/-- sorted(set(names)) in mathematics -/
theorem q_sortSet {l : List Str} {m : Mem} {x : D} {Q : D → Mem → Prop} {XX : XQ} (e : seqOf x m = some (l.map .str)) (hl : l.length ≤ 4000) (h : Q (.lst ((srtU l).map .str)) m) : wp (Res.of (opSortSet x m) m) Q XX := by
  unfold opSortSet textsOf
  rw [e]
  dsimp only
  rw [strsOf_txt]
  dsimp only
  rw [decide_eq_true hl]
  exact h
theorem q_lenSet {l : List Str} {m : Mem} {x : D} {Q : D → Mem → Prop} {XX : XQ} (e : seqOf x m = some (l.map .str)) (hl : l.length ≤ 4000) (h : Q (.int ((srtU l).length : Nat)) m) : wp (Res.of (opLenSet x m) m) Q XX := by
  unfold opLenSet textsOf
  rw [e]
  dsimp only
  rw [strsOf_txt]
  dsimp only
  rw [decide_eq_true hl]
  exact h
theorem q_sortD {l : List Str} {ds : List D} {x : D} {m : Mem} {Q : D → Mem → Prop} {XX : XQ} (e : view m x = .dk (l.map .inr) ds) (h : Q (.lst ((srtU l).map .str)) m) : wp (Res.of (opSortD [x] m) m) Q XX := by
  unfold opSortD
  dsimp only
  rw [e]
  dsimp only
  rw [keyStrs_map]
  exact h
end
end Ev

set_option Elab.async false
set_option linter.all false
set_option maxRecDepth 100000
set_option maxHeartbeats 2000000
set_option autoImplicit false
/-! Ev31: an error that is caught and kept (ps_try_keep follows the library's ps_try_as). -/
namespace Ev
open PySem PySem.Spec PyProof.Rows L2
section
variable {X : Cx} {pins : List (Addr × Obj)} {σ : L2.St} {H : Hp} {s : Shared}
theorem inv_keepK {a : Addr} {oe : Obj} {vs : Array Value} {cls : Value} {d : Option Addr} (I : Inv X pins σ H s) (h0 : X.s_0.heap.get? a = none) (ha : s.heap.get? a = some oe) (hd : oe.data = .fields vs) (hz : Zc cls d oe) (na : H a = none) (nL : a ≠ X.env.locals)
    (hp : ∀ p ∈ X.pn ++ pins, p.1 ≠ a) : Inv X pins σ (upd H a (exK cls d a)) s := by
  have new : ObjOk X.prog X.w (upd H a (exK cls d a)) s.heap a (exK cls d a) :=
    ⟨⟨oe, vs, ha, hz, hd⟩, ⟨oe, ha⟩, fun h1 h2 ⟨o, v, e, z, q⟩ k => ⟨o, v, k o e, z, q⟩⟩
  refine ⟨I.ok, I.os, I.bare, ⟨I.base.keep, I.base.slot, fun b o e n hx => ?_, I.base.there, fun b xs e => ?_, fun b o u e => ?_, fun b ps e => ?_⟩, I.loc, I.cell, ?_, fun x c e => ?_, fun p hp' => ?_, ?_, I.len⟩
  · rw [upd_ne (fun z => by rw [z, h0] at e; cases e)]
    exact I.base.free b o e n hx
  · have q := I.base.tups b xs e
    rw [upd_ne (ne_of_none q na)]; exact q
  · have q := I.base.frzs b o u e
    rw [upd_ne (ne_of_none q na)]; exact q
  · obtain ⟨more, q⟩ := I.base.tbls b ps e
    exact ⟨more, by rw [upd_ne (ne_of_none q na)]; exact q⟩
  · rw [upd_ne (Ne.symm nL)]; exact I.free
  · have q := I.freeC x c e
    have hc : c ≠ a := fun z => by
      obtain ⟨v, oc, ho, hdc⟩ := I.cell x c e
      rw [z, ha] at ho
      cases ho
      rw [hd] at hdc
      cases hdc
    rw [upd_ne hc]; exact q
  · obtain ⟨e, n, r⟩ := I.pin p hp'
    exact ⟨e, by rw [upd_ne (hp p hp')]; exact n, r⟩
  · exact HOk.laidN I.hok (fun _ _ e => e) na new
end
/-- what the clause wishes, whose suite is y = n: slots i (n's), j (y's) -/
def wKp (K : PySem.W.Frag) (c : Value) (i j : Nat) (Wout : WX) (D : Ends) : WX := fun cls d σ H =>
  ∃ b, PySem.W.exmOne K cls c = some b ∧ (b = true → ∀ a, H a = none → D.nx (((σ.set i (some (.ref a))).set j (some (.ref a))).set i none) (upd H a (exK cls d a))) ∧ (b = false → Wout cls d σ H)
section
variable {X : Cx} {x n y : Str} {c : Value} {i j : Nat} {body : List Stmt} {np pos pos' p1 p2 p3 : Pos} {tb : WX → TS} {Wout : WX}
theorem ps_try_keep (hs : X.stack = X.env :: X.outer) (hf : X.env.frame = some X.env.locals) (hN : X.N.Nodup) (hi : X.N[i]? = some n) (hln : X.env.kindOf n = some .local) (hj : X.N[j]? = some y) (hlj : Loc X.env.scope y) (hfj : X.fn y = true ∨ X.env.scope.names.lookup y = some .local) (hdn : (n == ("__debug__" : Str)) = false) (hdc : (n == ("__classdict__" : Str)) = false) (hsw : ∀ X' : Cx, X'.env = X.env → swapsWith (.Name n p2) (some (.Name y p1)) p3.line X'.env = pure false) (hex : X.ex = []) (hc : Names X x c) (tk : Takes X Wout)
    (hb : ∀ (W : WX) (pn : List (Addr × Obj)) (xe : Value → Shared → Prop), Takes (X.tr pn xe) W → PassesOwn (model X.prog X.w) X.A X.env xe → PSs (X.tr pn xe) body (tb W)) :
    PS X (.Try body [.ExceptHandler (some (.Name x np)) (some n) [.Assign [.Name y p1] (.Name n p2) p3] pos'] [] [] pos) (fun D σ H => tb (wKp X.K c i j Wout D) D σ H) := by
  refine ⟨fun pins s σ H D I h => ?_⟩
  have ok := I.ok
  have hfr : X.A.frames = some (X.env :: X.outer) := by rw [ok.frames, hs]
  have hloc : Loc X.env.scope n := .inl hln
  refine wpAny_Try_except ?_
  refine wpAny_mono ((hb (wKp X.K c i j Wout D) (X.pn ++ pins) (fun e s₁ => wpAny (model X.prog X.w) X.A (noteFrame e X.env) (fun _ s₂ => wpAny (model X.prog X.w) X.A (setFlight e none) (fun _ s₃ =>
    wpAny (model X.prog X.w) X.A (handleBy e X.env [.ExceptHandler (some (.Name x np)) (some n) [.Assign [.Name y p1] (.Name n p2) p3] pos']) (SP X pins D) X.xe s₃) X.xe s₂) X.xe s₁) (fun u s' xx => ?_) PassesOwn.looking).run [] s σ H D (I.toTry _) h) (fun f s1 hsp => ?_) (fun e s1 he => he)
  · -- the catch
    obtain ⟨a, B, sI, pins', σ', H', cls, d, rfl, J', nb, up, sky, na, os, ag, b, hb1, hyes, hno⟩ := xx
    have J : Inv X pins σ' H' sI := J'.ofTry ok
    have sky' : Sky B (X.env :: X.outer) a (Zc cls d) X.env.locals s'.heap := by rw [← hs]; exact sky
    show wpAny (model X.prog X.w) X.A (noteFrame (.ref a) X.env) _ _ _
    refine Sky.land Zc.steady hfr hf sky' fun h3 fl3 up3 => ?_
    have J3 : Inv X pins σ' H' { s' with heap := h3 } := J.landed nb fl3.1 (up.trans up3) os ag
    obtain ⟨oe3, vs3, he3, hz3, hd3⟩ := fl3.there
    have notFr : ∀ {h : Heap} {o : Obj} {vs : Array Value}, h.FunFrames B (X.env :: X.outer) → h.get? a = some o → o.data = .fields vs → a ∉ frs (X.env :: X.outer) := fun {h o vs} ff e dd hm => by
      obtain ⟨_, o', e', hnf⟩ := ff.mem hm
      rw [e] at e'; cases e'
      exact hnf _ dd
    have nfr := notFr fl3.2.2.1 he3 hd3
    have nL : a ≠ X.env.locals := fun z => nfr (List.mem_filterMap.mpr ⟨X.env, List.mem_cons_self, by rw [hf, z]⟩)
    have nF : a ∉ X.fs := fun hm => by
      obtain ⟨e, he, q⟩ := List.mem_filterMap.mp hm
      exact nfr (List.mem_filterMap.mpr ⟨e, List.mem_cons_of_mem _ he, q⟩)
    have S3 := J3.suite he3 hd3 na nL nF
    refine wpAny_handleBy_cons (codeAny_handlers_test ?_) (by intro q; cases q)
    have LT : PySem.W.Looks (model X.prog X.w) h3 (typeOf (.ref a)) cls := fun A Q E s k q => wpAny_typeOf_ref (k _ _ he3) (by rw [hz3.1]; exact q)
    have LM := PySem.W.exm_one (M := model X.prog X.w) (J3.kIn) LT hb1
    have test : ∀ {Q : Value → Shared → Prop} {E : Value → Shared → Prop}, Q c { s' with heap := h3 } → wpAny (model X.prog X.w) (X.A.mark (some (.ref a))) (eval (.Name x np) X.env) Q E { s' with heap := h3 } := fun {Q E} q => by
      obtain ⟨hg, hdbg, hm | ⟨hm, hv, hnn⟩⟩ := hc
      · exact ld_glob (X := X.suite a ((a, oe3) :: (X.pn ++ pins))) S3 hg hm q hdbg
      · exact ld_blt (X := X.suite a ((a, oe3) :: (X.pn ++ pins))) S3 hg hm hv q hnn hdbg
    refine test (LM.here ?_)
    cases b with
    | true =>
      refine codeAny_handlers_suite_as ?_
      refine HandSPX.lands_againZ fl3 fun h4 fl4 up4 => ?_
      have J4 : Inv X pins σ' H' { s' with heap := h4 } := J.landed nb fl4.1 ((up.trans up3).trans up4) os ag
      obtain ⟨oe4, vs4, he4, hz4, hd4⟩ := fl4.there
      have S4 := J4.suite he4 hd4 na nL nF
      refine store_ok (X := X.suite a ((a, oe4) :: (X.pn ++ pins))) (v := .ref a) S4 hN hi hloc rfl (fun s5 S5 => ?_) (.inr hln)
      have hilt : i < σ'.length := by rw [J.len]; exact (List.getElem?_eq_some_iff.mp hi).1
      have suite : PSs (X.suite a ((a, oe4) :: (X.pn ++ pins))) [.Assign [.Name y p1] (.Name n p2) p3] (fun D σ H => ∃ v, σ[i]? = some (some v) ∧ D.nx (σ.set j (some v)) H) :=
        pss_imp (pss_one (ps_set (X := X.suite a ((a, oe4) :: (X.pn ++ pins))) hN hj hlj (pe_var hi (.inl hln) hdn hdc) (hsw _ rfl) hfj)) fun D σ H h => h
      have nsI : sI.heap.get? a = none := by
        cases q : sI.heap.get? a with
        | none => rfl
        | some o =>
          have z := nb a o q (by rw [hs]; exact nfr)
          rw [fl4.2.1] at z; cases z
      have n0 : X.s_0.heap.get? a = none := by
        cases q : X.s_0.heap.get? a with
        | none => rfl
        | some o =>
          obtain ⟨o', z⟩ := J.base.there a o q (by rw [hex]; simp)
          rw [nsI] at z; cases z
      refine wpAny_mono (suite.run [] s5 _ H' { nx := fun σ'' H'' => H'' = H' ∧ σ'' = (σ'.set i (some (.ref a))).set j (some (.ref a)), rt := fun _ _ => False, bk := fun _ _ => False, ct := fun _ _ => False } S5
        ⟨.ref a, by rw [List.getElem?_set_self hilt], rfl, rfl⟩) (fun f s6 hsp => ?_) (fun _ _ z => False.elim z)
      cases f with
      | next =>
        obtain ⟨σ6, H6, S6, rfl, rfl⟩ := hsp
        have P6 := S6.pin (a, oe4) (by simp)
        have J6 : Inv X pins _ _ s6 := S6.unsuite ok
        have J7 : Inv X pins _ (upd H6 a (exK cls d a)) s6 := inv_keepK J6 n0 P6.1 hd4 hz4 P6.2.1 P6.2.2.1 (fun p hp z => by
          have q := (J.pin p hp).1
          rw [z, nsI] at q; cases q)
        exact gone_ok J7 hN hi hln fun s7 J8 => ⟨_, _, J8, hyes rfl a na⟩
      | brk => obtain ⟨_, _, _, q⟩ := hsp; exact q.elim
      | cont => obtain ⟨_, _, _, q⟩ := hsp; exact q.elim
      | ret u => obtain ⟨_, _, _, _, _, q⟩ := hsp; exact q.elim
    | false =>
      show wpAny _ X.A (handleBy (.ref a) X.env []) _ _ _
      refine wpAny_handleBy_nil ?_
      obtain ⟨k1, k2, k3, oe, vs, T, oT, ts', he, hz, hd, h1, hr⟩ := id fl3
      unfold PySem.passOn
      refine wpAny_bind (wpAny_field he hd h1 ?_)
      rw [if_neg (show ¬ ((Value.ref T == Value.none) = true) from by simp)]
      have fin : wpAny (model X.prog X.w) X.A (setFlight (.ref a) X.env.frame) (fun _ s4 => wpAny (model X.prog X.w) X.A (throw (.ref a) : Sem Flow) (SP X pins D) X.xe s4) X.xe { s' with heap := h3 } := by
        rw [hf]
        refine HandSPX.setFlight_upZ fl3 fun h4 hh4 up4 => wpAny_throw (tk _ _ ?_)
        exact ⟨a, B, sI, pins, σ', H', cls, d, rfl, J, nb, (up.trans up3).trans up4, .inr (.inr (by rw [hs]; exact hh4)), na, os, ag, hno rfl⟩
      first
        | exact wpAny_bind (wpAny_pure (wpAny_bind fin))
        | exact wpAny_bind fin
  · cases f with
    | next =>
      obtain ⟨σ', H', J', q⟩ := hsp
      exact wpAny_execs_nil ⟨σ', H', J'.ofTry ok, q⟩
    | brk =>
      obtain ⟨σ', H', J', q⟩ := hsp
      exact ⟨σ', H', J'.ofTry ok, q⟩
    | cont =>
      obtain ⟨σ', H', J', q⟩ := hsp
      exact ⟨σ', H', J'.ofTry ok, q⟩
    | ret u =>
      obtain ⟨v, σ', H', J', r, q⟩ := hsp
      exact ⟨v, σ', H', J'.ofTry ok, r, q⟩
end
end Ev
namespace PySem
namespace NtX
open PySem.W PySem.Calls PyProof.Rows PySem.HandSPX
/-! ### the text of __init__ -/
def iA (p1 p2 : Pos) : Arguments := { posonlyargs := [], args := [{ arg := "self", annotation := none, pos := p1 }, { arg := "at", annotation := none, pos := p2 }], vararg := none, kwonlyargs := [], kw_defaults := [], kwarg := none, defaults := [] }
def iB (q1 q2 q3 q4 : Pos) : List Stmt := [.Assign [.Attribute (.Name "self" q1) "at" q2] (.Name "at" q3) q4]
def iS : Scope := { kind := .function, names := [(PySem.Str.ofString "self", .local), (PySem.Str.ofString "at", .local)], isGenerator := false, isCoroutine := false, more := [] }
/-- what the written part says of Low, at C, and of its __init__, at fI -/
structure NtTxt (K : Frag) (mg : Str → Option Value) (C fI : Addr) : Prop where
  gC : mg "NoText" = some (.ref C)
  cls : ∃ nm q N bs bm sn sub ab col dd k0 k1 k2 k3 k5, K.lookup C = some (excClassObj nm q C N bs bm true sn sub ab col dd k0 k1 k2 k3 k5 "ValueError.__new__") ∧ refsVE bm = true
  sa : findIn K (.ref C) "__setattr__" = some (some (.builtin "object.__setattr__"))
  ga : findIn K (.ref C) "__getattribute__" = some (some (.builtin "BaseException.__getattribute__"))
  gg : findIn K (.ref C) "__getattr__" = some none
  noN : findIn K (.ref C) "at" = some none
  iC : findIn K (.ref C) "__init__" = some (some (.ref fI))
  tC : typeIn K (.ref fI) = some (.type "function")
  kC : keepIn K (.ref C) = true
  exC : subIn K (.ref C) (.type "BaseException") = some true
  tyC : typeIn K (.ref C) = some (.type "type")
  hdC : hasDictIn K C = true
  te : exmOne K (.ref C) (.ref C) = some true
  fn : ∃ (oc : Value) (od : Option Addr) (doc pm : Value) (an : Option Addr) (cdv ct : Value) (osl : Array (Option Value)) (p1 p2 q1 q2 q3 q4 : Pos),
    K.lookup fI = some ⟨oc, od, .func (fnOf "__init__" "NoText.__init__" (iA p1 p2) (iB q1 q2 q3 q4) iS .none .none doc pm an cdv ct), osl⟩ ∧ codeIn K cdv "NoText.__init__" = true
theorem one_size (v : Value) : [v].length ≤ sizeLine := by
  rw [sizeLine_eq]
  exact (by decide : 1 ≤ 16777216)
theorem kept_but {K : Frag} {h h' : Heap} {x : Addr} (X : K.In h) (hx : K.lookup x = none) (k : ∀ b o, b ≠ x → h.get? b = some o → h'.get? b = some o) : K.In h' := fun a o e =>
  k a o (fun z => by rw [z, hx] at e; cases e) (X a o e)
theorem ldC {M : Model} {s : Shared} {name : Str} {scope : Scope} {L a : Addr} {cd : Value} {m : Str → Option Value} {x : Str} {pos : Pos} {v : Value} {Q : Value → Shared → Prop} {A : Around} {E : Value → Shared → Prop} (hn : s.heap.Ns L m) (hv : m x = some v) (h : Q v s)
    (hk : scope.kind = .function := by rfl) (hl : (envOfC name scope L a cd).kindOf x = some .local := by rfl) (hd : (x == ("__debug__" : Str)) = false := by decide) :
    wpAny M A (eval (.Name x pos) (envOfC name scope L a cd)) Q E s := wpAny_Name (wpAny_loadName_local hk hl hn hv h) hd
/-- what __init__ leaves of a fresh exception at x -/
structure InitEnd (h h' : Heap) (x C dx t1 : Addr) (v : Value) : Prop where
  keep : ∀ b o, b ≠ x → h.get? b = some o → h'.get? b = some o
  obj : h'.get? x = some { cls := .ref C, dict := some dx, data := .fields #[.ref t1, .none, .none, .none, .bool false, .none] }
  dbig : h.objs.size ≤ dx
  dne : dx ≠ x
  ns : h'.Ns1 dx (fun y => if y = "at" then some v else none)
/-- a made NoText -/
structure OwnMade (h h' : Heap) (e C d : Addr) (v : Value) : Prop where
  keep : ∀ b o, h.get? b = some o → h'.get? b = some o
  new : h.objs.size ≤ e
  obj : ∃ oe vs, h'.get? e = some oe ∧ oe.cls = .ref C ∧ oe.dict = some d ∧ oe.data = .fields vs ∧ vs[1]? = some .none
  dbig : h.objs.size ≤ d
  dne : d ≠ e
  ns : h'.Ns1 d (fun y => if y = "at" then some v else none)
section
variable {prog : Program} {w : World} {A : Around} {E : Value → Shared → Prop} {R : Result → Shared → Prop} {s : Shared} {K : Frag} {mg : Str → Option Value} {C fI : Addr}
theorem nt_init (T : NtTxt K mg C fI) {x t0 : Addr} {v : Value} (X : K.In s.heap) (hlim : s.heap.NoLimit) (hx : s.heap.get? x = some (excO C t0)) (hnx : K.lookup x = none) (hroom : A.depth < recursionLimit)
    (hq : ∀ h' tk dx, InitEnd s.heap h' x C dx t0 v → R (.ok (.ret .none)) { s with heap := h', toks := tk }) :
    codeAny (model prog w) A (.call (.ref fI) ⟨[.ref x, v], []⟩) R s := by
  obtain ⟨oc, od, doc, pm, an, cdv, ct, osl, p1, p2, q1, q2, q3, q4, ho, hcd⟩ := T.fn
  obtain ⟨nm, q, N, bs, bm, sn, sub, ab, col, dd, k0, k1, k2, k3, k5, hC, hbm⟩ := T.cls
  have hcl : clsIn K C = some { name := nm, bases := bs, mro := .ref C :: bm, ns := N, qualname := q, hasDict := true, slotNames := sn, subclasses := sub, abstract := ab, collection := col, hasDel := false } := by unfold clsIn; rw [hC] <;> rfl
  refine Att.call_fn (binds := [("self", .ref x), ("at", v)]) X hlim ho hcd hroom (BindsTo.of_eq (by first | rfl | with_unfolding_all rfl)) (by first | rfl | decide | with_unfolding_all rfl) (fun s₁ IC => ?_) rfl rfl rfl
  obtain ⟨h₁, tk₁, rfl⟩ := IC.toInCall.same
  have k : ∀ b o, s.heap.get? b = some o → h₁.get? b = some o := IC.toInCall.keep
  have hn := IC.toInCall.ns
  have hxL : s.heap.objs.size ≠ x := Nat.ne_of_gt (Heap.lt_size hx)
  have X₁ : K.In h₁ := X.keeps k
  have hx₁ := k _ _ hx
  -- self.by = by
  show wpAny _ _ (execs _ _) _ _ _
  refine wpAny_execs_cons (plainObj_wpAny_Assign_Attribute ?_)
  refine ldC (v := v) hn (by first | rfl | with_unfolding_all rfl | kernel_rfl) (ldC (v := .ref x) hn (by first | rfl | with_unfolding_all rfl | kernel_rfl) ?_)
  refine set_plain X₁ (ox := excO C t0) (od := none) ⟨hx₁, rfl, rfl, trivial⟩ T.sa ?_
  refine exc_osa X₁ hx₁ hcl (show refsVE (.ref C :: bm) = true from hbm) rfl T.noN (fun h₃ tk₃ dx k₃ dn dne hx₃ hn₃ => ?_)
  show wpAny _ _ (execs _ _) _ _ _
  have z : s.heap.objs.size < h₁.objs.size := hn.lt
  exact wpAny_execs_nil (hq h₃ tk₃ dx ⟨fun b o hb e => k₃ b o hb (k b o e), hx₃, Nat.le_of_lt (Nat.lt_of_lt_of_le z dn), dne, hn₃⟩)
theorem nt_made (T : NtTxt K mg C fI) {v : Value} (X : K.In s.heap) (hlim : s.heap.NoLimit) (hroom : A.depth + 1 < recursionLimit)
    (hq : ∀ h' tk e d, OwnMade s.heap h' e C d v → R (.ok (.ret (.ref e))) { s with heap := h', toks := tk }) :
    codeAny (model prog w) A (.call (.ref C) ⟨[v], []⟩) R s := by
  obtain ⟨nm, q, N, bs, bm, sn, sub, ab, col, dd, k0, k1, k2, k3, k5, hC, hbm⟩ := T.cls
  obtain ⟨hp, g, dr, tk, os⟩ := s
  have k : ∀ b o, hp.get? b = some o → ((hp.push (kdv_tup [v])).push (excO C hp.objs.size)).get? b = some o := fun b o e => Heap.get?_push_of_some _ (Heap.get?_push_of_some _ e)
  have hget : ((hp.push (kdv_tup [v])).push (excO C hp.objs.size)).get? (hp.objs.size + 1) = some (excO C hp.objs.size) := by heap_get
  have hnx : K.lookup (hp.objs.size + 1) = none := by
    cases e : K.lookup (hp.objs.size + 1) with
    | none => rfl
    | some o =>
      have z : hp.get? (hp.objs.size + 1) = some o := X _ _ e
      exact absurd (Nat.lt_of_succ_lt (Heap.lt_size z)) (Nat.lt_irrefl _)
  refine call_own F.excBase_ValueError (fun X => refsVE_contains X bm hbm) (X _ _ hC) (looks_findIn X T.iC) (fun self => bind_fn X self T.tC) (one_size v) ?_
  refine nt_init (s := ⟨(hp.push (kdv_tup [v])).push (excO C hp.objs.size), g, dr, tk, os⟩) T (X.keeps k) (hlim.keeps k) hget hnx ?_ fun h' tk' dx ⟨k', hx, dn, dne, hns⟩ => ?_
  · show A.depth + 1 < recursionLimit
    exact hroom
  · have old : ∀ b o, hp.get? b = some o → h'.get? b = some o := fun b o e => k' b o (Nat.ne_of_lt (Nat.lt_succ_of_lt (Heap.lt_size e))) (k b o e)
    have z : hp.objs.size + 1 + 1 ≤ dx := by
      first
        | (simpa only [Heap.size_push] using dn)
        | exact dn
        | (have q := dn; rw [Heap.size_push, Heap.size_push] at q; exact q)
    exact ⟨rfl, hq h' tk' (hp.objs.size + 1) dx ⟨old, Nat.le_succ _, ⟨_, _, hx, rfl, rfl, rfl, rfl⟩, Nat.le_trans (Nat.le_trans (Nat.le_succ _) (Nat.le_succ _)) z, dne, hns⟩⟩
end
end NtX
end PySem
namespace L2
open PySem PySem.Spec PyProof.Rows
theorem relO_nt {v : V} {v' : Value} (r : RelV v v') (f : Str) : RelO (List.lookup f [(("at" : Str), v)]) (if f = "at" then some v' else none) := by
  by_cases hw : f = "at"
  · subst hw
    rw [if_pos rfl]
    have q : List.lookup ("at" : Str) [(("at" : Str), v)] = some v := by simp [List.lookup]
    rw [q]
    exact r
  · rw [if_neg hw]
    have qw : (f == ("at" : Str)) = false := by simpa using hw
    have q2 : List.lookup f [(("at" : Str), v)] = none := by simp [List.lookup, qw]
    rw [q2]
    trivial
section
variable {X : Cx} {C fI : Addr}
/-- NoText(e) -/
def tMkNt (C : Addr) (ta : TA) : St → Hp → XK → Prop := fun σ H Q => ta σ H fun vs H1 => ∃ v, vs = [v] ∧ ∀ d, H1 d = none → Q (.ref C) (some d) (upd H1 d (.xd [(("at" : Str), v)]))
theorem pmk_nt {a : Expr} {ta : TA} {p pos : Pos} {k : Nat} (T : PySem.NtX.NtTxt X.K X.mg C fI) (hr : Room k X.A) (ha : PA X [a] ta) (hg : Gl X "NoText" := by rfl)
    (he : starEach (a :: []) X.env = (false, eval a X.env) :: starEach [] X.env := by rfl) (hpl : (backTo pos (starEach [] X.env)).any (·.1) = false := by rfl) :
    PMk X (.Call (.Name "NoText" p) [a] [] pos) (tMkNt C ta) := by
  intro pins s σ H Q I h
  refine wpAny_Call_Name_kw (ld_glob I hg T.gC ?_)
  refine PySem.W.callWith_K (h₀ := X.base) I.ok.mod.kin T.kC (thn (ha.run pos pins s σ H _ I h) fun us s1 hh => ?_) he hpl
  obtain ⟨vs, H1, I1, r1, v, ev, q1⟩ := hh
  subst ev
  refine ⟨I1.kIn, ?_⟩
  cases r1 with
  | cons rv rn =>
    rename_i v' us'
    cases rn
    show wpAny _ _ (call (.ref C) [v']) _ _ _
    have hlim := I1.nolimit
    obtain ⟨hp, g, dr, tk, os⟩ := s1
    refine wpAny_call (PySem.NtX.nt_made T I1.kIn hlim (by have := hr.dp; omega) fun h' tk' e d M => ?_)
    show MkP X pins σ Q (.ref e) ⟨h', g, dr, tk', os⟩
    obtain ⟨oe, fv, hoe, hc, hd, hdat, h1⟩ := M.obj
    have hns := M.ns
    obtain ⟨G', g1, g2⟩ := restrict h' fun b => decide (b ≠ e)
    have gk : ∀ b, b ≠ e → G'.get? b = h'.get? b := fun b hb => g1 b (decide_eq_true hb)
    have ge : G'.get? e = none := g2 e (by simp)
    have old : ∀ b o, hp.get? b = some o → G'.get? b = some o := fun b o q => (gk b (Nat.ne_of_lt (Nat.lt_of_lt_of_le (Heap.lt_size q) M.new))).trans (M.keep b o q)
    have ob : ObjOk X.prog X.w (upd H1 d (.xd [(("at" : Str), v)])) G' d (.xd [(("at" : Str), v)]) :=
      ⟨_, hns.at (fun o q => (gk d M.dne).trans q), fun f => relO_nt rv f⟩
    have J : Inv X pins σ (upd H1 d (.xd [(("at" : Str), v)])) ⟨G', g, dr, tk', os⟩ := I1.laid (t' := tk') old M.dbig ob
    refine ⟨e, oe, fv, ⟨G', g, dr, tk', os⟩, _, .ref C, some d, rfl, J, fun b o q => ?_, ge, hoe, ⟨hc, hd⟩, hdat, h1, ?_, rfl, I1.bare, raises_own T.exC T.tyC, q1 d (I1.hok.fresh M.dbig)⟩
    · by_cases hb : b = e
      · have q' : G'.get? b = some o := q
        rw [hb, ge] at q'; cases q'
      · exact (gk b hb).symm.trans q
    · rw [upd_ne (Ne.symm M.dne)]
      exact I1.hok.fresh M.new
end
end L2
namespace Ev
open PySem PySem.Spec PyProof.Rows L2
/-! ### raise -/
theorem RelSl.drop {K : PySem.W.Frag} {io : Nat → Addr} {F : Addr → Prop} {n : Nat} {H : Hp} {sd : Slots} {σ : L2.St} (h : RelSl K io F n H sd σ) (i : Nat) : RelSl K io F n H (sd.set i none) (σ.set i none) := by
  refine ⟨by rw [List.length_set, List.length_set]; exact h.1, fun j e q => ?_⟩
  by_cases hj : i = j
  · subst hj
    by_cases hl : i < sd.length
    · rw [List.getElem?_set_self hl] at q; cases q
    · rw [List.getElem?_eq_none (by rw [List.length_set]; omega)] at q; cases q
  · rw [List.getElem?_set_ne hj] at q
    obtain ⟨w, a, b⟩ := h.2 j e q
    exact ⟨w, by rw [List.getElem?_set_ne hj]; exact a, b⟩
def mRaise0 (C : Str) (ce : ME) : MS := fun s m => (ce s m).then_ s fun _ m1 => .xc C [] s m1
def mRaiseAt (ce : ME) : MS := fun s m => (ce s m).then_ s fun x m1 => .xc "NoText" [("at", x)] s m1
section
variable {k : Nat} {X : Cx} {W : WT} {e : Expr} {ce ca : ME}
theorem d_raise0 {C : Str} {Ca : Addr} {p pos pos2 : Pos} (hh : Here k W X) (q : PySem.W.excIn X.K Ca [.type "ValueError", .type "Exception", .type "BaseException", .type "object"] "ValueError.__new__" = true) (gC : X.mg C = some (.ref Ca)) (kC : PySem.W.keepIn X.K (.ref Ca) = true)
    (r : Raises X (.ref Ca)) (hg : Gl X C) (he : PE X e (tE (ctOf X) W ce)) (hs : starEach [e] X.env = (false, eval e X.env) :: starEach [] X.env := by rfl) (hdb : (C == ("__debug__" : Str)) = false := by decide) :
    PS X (.Raise (some (.Call (.Name C p) [e] [] pos)) none pos2) (tS (ctOf X) W (mRaise0 C ce)) :=
  ps_imp (ps_raise hh.calm hh.tk (SkE.pmk_own1 PySem.F.excBase_ValueError q gC kC r hg he hs hdb)) fun D σ H h =>
    (tS.then_ (R := RD (ctOf X)) (cx := ce) (f := fun _ sd m1 => .xc C [] sd m1) h).imp fun v H1 ⟨io, F, m, sd, d, S, rs, r, p⟩ =>
      p io F H1 (.ref Ca) none σ (Ext.refl S) S ⟨Ca, gC, rfl, .inl ⟨rfl, rfl⟩⟩ rs
theorem d_raiseAt {C fI : Addr} {p pos pos2 : Pos} (hh : Here k W X) (T : PySem.NtX.NtTxt X.K X.mg C fI) (hg : Gl X "NoText") (he : PE X e (tE (ctOf X) W ce))
    (hs : starEach [e] X.env = (false, eval e X.env) :: starEach [] X.env := by rfl) (hpl : (backTo pos (starEach [] X.env)).any (·.1) = false := by rfl) :
    PS X (.Raise (some (.Call (.Name "NoText" p) [e] [] pos)) none pos2) (tS (ctOf X) W (mRaiseAt ce)) :=
  ps_imp (ps_raise hh.calm hh.tk (pmk_nt T hh.rm (pa_cons he pa_nil hs) hg hs hpl)) fun D σ H h =>
    (tS.then_ (R := RD (ctOf X)) (cx := ce) (f := fun x sd m1 => .xc "NoText" [("at", x)] sd m1) h).imp fun v H1 ⟨io, F, m, sd, d, S, rs, r, p⟩ => by
      refine ⟨v, rfl, fun dx hdx => ?_⟩
      have E := Ext.addF (o := .xd [(("at" : Str), v)]) S hdx
      have M := S.mono E
      exact p io (orF F dx) _ (.ref C) (some dx) σ E (S.newF hdx) ⟨C, T.gC, rfl, .inr ⟨dx, [(("at" : Str), v)], rfl, .inr rfl, upd_same, by simp only [RelF]; exact ⟨⟨trivial, (r : RelD _ _ _ _ _ _ _).mono M⟩, trivial⟩⟩⟩ (rs.mono M)
/-- an own class of errors without __init__ -/
structure ErrA (K : PySem.W.Frag) (Ca : Addr) : Prop where
  q : PySem.W.excIn K Ca [.type "ValueError", .type "Exception", .type "BaseException", .type "object"] "ValueError.__new__" = true
  kC : PySem.W.keepIn K (.ref Ca) = true
  r1 : PySem.W.subIn K (.ref Ca) (.type "BaseException") = some true
  r2 : PySem.W.typeIn K (.ref Ca) = some (.type "type")
theorem d_raiseA {C : Str} {Ca : Addr} {p pos pos2 : Pos} (hh : Here k W X) (gC : X.mg C = some (.ref Ca)) (T : ErrA X.K Ca) (hg : Gl X C) (he : PE X e (tE (ctOf X) W ce)) (hs : starEach [e] X.env = (false, eval e X.env) :: starEach [] X.env := by rfl) (hdb : (C == ("__debug__" : Str)) = false := by decide) :
    PS X (.Raise (some (.Call (.Name C p) [e] [] pos)) none pos2) (tS (ctOf X) W (mRaise0 C ce)) := d_raise0 hh T.q gC T.kC (raises_own T.r1 T.r2) hg he hs hdb
theorem nt_xf {K : PySem.W.Frag} {mg : Str → Option Value} {C fI : Addr} (T : PySem.NtX.NtTxt K mg C fI) : ∀ D, mg "NoText" = some (.ref D) → XfC K D ∧ PySem.W.findIn K (.ref D) "at" = some none := by
  intro D h
  rw [T.gC] at h
  cases h
  exact ⟨⟨T.ga, T.gg, T.exC, T.hdC⟩, T.noN⟩
/-! ### try: .. except C as n: y = n -/
def mTryK (sub : Str → Option Bool) (i j : Nat) (c : MS) : MS := fun s m => match c s m with
  | .xc C fs s1 m1 => (match sub C with
    | some true => .nx (((s1.set i (some (.ref m1.nx))).set j (some (.ref m1.nx))).set i none) (m1.add (.exn C fs))
    | some false => .xc C fs s1 m1
    | none => .bad)
  | o => o
theorem Here.tr (hh : Here k W X) {W' : WT} {pn : List (Addr × Obj)} {xe : Value → Shared → Prop} (tk : L2.Takes (X.tr pn xe) W') (po : PassesOwn (model X.prog X.w) X.A X.env xe) : Here k W' (X.tr pn xe) :=
  ⟨hh.gd, hh.calm, hh.nd, hh.rm, po, tk⟩
theorem d_tryK {sub : Str → Option Bool} {i j : Nat} {x n y : Str} {c : Value} {body : List Stmt} {np pos pos' p1 p2 p3 : Pos} {cb : MS} (hh : Here k W X) (hc : Names X x c)
    (hsub : ∀ C b, sub C = some b → ∀ Ca, X.mg C = some (.ref Ca) → PySem.W.exmOne X.K (.ref Ca) c = some b)
    (hb : ∀ (W' : WT) (pn : List (Addr × Obj)) (xe : Value → Shared → Prop), Here k W' (X.tr pn xe) → PSs (X.tr pn xe) body (tS (ctOf X) W' cb))
    (hi : X.N[i]? = some n := by rfl) (hj : X.N[j]? = some y := by rfl) (hs : X.stack = X.env :: X.outer := by rfl) (hf : X.env.frame = some X.env.locals := by rfl) (hln : X.env.kindOf n = some .local := by rfl)
    (hlj : Loc X.env.scope y := by first | exact .inl rfl | exact .inr rfl) (hfj : X.fn y = true ∨ X.env.scope.names.lookup y = some .local := by first | exact .inl rfl | exact .inr rfl) (hdn : (n == ("__debug__" : Str)) = false := by decide) (hdc : (n == ("__classdict__" : Str)) = false := by decide)
    (hsw : ∀ X' : Cx, X'.env = X.env → swapsWith (.Name n p2) (some (.Name y p1)) p3.line X'.env = pure false := by intro _ _; rfl) (hex : X.ex = [] := by rfl) :
    PS X (.Try body [.ExceptHandler (some (.Name x np)) (some n) [.Assign [.Name y p1] (.Name n p2) p3] pos'] [] [] pos) (tS (ctOf X) W (mTryK sub i j cb)) :=
  ps_imp (ps_try_keep (tb := fun W' => tS (ctOf X) W' cb) (Wout := W) hs hf hh.nd hi hln hj hlj hfj hdn hdc hsw hex hc hh.tk fun W' pn xe tk po => hb W' pn xe (hh.tr tk po)) fun D σ H h => by
    obtain ⟨io, F, m, sd, S, rs, p⟩ := h
    refine ⟨io, F, m, sd, S, rs, ?_⟩
    unfold mTryK at p
    cases q : cb sd m with
    | nx s1 m1 => rw [q] at p; exact p
    | bk s1 m1 => rw [q] at p; exact p
    | ct s1 m1 => rw [q] at p; exact p
    | rt d m1 => rw [q] at p; exact p
    | bad => rw [q] at p; exact p
    | xc C fs s1 m1 =>
      rw [q] at p
      dsimp only at p
      intro io' F' H' cls d σ' E S' x rs'
      cases q2 : sub C with
      | none => rw [q2] at p; exact p.elim
      | some b =>
        obtain ⟨Ca, g, rfl, fx⟩ := x
        refine ⟨b, hsub C b q2 Ca g, fun hb a na => ?_, fun hb => ?_⟩
        · subst hb
          rw [q2] at p
          dsimp only at p
          have E1 := Ext.alloc (u := .exn C fs) (o := exK (.ref Ca) d a) S' na
          have M := S'.mono E1
          have hu : RelO (ctOf X) (ioN io' m1.nx a) F' (m1.nx + 1) (upd H' a (exK (.ref Ca) d a)) (.exn C fs) a := by
            refine ⟨Ca, d, g, upd_same, fx.imp id ?_⟩
            rintro ⟨dx, fs', e1, f, e2, r⟩
            exact ⟨dx, fs', e1, f, by rw [upd_ne (ne_of_none e2 na)]; exact e2, r.mono M⟩
          have S1 := S'.alloc na hu
          have r1 : RelD X.K (ioN io' m1.nx a) F' (m1.add (.exn C fs)).nx (upd H' a (exK (.ref Ca) d a)) (.ref m1.nx) (.ref a) := by
            simp only [RelD]
            exact ⟨Nat.lt_succ_self _, by rw [ioN_self]⟩
          exact p _ _ _ _ (E.trans E1) S1 ((((rs'.mono M).set r1).set r1).drop i)
        · subst hb
          rw [q2] at p
          exact p io' F' H' _ d σ' E S' ⟨Ca, g, rfl, fx⟩ rs'
/-! ### isinstance of what is kept -/
theorem inst_at {P : Program} {w : World} {H : Hp} {h : Heap} {a D : Addr} {d : Option Addr} (hok : HOk P w H h) (he : H a = some (exK (.ref D) d a)) (hd : ∀ dx, d = some dx → ∃ fs, H dx = some (.xd fs)) : ∃ oe od, PySem.W.InstAt h a oe D od := by
  obtain ⟨⟨oe, vs, e, z, q⟩, _⟩ := (show ObjOk P w H h a (exK (.ref D) d a) from hok a _ he)
  obtain ⟨h1, h2⟩ := z
  cases d with
  | none => exact ⟨oe, none, e, h1, by unfold PySem.W.notCls; rw [q] <;> rfl, by rw [h2]; trivial⟩
  | some dx =>
    obtain ⟨fs, hx⟩ := hd dx rfl
    obtain ⟨mA, hns, _⟩ := (show ObjOk P w H h dx (.xd fs) from hok dx _ hx)
    obtain ⟨od, ho, _⟩ := lookIn_ns hns
    exact ⟨oe, some od, e, h1, by unfold PySem.W.notCls; rw [q] <;> rfl, by rw [h2]; exact ho⟩
theorem ExcC.clsSome {K : PySem.W.Frag} {D : Addr} (C : ExcC K D) : (PySem.W.clsIn K D).isSome = true := by
  obtain ⟨cd, hc, _⟩ := PySem.W.any_some C.hd
  rw [hc]; rfl
def rIsK (K : PySem.W.Frag) : List V → Hp → VK → Prop := fun xs H Q => ∃ (a D : Addr) (d : Option Addr) (c : V) (cv : Value) (b : Bool), xs = [.ref a, c] ∧ H a = some (exK (.ref D) d a) ∧ (∀ dx, d = some dx → ∃ fs, H dx = some (.xd fs)) ∧ ExcC K D ∧
  (∀ u, RelV c u → u = cv) ∧ PySem.W.kitOne K (.ref D) cv = some b ∧ Q (.bl b) H
theorem call_isK : CallR X (.builtin "isinstance") (rIsK X.K) := by
  intro pins s σ H xs us Q I r h
  obtain ⟨a, D, d, c, cv, b, rfl, ha, hd, C, hcv, e, q⟩ := h
  cases r with
  | cons rx rr =>
    cases rr with
    | cons rt rr =>
      cases rr
      cases rx
      have ec := hcv _ rt
      subst ec
      obtain ⟨oe, od, J⟩ := inst_at I.hok ha hd
      exact PySem.W.kia_one (PySem.W.kitx_exc (ExcC.clsSome C) C.hg C.hk C.hs C.ha C.hn C.ht C.hm) I.kIn J e (fun z => nomatch z) fun tk => ⟨.bl b, H, I.kept (t' := tk) fun _ _ z => z, rfl, q⟩
def rIsT (K : PySem.W.Frag) : List V → Hp → VK → Prop := fun xs H Q => ∃ (a D t : Addr) (d : Option Addr) (cs : List Addr) (b : Bool), xs = [.ref a, .ref t] ∧ H a = some (exK (.ref D) d a) ∧ (∀ dx, d = some dx → ∃ fs, H dx = some (.xd fs)) ∧ ExcC K D ∧
  H t = some (.tup (cs.map V.ref)) ∧ PySem.W.kitAny K (.ref D) (cs.map Value.ref) = some b ∧ Q (.bl b) H
theorem refs_vals : ∀ {cs : List Addr} {us : List Value}, Vals (cs.map V.ref) us → us = cs.map Value.ref
  | [], _, .nil => rfl
  | c :: cs, _, .cons r t => by
    cases r
    rw [refs_vals t]; rfl
theorem call_isT : CallR X (.builtin "isinstance") (rIsT X.K) := by
  intro pins s σ H xs us Q I r h
  obtain ⟨a, D, t, d, cs, b, rfl, ha, hd, C, ht, e, q⟩ := h
  cases r with
  | cons rx rr =>
    cases rr with
    | cons rt rr =>
      cases rr
      cases rx
      cases rt
      obtain ⟨oe, od, J⟩ := inst_at I.hok ha hd
      obtain ⟨_, its, rv, ot, ho, hc, n, hdt⟩ := (show ObjOk X.prog X.w H s.heap t (.tup (cs.map V.ref)) from I.hok t _ ht)
      obtain ⟨oc, odd, oda, osl⟩ := ot
      dsimp only at hc hdt
      subst hc
      subst hdt
      rw [refs_vals rv] at ho
      exact PySem.W.kia_tup (PySem.W.kitx_exc (ExcC.clsSome C) C.hg C.hk C.hs C.ha C.hn C.ht C.hm) I.kIn J ho e (fun z => nomatch z) fun tk => ⟨.bl b, H, I.kept (t' := tk) fun _ _ z => z, rfl, q⟩
def opIsE (sub : Str → Option Bool) : O1 := fun x m => match x with
  | .ref j => (match m.ob j with
    | some (.exn C _) => (sub C).map .bl
    | _ => none)
  | _ => none
theorem isE_at {io : Nat → Addr} {F : Addr → Prop} {m : Mem} {H : Hp} {x z : D} {v : V} {sub : Str → Option Bool} (S : Sim (ctOf X) io F m H) (r : RelD X.K io F m.nx H x v) (hz : opIsE sub x m = some z) :
    ∃ (a D : Addr) (d : Option Addr) (C : Str) (b : Bool), v = .ref a ∧ H a = some (exK (.ref D) d a) ∧ (∀ dx, d = some dx → ∃ fs, H dx = some (.xd fs)) ∧ X.mg C = some (.ref D) ∧ sub C = some b ∧ z = .bl b := by
  unfold opIsE at hz
  split at hz
  · rename_i j
    split at hz
    · rename_i C fs e1
      rw [Option.map_eq_some_iff] at hz
      obtain ⟨b, hb, rfl⟩ := hz
      simp only [RelD] at r
      obtain ⟨Ca, d, g, ha, fx⟩ := S.ob j _ e1
      refine ⟨io j, Ca, d, C, b, r.2, ha, fun dx e => ?_, g, hb, rfl⟩
      rcases fx with ⟨_, e2⟩ | ⟨dx', fs', e2, _, e3, _⟩
      · rw [e] at e2; cases e2
      · rw [e] at e2; cases e2; exact ⟨fs', e3⟩
    · cases hz
  · cases hz
theorem d_isE {sub : Str → Option Bool} {e2 : Expr} {c : V} {cv : Value} {p pos : Pos} (hg : Gl X "isinstance") (hm : X.mg "isinstance" = none) (ha : PE X e (tE (ctOf X) W ca)) (h2 : PE X e2 (tC c)) (hcv : ∀ u, RelV c u → u = cv)
    (hsub : ∀ C b, sub C = some b → ∀ D, X.mg C = some (.ref D) → PySem.W.kitOne X.K (.ref D) cv = some b ∧ ExcC X.K D)
    (he : starEach [e, e2] X.env = (false, eval e X.env) :: starEach [e2] X.env := by rfl) (he2 : starEach [e2] X.env = (false, eval e2 X.env) :: starEach [] X.env := by rfl) (hpl : (backTo pos (starEach [e2] X.env)).any (·.1) = false := by rfl) :
    PE X (.Call (.Name "isinstance" p) [e, e2] [] pos) (tE (ctOf X) W (mO1 (opIsE sub) ca)) :=
  pe_imp (pe_callB call_isK hg hm boot_isinstance (pa_cons ha (pa_cons h2 pa_nil he2) he) (by decide) (by decide) he hpl) fun σ H Q h => (tO1_of h).imp fun x H1 h2 => by
    obtain ⟨io, F, m, d, S, r, z, hz, kk⟩ := h2
    obtain ⟨a, D, dd, C, b, rfl, h1, h3, g, hb, rfl⟩ := isE_at S r hz
    obtain ⟨k1, k2⟩ := hsub C b hb D g
    exact ⟨a, D, dd, c, cv, b, rfl, h1, h3, k2, hcv, k1, kk.now S (by simp only [RelD])⟩
theorem d_isT {sub : Str → Option Bool} {es : List Expr} {cs : List Addr} {x1 : Nat} {p pt pos : Pos} (hg : Gl X "isinstance") (hm : X.mg "isinstance" = none) (ha : PE X e (tE (ctOf X) W ca)) (h2 : PA X es (fun σ H Q => Q (cs.map V.ref) H)) (hcs : cs.length ≤ 1000)
    (hsub : ∀ C b, sub C = some b → ∀ D, X.mg C = some (.ref D) → PySem.W.kitAny X.K (.ref D) (cs.map Value.ref) = some b ∧ ExcC X.K D)
    (he : starEach [e, .Tuple es x1 pt] X.env = (false, eval e X.env) :: starEach [.Tuple es x1 pt] X.env := by rfl) (he2 : starEach [.Tuple es x1 pt] X.env = (false, eval (.Tuple es x1 pt) X.env) :: starEach [] X.env := by rfl) (hpl : (backTo pos (starEach [.Tuple es x1 pt] X.env)).any (·.1) = false := by rfl) :
    PE X (.Call (.Name "isinstance" p) [e, .Tuple es x1 pt] [] pos) (tE (ctOf X) W (mO1 (opIsE sub) ca)) :=
  pe_imp (pe_callB call_isT hg hm boot_isinstance (pa_cons ha (pa_cons (pe_tup h2) pa_nil he2) he) (by decide) (by decide) he hpl) fun σ H Q h => (tO1_of h).imp fun x H1 h2 => by
    obtain ⟨io, F, m, d, S, r, z, hz, kk⟩ := h2
    obtain ⟨a, D, dd, C, b, rfl, h1, h3, g, hb, rfl⟩ := isE_at S r hz
    obtain ⟨k1, k2⟩ := hsub C b hb D g
    refine ⟨by rw [List.length_map, sizeLine_eq]; omega, fun t ht => ?_⟩
    obtain ⟨S2, E2⟩ := S.extra (o := .tup (cs.map V.ref)) ht
    have up : ∀ {q : Addr} {o : HO}, H1 q = some o → upd H1 t (.tup (cs.map V.ref)) q = some o := fun {q o} h => by rw [upd_ne (ne_of_none h ht)]; exact h
    exact ⟨a, D, t, dd, cs, b, rfl, up h1, fun dx e => let ⟨fs, q⟩ := h3 dx e; ⟨fs, up q⟩, k2, upd_same, k1, kk io F _ _ E2 S2 (by simp only [RelD])⟩
theorem pas_nil : PA X [] (fun σ H Q => Q (([] : List Addr).map V.ref) H) := pa_nil
theorem pas_cons {x : Str} {c : Addr} {es : List Expr} {cs : List Addr} {pos : Pos} (hg : Gl X x) (hm : X.mg x = some (.ref c)) (h : PA X es (fun σ H Q => Q (cs.map V.ref) H)) (hs : starEach (.Name x pos :: es) X.env = (false, eval (.Name x pos) X.env) :: starEach es X.env := by rfl) (hd : (x == ("__debug__" : Str)) = false := by decide) :
    PA X (.Name x pos :: es) (fun σ H Q => Q ((c :: cs).map V.ref) H) := pa_cons (pe_glob (v := .ref c) hg hm rfl hd) h hs
theorem kit_ref {K : PySem.W.Frag} {D C : Addr} {b : Bool} (hself : PySem.W.subIn K (.ref D) (.ref D) = some true) (hd : PySem.W.hasDictIn K C = true) (ht : PySem.W.typeIn K (.ref C) = some (.type "type")) (hs : PySem.W.subIn K (.ref D) (.ref C) = some b) : PySem.W.kitOne K (.ref D) (.ref C) = some b := by
  unfold PySem.W.kitOne
  split
  · rename_i q
    have e : D = C := Value.ref.inj (beq_iff_eq.mp q)
    subst e
    rw [hself] at hs
    exact hs
  · obtain ⟨cd, hc, _⟩ := PySem.W.any_some hd
    have e2 : ((PySem.W.clsIn K C).isSome && PySem.W.typeIn K (.ref C) == some (.type "type")) = true := by rw [hc, ht] <;> rfl
    show (if ((PySem.W.clsIn K C).isSome && PySem.W.typeIn K (.ref C) == some (.type "type")) = true then PySem.W.subIn K (.ref D) (.ref C) else none) = some b
    rw [if_pos e2]
    exact hs
theorem kit_typ {K : PySem.W.Frag} {D : Addr} {T : String} {b : Bool} (hs : PySem.W.subIn K (.ref D) (.type T) = some b) (hm : PySem.W.kitMeta T = true) : PySem.W.kitOne K (.ref D) (.type T) = some b := by
  unfold PySem.W.kitOne
  rw [if_neg (by simp)]
  show (if PySem.W.kitMeta T = true then PySem.W.subIn K (.ref D) (.type T) else none) = some b
  rw [if_pos hm]
  exact hs
theorem kit_nil {K : PySem.W.Frag} {t : Value} : PySem.W.kitAny K t (([] : List Addr).map Value.ref) = some false := rfl
theorem kit_no {K : PySem.W.Frag} {t : Value} {c : Addr} {r : List Addr} {b : Bool} (h : PySem.W.kitOne K t (.ref c) = some false) (h2 : PySem.W.kitAny K t (r.map Value.ref) = some b) : PySem.W.kitAny K t ((c :: r).map Value.ref) = some b := by
  show PySem.W.kitAny K t (.ref c :: r.map Value.ref) = some b
  unfold PySem.W.kitAny
  rw [h]
  exact h2
theorem kit_yes {K : PySem.W.Frag} {t : Value} {c : Addr} {r : List Addr} (h : PySem.W.kitOne K t (.ref c) = some true) : PySem.W.kitAny K t ((c :: r).map Value.ref) = some true := by
  show PySem.W.kitAny K t (.ref c :: r.map Value.ref) = some true
  unfold PySem.W.kitAny
  rw [h]
/-! ### a field of it -/
def opFld (C0 f : Str) : O1 := fun x m => match x with
  | .ref j => (match m.ob j with
    | some (.exn C fs) => if C = C0 then fs.lookup f else none
    | _ => none)
  | _ => none
theorem relF_lookup {K : PySem.W.Frag} {io : Nat → Addr} {F : Addr → Prop} {n : Nat} {H : Hp} {f : Str} : ∀ {fs : List (Str × D)} {gs : List (Str × V)} {z : D}, RelF K io F n H fs gs → fs.lookup f = some z → ∃ v, gs.lookup f = some v ∧ RelD K io F n H z v
  | [], _, _, _, h => by cases h
  | _ :: _, [], _, r, _ => by simp only [RelF] at r
  | (a, x) :: fs, (b, y) :: gs, z, r, h => by
    simp only [RelF] at r
    obtain ⟨⟨e, r1⟩, r2⟩ := r
    subst e
    rw [List.lookup_cons] at h ⊢
    cases q : (f == a) with
    | true =>
      rw [q] at h
      cases h
      exact ⟨y, rfl, r1⟩
    | false =>
      rw [q] at h
      exact relF_lookup r2 h
theorem d_fld {C0 f : Str} {pos : Pos} (ha : PE X e (tE (ctOf X) W ca)) (hC : ∀ D, X.mg C0 = some (.ref D) → XfC X.K D ∧ PySem.W.findIn X.K (.ref D) f = some none) (hb : attributeBase e f X.env (eval e X.env) = eval e X.env := by rfl) :
    PE X (.Attribute e f pos) (tE (ctOf X) W (mO1 (opFld C0 f) ca)) := by
  refine ⟨fun pins s σ H Q I h => ?_⟩
  refine attr_of hb (thn (ha.run pins s σ H _ I (tO1_of h)) fun u s1 hh => ?_)
  obtain ⟨x, H1, I1, rx, io, F, m, d, S, r, z, hz, kk⟩ := hh
  unfold opFld at hz
  split at hz
  · rename_i j
    split at hz
    · rename_i C fs e1
      split at hz
      · rename_i eC
        subst eC
        simp only [RelD] at r
        obtain ⟨rfl⟩ := r.2
        obtain rfl : u = Value.ref (io j) := rx
        obtain ⟨Ca, dd, g, h1, fx⟩ := S.ob j _ e1
        obtain ⟨T, hno⟩ := hC Ca g
        rcases fx with ⟨e2, _⟩ | ⟨dx, fs', e2, _, e3, rf⟩
        · rw [e2] at hz; cases hz
        · subst e2
          obtain ⟨v, hv, rv⟩ := relF_lookup rf hz
          obtain ⟨⟨oe, vs, eo, zz, qd⟩, _⟩ := (show ObjOk X.prog X.w H1 s1.heap (io j) (exK (.ref Ca) (some dx) (io j)) from I1.hok _ _ h1)
          obtain ⟨mA, hns, hr⟩ := (show ObjOk X.prog X.w H1 s1.heap dx (.xd fs') from I1.hok dx _ e3)
          obtain ⟨od, ho, hl⟩ := lookIn_ns hns
          obtain ⟨u, hu, ru⟩ := RelO.some_of (v := v) (o := mA f) (by rw [← hv]; exact hr f)
          have J : PySem.W.InstAt s1.heap (io j) oe Ca (some od) := ⟨eo, zz.1, by unfold PySem.W.notCls; rw [qd] <;> rfl, by rw [zz.2]; exact ho⟩
          exact HandSPX.exc_get I1.kIn J T.ga T.gg T.exC (PySem.W.findObj_own T.hdC hno rfl (by rw [hl, hu])) (handed_of ru) ⟨v, H1, I1.tok _, ru, kk.now S rv⟩
      · cases hz
    · cases hz
  · cases hz
/-- of one class of errors alone -/
def sub1 (C0 : Str) (b : Bool) : Str → Option Bool := fun C => if C = C0 then some b else none
theorem sub1_of {mg : Str → Option Value} {P : Addr → Bool → Prop} {C0 : Str} {b : Bool} {Ca : Addr} (g : mg C0 = some (.ref Ca)) (h : P Ca b) : ∀ C b', sub1 C0 b C = some b' → ∀ D, mg C = some (.ref D) → P D b' := by
  intro C b' e D hD
  unfold sub1 at e
  split at e
  · rename_i q
    subst q
    cases e
    rw [g] at hD
    cases hD
    exact h
  · cases e
end
end Ev

set_option Elab.async false
set_option linter.all false
set_option maxRecDepth 100000
set_option autoImplicit false
/-! Ev32: errors in mathematics. -/
namespace Ev
open PySem PySem.Spec PyProof.Rows L2
section
variable {N : Slots → Mem → Prop} {R : D → Mem → Prop} {B C : Slots → Mem → Prop} {X : XS} {s : Slots} {m : Mem} {Q : D → Mem → Prop} {XX : XQ}
theorem w_raise0 {K : Str} {ce : ME} (h : wp (ce s m) (fun _ m1 => X K [] s m1) (fun K fs m1 => X K fs s m1)) : ws (mRaise0 K ce s m) N R B C X := w_then h
theorem w_raiseAt {ce : ME} (h : wp (ce s m) (fun x m1 => X "NoText" [("at", x)] s m1) (fun K fs m1 => X K fs s m1)) : ws (mRaiseAt ce s m) N R B C X := w_then h
theorem w_tryK {sub : Str → Option Bool} {i j : Nat} {c : MS}
    (h : ws (c s m) N R B C (fun K fs s1 m1 => ∃ b, sub K = some b ∧ (b = true → N (((s1.set i (some (.ref m1.nx))).set j (some (.ref m1.nx))).set i none) (m1.add (.exn K fs))) ∧ (b = false → X K fs s1 m1))) : ws (mTryK sub i j c s m) N R B C X := by
  unfold mTryK
  cases q : c s m with
  | xc K fs s1 m1 =>
    rw [q] at h
    obtain ⟨b, e, h1, h2⟩ := h
    dsimp only
    rw [e]
    cases b with
    | true => exact h1 rfl
    | false => exact h2 rfl
  | nx s1 m1 => rw [q] at h; exact h
  | bk s1 m1 => rw [q] at h; exact h
  | ct s1 m1 => rw [q] at h; exact h
  | rt d m1 => rw [q] at h; exact h
  | bad => rw [q] at h; exact h
theorem q_isE {sub : Str → Option Bool} {j : Nat} {K : Str} {fs : List (Str × D)} {b : Bool} (e : m.ob j = some (.exn K fs)) (hs : sub K = some b) (h : Q (.bl b) m) : wp (Res.of (opIsE sub (.ref j) m) m) Q XX := by
  unfold opIsE
  dsimp only
  rw [e]
  dsimp only
  rw [hs]
  exact h
theorem q_fld {j : Nat} {K f : Str} {fs : List (Str × D)} {z : D} (e : m.ob j = some (.exn K fs)) (hf : fs.lookup f = some z) (h : Q z m) : wp (Res.of (opFld K f (.ref j) m) m) Q XX := by
  unfold opFld
  dsimp only
  rw [e]
  dsimp only
  rw [if_pos rfl, hf]
  exact h
end
end Ev

set_option Elab.async false
set_option linter.all false
set_option maxRecDepth 100000
set_option autoImplicit false
namespace BG
open PySem PySem.Spec PyProof.Rows L2 Ev 
def m__law_pen : MS :=
    (mRet (mNewD (mPc (mC (.str "cells")) (mCB opList (mCons (mSl (mV 0) mPartN (mPart (mC (.int 63)))) mNil)) (mPc (mC (.str "at")) (mC (.int 0)) (mPc (mC (.str "left")) (mC (.int 0)) mPn)))))
def g__law_pen : List D → Mem → Res D := body 1 1 (m__law_pen)
def m__law_draw : MS :=
    (mSeq (mIf (mT (mOp opGt (mOp opIx (mV 0) (mC (.str "left"))) (mC (.int 0)))) (mSeq (mSet 2 (mOp opMod (mOp opIx (mV 0) (mC (.str "left"))) (mV 1)))
    (mSeq (mDPut (mV 0) (mC (.str "left")) (mOp opDiv (mOp opIx (mV 0) (mC (.str "left"))) (mV 1)))
    (mRet (mV 2)))) mSkip)
    (mSeq (mSet 3 (mOp opIx (mV 0) (mC (.str "cells"))))
    (mSeq (mSet 4 (mOp opIx (mV 0) (mC (.str "at"))))
    (mSeq (mDPut (mV 0) (mC (.str "at")) (mOp opAdd (mV 4) (mC (.int 1))))
    (mSeq (mSet 5 (mOp opAdd (mOp opMul (mC (.int 30011)) (mV 4)) (mC (.int 77))))
    (mSeq (mIf (mT (mOp opNe (mV 3) (mLst mNil))) (mSet 5 (mOp opIx (mV 3) (mOp opMod (mV 4) (mCB opLen (mCons (mV 3) mNil))))) mSkip)
    (mSeq (mIf (mAnd (mT (mOp opLt (mV 4) (mCB opLen (mCons (mV 3) mNil)))) (mT (mOp opGe (mCB opAbs (mCons (mV 5) mNil)) (mOp opPow (mC (.int 10)) (mC (.int 18)))))) (mSeq (mDPut (mV 0) (mC (.str "left")) (mOp opDiv (mCB opAbs (mCons (mV 5) mNil)) (mV 1)))
    (mRet (mOp opMod (mCB opAbs (mCons (mV 5) mNil)) (mV 1)))) mSkip)
    (mSeq (mSet 6 (mOp opMod (mOp opPow (mOp opAdd (mOp opAdd (mOp opMod (mV 5) (mC (.int 2147483587))) (mOp opMul (mC (.int 50021)) (mV 4))) (mC (.int 29))) (mC (.int 5))) (mC (.int 2147483629))))
    (mSeq (mSet 6 (mOp opMod (mOp opPow (mOp opAdd (mOp opMul (mV 6) (mOp opAdd (mOp opMul (mC (.int 2)) (mV 4)) (mC (.int 5)))) (mC (.int 81799))) (mC (.int 3))) (mC (.int 2147483647))))
    (mRet (mOp opMod (mOp opDiv (mV 6) (mC (.int 16))) (mV 1))))))))))))
def g__law_draw : List D → Mem → Res D := body 2 7 (m__law_draw)
def m__law_letters (g__law_draw : List D → Mem → Res D) : MS :=
    (mRet (mM_join1 (mC (.str "")) (mLc [2] (mRange rng1 (mCons (mV 1) mNil)) (aName 2) mYes (mOp opIx (mC (.str "abcdefghijklmnopqrstuvwxyz")) (mCall g__law_draw (mCons (mV 0) (mCons (mC (.int 26)) mNil)))))))
def g__law_letters : List D → Mem → Res D := body 2 3 (m__law_letters g__law_draw)
def m__law_fresh (g__law_draw : List D → Mem → Res D) (g__law_letters : List D → Mem → Res D) : MS :=
    (mSeq (mSet 2 (mC (.str "any ask cast catch close else end fault give if last leave make none note on rule try while")))
    (mSeq (mSet 3 (mLst (mCons (mC (.str "let")) (mCons (mC (.str "x")) (mCons (mC (.str "g")) (mCons (mC (.str "i")) (mCons (mC (.str "onn")) (mCons (mC (.str "a")) (mCons (mC (.str "rules")) (mCons (mC (.str "tryy")) mNil))))))))))
    (mSeq (mSet 4 (mOp opIx (mLst (mCons (mCall g__law_letters (mCons (mV 0) (mCons (mOp opAdd (mC (.int 1)) (mCall g__law_draw (mCons (mV 0) (mCons (mC (.int 7)) mNil)))) mNil))) (mCons (mOp opIx (mV 3) (mCall g__law_draw (mCons (mV 0) (mCons (mC (.int 8)) mNil)))) mNil))) (mCall g__law_draw (mCons (mV 0) (mCons (mC (.int 2)) mNil)))))
    (mSeq (mIf (mOr (mT (mOp opIn (mV 4) (mV 1))) (mOr (mT (mOp opIn (mV 4) (mM_split1 (mV 2) (mC (.str " "))))) (mT (mOp opEq (mCall g__law_draw (mCons (mV 0) (mCons (mC (.int 8)) mNil))) (mC (.int 0)))))) (mRet (mOp opAdd (mC (.str "qqqqqqq")) (mOp opIx (mC (.str "abcdefghijklmnop")) (mCB opLen (mCons (mV 1) mNil))))) mSkip)
    (mRet (mV 4))))))
def g__law_fresh : List D → Mem → Res D := body 2 5 (m__law_fresh g__law_draw g__law_letters)
def m__law_names (g__law_fresh : List D → Mem → Res D) : MS :=
    (mSeq (mSet 2 (mNewL mNil))
    (mSeq (mFor (mRange rng1 (mCons (mV 1) mNil)) (aName 3) (mDrop (mL1 appD (mV 2) (mCall g__law_fresh (mCons (mV 0) (mCons (mV 2) mNil))))))
    (mSeq (mFrz 2) (mRet (mV 2)))))
def g__law_names : List D → Mem → Res D := body 2 4 (m__law_names g__law_fresh)
def m__law_leaf (g__law_draw : List D → Mem → Res D) : MS :=
    (mSeq (mSet 2 (mCall g__law_draw (mCons (mV 0) (mCons (mC (.int 6)) mNil))))
    (mSeq (mSet 3 (mLc [5, 6] (mIter (mOp opIx (mV 1) (mC (.str "heads")))) (aTup 2 (aCons (aName 5) (aCons (aName 6) aNil))) (mT (mOp opEq (mV 6) (mTup mNil))) (mV 5)))
    (mSeq (mIf (mT (mOp opEq (mV 2) (mC (.int 0)))) (mRet (mTup (mCons (mC (.str "none")) mNil))) mSkip)
    (mSeq (mIf (mAnd (mT (mOp opEq (mV 2) (mC (.int 5)))) (mT (mOp opNe (mV 3) (mLst mNil)))) (mRet (mTup (mCons (mC (.str "make")) (mCons (mOp opIx (mV 3) (mCall g__law_draw (mCons (mV 0) (mCons (mCB opLen (mCons (mV 3) mNil)) mNil)))) (mCons (mTup mNil) mNil))))) mSkip)
    (mSeq (mIf (mT (mOp opLt (mV 2) (mC (.int 3)))) (mSeq (mSet 4 (mLst (mCons (mCall g__law_draw (mCons (mV 0) (mCons (mC (.int 4)) mNil))) (mCons (mOp opSub (mCall g__law_draw (mCons (mV 0) (mCons (mC (.int 100)) mNil))) (mC (.int 50))) (mCons (mOp opSub (mOp opPow (mC (.int 10)) (mC (.int 30))) (mC (.int 1))) (mCons (mOp opAdd (mO1 opNeg (mOp opPow (mC (.int 10)) (mC (.int 30)))) (mC (.int 1))) (mCons (mCall g__law_draw (mCons (mV 0) (mCons (mOp opPow (mC (.int 10)) (mC (.int 30))) mNil))) mNil)))))))
    (mRet (mTup (mCons (mC (.str "number")) (mCons (mOp opIx (mV 4) (mCall g__law_draw (mCons (mV 0) (mCons (mC (.int 5)) mNil)))) mNil))))) mSkip)
    (mRet (mTup (mCons (mC (.str "var")) (mCons (mOp opIx (mOp opIx (mV 1) (mC (.str "pool"))) (mCall g__law_draw (mCons (mV 0) (mCons (mCB opLen (mCons (mOp opIx (mV 1) (mC (.str "pool"))) mNil)) mNil)))) mNil)))))))))
def g__law_leaf : List D → Mem → Res D := body 2 7 (m__law_leaf g__law_draw)
def m__law_expression (g__law_draw : List D → Mem → Res D) (g__law_leaf : List D → Mem → Res D) (g__law_expression : List D → Mem → Res D) : MS :=
    (mSeq (mSet 4 (mCall g__law_draw (mCons (mV 0) (mCons (mC (.int 5)) mNil))))
    (mSeq (mIf (mOr (mT (mOp opLt (mV 2) (mC (.int 3)))) (mOr (mT (mOp opLt (mV 3) (mC (.int 2)))) (mT (mOp opLt (mV 4) (mC (.int 2)))))) (mRet (mCall g__law_leaf (mCons (mV 0) (mCons (mV 1) mNil)))) mSkip)
    (mSeq (mIf (mT (mOp opLt (mV 4) (mC (.int 4)))) (mSeq (mSet 5 (mOp opAdd (mC (.int 1)) (mCall g__law_draw (mCons (mV 0) (mCons (mOp opSub (mV 2) (mC (.int 2))) mNil)))))
    (mSeq (mSet 6 (mCall g__law_expression (mCons (mV 0) (mCons (mV 1) (mCons (mV 5) (mCons (mOp opSub (mV 3) (mC (.int 1))) mNil))))))
    (mRet (mTup (mCons (mC (.str "op")) (mCons (mOp opIx (mC (.str "+-*<=")) (mCall g__law_draw (mCons (mV 0) (mCons (mC (.int 5)) mNil)))) (mCons (mV 6) (mCons (mCall g__law_expression (mCons (mV 0) (mCons (mV 1) (mCons (mOp opSub (mOp opSub (mV 2) (mC (.int 1))) (mV 5)) (mCons (mOp opSub (mV 3) (mC (.int 1))) mNil))))) mNil)))))))) mSkip)
    (mSeq (mAsg (aTup 2 (aCons (aName 7) (aCons (aName 8) aNil))) (mOp opIx (mOp opIx (mV 1) (mC (.str "heads"))) (mCall g__law_draw (mCons (mV 0) (mCons (mCB opLen (mCons (mOp opIx (mV 1) (mC (.str "heads"))) mNil)) mNil)))))
    (mSeq (mSet 9 (mOp opSub (mV 2) (mC (.int 1))))
    (mSeq (mIf (mT (mOp opGt (mCB opLen (mCons (mV 8) mNil)) (mV 9))) (mRet (mCall g__law_leaf (mCons (mV 0) (mCons (mV 1) mNil)))) mSkip)
    (mSeq (mSet 10 (mNewL mNil))
    (mSeq (mFor (mRange rng1 (mCons (mCB opLen (mCons (mV 8) mNil)) mNil)) (aName 11) (mSeq (mSet 5 (mOp opAdd (mC (.int 1)) (mCall g__law_draw (mCons (mV 0) (mCons (mOp opAdd (mOp opSub (mV 9) (mOp opSub (mCB opLen (mCons (mV 8) mNil)) (mV 11))) (mC (.int 1))) mNil)))))
    (mSeq (mDrop (mL1 appD (mV 10) (mCall g__law_expression (mCons (mV 0) (mCons (mV 1) (mCons (mV 5) (mCons (mOp opSub (mV 3) (mC (.int 1))) mNil)))))))
    (mSet 9 (mOp opSub (mV 9) (mV 5))))))
    (mRet (mTup (mCons (mC (.str "make")) (mCons (mV 7) (mCons (mCB opTuple (mCons (mV 10) mNil)) mNil)))))))))))))
def r__law_expression : Nat → List D → Mem → Res D
  | 0 => fun _ _ => .bad
  | n + 1 => body 4 12 (m__law_expression g__law_draw g__law_leaf (r__law_expression n))
def g__law_expression : List D → Mem → Res D := r__law_expression 40
def m__law_word (g__law_letters : List D → Mem → Res D) (g__law_draw : List D → Mem → Res D) : MS :=
    (mSeq (mSet 1 (mLst (mCons (mC (.str "close")) (mCons (mC (.str "ring")) (mCons (mC (.str "kind")) (mCons (mC (.str "none")) (mCons (mC (.str "anyy")) (mCons (mC (.str "e")) (mCons (mC (.str "gives")) (mCons (mC (.str "if")) mNil))))))))))
    (mSeq (mSet 2 (mOp opIx (mLst (mCons (mOp opIx (mV 1) (mCall g__law_draw (mCons (mV 0) (mCons (mC (.int 8)) mNil)))) (mCons (mCall g__law_letters (mCons (mV 0) (mCons (mOp opAdd (mC (.int 1)) (mCall g__law_draw (mCons (mV 0) (mCons (mC (.int 8)) mNil)))) mNil))) mNil))) (mCall g__law_draw (mCons (mV 0) (mCons (mC (.int 2)) mNil)))))
    (mRet (mOp opIx (mLst (mCons (mV 2) (mCons (mC (.str "an")) mNil))) (mCB opInt1 (mCons (mOp opEq (mV 2) (mC (.str "any"))) mNil))))))
def g__law_word : List D → Mem → Res D := body 1 3 (m__law_word g__law_letters g__law_draw)
def m__law_simple (g__law_draw : List D → Mem → Res D) (g__law_expression : List D → Mem → Res D) (g__law_word : List D → Mem → Res D) : MS :=
    (mSeq (mSet 3 (mCall g__law_draw (mCons (mV 0) (mCons (mOp opAdd (mC (.int 10)) (mCB opInt1 (mCons (mV 2) mNil))) mNil))))
    (mSeq (mAsg (aLst 2 (aCons (aName 4) (aCons (aName 5) aNil))) (mLc [7] (mRange rng1 (mCons (mC (.int 2)) mNil)) (aName 7) mYes (mOp opIx (mOp opIx (mV 1) (mC (.str "pool"))) (mCall g__law_draw (mCons (mV 0) (mCons (mCB opLen (mCons (mOp opIx (mV 1) (mC (.str "pool"))) mNil)) mNil))))))
    (mSeq (mSet 6 (mCall g__law_expression (mCons (mV 0) (mCons (mV 1) (mCons (mC (.int 9)) (mCons (mC (.int 4)) mNil))))))
    (mSeq (mIf (mT (mOp opLt (mV 3) (mC (.int 3)))) (mRet (mTup (mCons (mOp opIx (mLst (mCons (mC (.str "let")) (mCons (mC (.str "give")) (mCons (mC (.str "on")) mNil)))) (mV 3)) (mCons (mV 4) (mCons (mV 6) mNil))))) mSkip)
    (mSeq (mIf (mT (mOp opLt (mV 3) (mC (.int 6)))) (mRet (mTup (mCons (mOp opIx (mLst (mCons (mC (.str "note")) (mCons (mC (.str "close")) (mCons (mC (.str "end")) mNil)))) (mOp opSub (mV 3) (mC (.int 3)))) (mCons (mV 6) mNil)))) mSkip)
    (mSeq (mIf (mT (mOp opEq (mV 3) (mC (.int 6)))) (mRet (mTup (mCons (mC (.str "ask")) (mCons (mV 4) (mCons (mV 5) (mCons (mCall g__law_expression (mCons (mV 0) (mCons (mV 1) (mCons (mC (.int 3)) (mCons (mC (.int 2)) mNil))))) (mCons (mV 6) mNil))))))) mSkip)
    (mSeq (mIf (mT (mOp opEq (mV 3) (mC (.int 7)))) (mRet (mTup (mCons (mC (.str "cast")) (mCons (mV 4) (mCons (mV 5) (mCons (mCall g__law_expression (mCons (mV 0) (mCons (mV 1) (mCons (mC (.int 3)) (mCons (mC (.int 2)) mNil))))) (mCons (mCall g__law_word (mCons (mV 0) mNil)) (mCons (mV 6) mNil)))))))) mSkip)
    (mSeq (mIf (mT (mOp opEq (mV 3) (mC (.int 10)))) (mRet (mTup (mCons (mC (.str "leave")) mNil))) mSkip)
    (mRet (mOp opIx (mLst (mCons (mTup (mCons (mC (.str "fault")) (mCons (mCall g__law_word (mCons (mV 0) mNil)) (mCons (mV 6) mNil)))) (mCons (mTup (mCons (mC (.str "give")) (mCons (mV 4) (mCons (mV 6) mNil)))) mNil))) (mOp opSub (mV 3) (mC (.int 8)))))))))))))
def g__law_simple : List D → Mem → Res D := body 3 8 (m__law_simple g__law_draw g__law_expression g__law_word)
def m__law_inner : MS :=
    (mSeq (mIf (mT (mOp opEq (mOp opIx (mV 0) (mC (.int 0))) (mC (.str "if")))) (mRet (mLst (mCons (mOp opIx (mV 0) (mC (.int 2))) (mCons (mOp opIx (mV 0) (mC (.int 3))) mNil)))) mSkip)
    (mSeq (mIf (mT (mOp opEq (mOp opIx (mV 0) (mC (.int 0))) (mC (.str "while")))) (mRet (mLst (mCons (mOp opIx (mV 0) (mC (.int 2))) mNil))) mSkip)
    (mSeq (mIf (mT (mOp opEq (mOp opIx (mV 0) (mC (.int 0))) (mC (.str "try")))) (mRet (mOp opAdd (mOp opAdd (mLst (mCons (mOp opIx (mV 0) (mC (.int 1))) mNil)) (mLc [1] (mIter (mOp opIx (mV 0) (mC (.int 2)))) (aName 1) mYes (mOp opIx (mV 1) (mC (.int 2))))) (mLst (mCons (mOp opIx (mV 0) (mC (.int 3))) mNil)))) mSkip)
    (mRet (mLst mNil)))))
def g__law_inner : List D → Mem → Res D := body 1 2 (m__law_inner)
def m__law_count (g__law_inner : List D → Mem → Res D) (g__law_count : List D → Mem → Res D) : MS :=
    (mRet (mCB opSum (mCons (mLc [1] (mIter (mV 0)) (aName 1) mYes (mOp opAdd (mC (.int 1)) (mCB opSum (mCons (mLc [2] (mIter (mCall g__law_inner (mCons (mV 1) mNil))) (aName 2) mYes (mCall g__law_count (mCons (mV 2) mNil))) mNil)))) mNil)))
def r__law_count : Nat → List D → Mem → Res D
  | 0 => fun _ _ => .bad
  | n + 1 => body 1 3 (m__law_count g__law_inner (r__law_count n))
def g__law_count : List D → Mem → Res D := r__law_count 40
def m__law_try (g__law_draw : List D → Mem → Res D) (g__law_block : List D → Mem → Res D) (g__law_word : List D → Mem → Res D) : MS :=
    (mSeq (mSet 5 (mOp opAdd (mC (.int 1)) (mCall g__law_draw (mCons (mV 0) (mCons (mOp opSub (mV 4) (mC (.int 2))) mNil)))))
    (mSeq (mSet 6 (mCall g__law_block (mCons (mV 0) (mCons (mV 1) (mCons (mOp opAdd (mV 2) (mC (.int 1))) (mCons (mV 3) (mCons (mV 5) mNil)))))))
    (mSeq (mSet 7 (mOp opSub (mOp opSub (mV 4) (mC (.int 1))) (mV 5)))
    (mSeq (mSet 8 (mCB opMin (mCons (mCall g__law_draw (mCons (mV 0) (mCons (mC (.int 4)) mNil))) (mCons (mOp opSub (mV 7) (mC (.int 1))) mNil))))
    (mSeq (mSet 9 (mNewL mNil))
    (mSeq (mFor (mRange rng1 (mCons (mV 8) mNil)) (aName 10) (mSeq (mSet 11 (mOp opAdd (mC (.int 1)) (mCall g__law_draw (mCons (mV 0) (mCons (mOp opSub (mV 7) (mOp opSub (mV 8) (mV 10))) mNil)))))
    (mSeq (mSet 12 (mOp opIx (mLst (mCons (mCall g__law_word (mCons (mV 0) mNil)) (mCons (mC (.str "any")) mNil))) (mCall g__law_draw (mCons (mV 0) (mCons (mC (.int 2)) mNil)))))
    (mSeq (mSet 13 (mOp opIx (mOp opIx (mV 1) (mC (.str "pool"))) (mCall g__law_draw (mCons (mV 0) (mCons (mCB opLen (mCons (mOp opIx (mV 1) (mC (.str "pool"))) mNil)) mNil)))))
    (mSeq (mDrop (mL1 appD (mV 9) (mTup (mCons (mV 12) (mCons (mV 13) (mCons (mCall g__law_block (mCons (mV 0) (mCons (mV 1) (mCons (mOp opAdd (mV 2) (mC (.int 1))) (mCons (mV 3) (mCons (mV 11) mNil)))))) mNil))))))
    (mSet 7 (mOp opSub (mV 7) (mV 11))))))))
    (mSeq (mSet 14 (mTup mNil))
    (mSeq (mIf (mOr (mT (mOp opEq (mV 8) (mC (.int 0)))) (mT (mOp opEq (mCall g__law_draw (mCons (mV 0) (mCons (mC (.int 2)) mNil))) (mC (.int 0))))) (mSet 14 (mCall g__law_block (mCons (mV 0) (mCons (mV 1) (mCons (mOp opAdd (mV 2) (mC (.int 1))) (mCons (mV 3) (mCons (mOp opAdd (mC (.int 1)) (mCall g__law_draw (mCons (mV 0) (mCons (mV 7) mNil)))) mNil))))))) mSkip)
    (mRet (mTup (mCons (mC (.str "try")) (mCons (mV 6) (mCons (mCB opTuple (mCons (mV 9) mNil)) (mCons (mV 14) mNil))))))))))))))
def m__law_deed (g__law_draw : List D → Mem → Res D) (g__law_simple : List D → Mem → Res D) (g__law_try : List D → Mem → Res D) (g__law_expression : List D → Mem → Res D) (g__law_block : List D → Mem → Res D) : MS :=
    (mSeq (mSet 5 (mCall g__law_draw (mCons (mV 0) (mCons (mC (.int 6)) mNil))))
    (mSeq (mIf (mOr (mT (mOp opGe (mV 2) (mC (.int 5)))) (mOr (mT (mOp opLt (mV 4) (mC (.int 4)))) (mT (mOp opLt (mV 5) (mC (.int 3)))))) (mRet (mCall g__law_simple (mCons (mV 0) (mCons (mV 1) (mCons (mV 3) mNil))))) mSkip)
    (mSeq (mIf (mT (mOp opEq (mV 5) (mC (.int 5)))) (mRet (mCall g__law_try (mCons (mV 0) (mCons (mV 1) (mCons (mV 2) (mCons (mV 3) (mCons (mV 4) mNil))))))) mSkip)
    (mSeq (mSet 6 (mCall g__law_expression (mCons (mV 0) (mCons (mV 1) (mCons (mC (.int 5)) (mCons (mC (.int 3)) mNil))))))
    (mSeq (mSet 7 (mOp opAdd (mC (.int 1)) (mCall g__law_draw (mCons (mV 0) (mCons (mOp opSub (mV 4) (mC (.int 2))) mNil)))))
    (mSeq (mSet 8 (mCall g__law_block (mCons (mV 0) (mCons (mV 1) (mCons (mOp opAdd (mV 2) (mC (.int 1))) (mCons (mOrV (mV 3) (mOp opEq (mV 5) (mC (.int 4)))) (mCons (mV 7) mNil)))))))
    (mSeq (mIf (mT (mOp opEq (mV 5) (mC (.int 4)))) (mRet (mTup (mCons (mC (.str "while")) (mCons (mV 6) (mCons (mV 8) mNil))))) mSkip)
    (mSeq (mSet 9 (mTup mNil))
    (mSeq (mIf (mT (mOp opEq (mCall g__law_draw (mCons (mV 0) (mCons (mC (.int 2)) mNil))) (mC (.int 0)))) (mSet 9 (mCall g__law_block (mCons (mV 0) (mCons (mV 1) (mCons (mOp opAdd (mV 2) (mC (.int 1))) (mCons (mV 3) (mCons (mOp opSub (mOp opSub (mV 4) (mC (.int 1))) (mV 7)) mNil))))))) mSkip)
    (mRet (mTup (mCons (mC (.str "if")) (mCons (mV 6) (mCons (mV 8) (mCons (mV 9) mNil)))))))))))))))
def m__law_block (g__law_draw : List D → Mem → Res D) (g__law_deed : List D → Mem → Res D) (g__law_count : List D → Mem → Res D) : MS :=
    (mSeq (mSet 5 (mNewL mNil))
    (mSeq (mSet 6 (mOp opAdd (mC (.int 1)) (mCall g__law_draw (mCons (mV 0) (mCons (mC (.int 4)) mNil)))))
    (mSeq (mWhile fuelW (mAnd (mT (mOp opGt (mV 4) (mC (.int 0)))) (mT (mOp opLt (mCB opLen (mCons (mV 5) mNil)) (mV 6)))) (mSeq (mSet 7 (mCall g__law_deed (mCons (mV 0) (mCons (mV 1) (mCons (mV 2) (mCons (mV 3) (mCons (mV 4) mNil)))))))
    (mSeq (mDrop (mL1 appD (mV 5) (mV 7)))
    (mSet 4 (mOp opSub (mV 4) (mCall g__law_count (mCons (mTup (mCons (mV 7) mNil)) mNil)))))))
    (mRet (mCB opTuple (mCons (mV 5) mNil))))))
mutual
def r__law_try : Nat → List D → Mem → Res D
  | 0 => fun _ _ => .bad
  | n + 1 => body 5 15 (m__law_try g__law_draw (r__law_block n) g__law_word)
def r__law_deed : Nat → List D → Mem → Res D
  | 0 => fun _ _ => .bad
  | n + 1 => body 5 10 (m__law_deed g__law_draw g__law_simple (r__law_try n) g__law_expression (r__law_block n))
def r__law_block : Nat → List D → Mem → Res D
  | 0 => fun _ _ => .bad
  | n + 1 => body 5 8 (m__law_block g__law_draw (r__law_deed n) g__law_count)
end
def g__law_try : List D → Mem → Res D := r__law_try 40
def g__law_deed : List D → Mem → Res D := r__law_deed 40
def g__law_block : List D → Mem → Res D := r__law_block 40
def m__law_book (g__law_names : List D → Mem → Res D) (g__law_draw : List D → Mem → Res D) (g__law_fresh : List D → Mem → Res D) (g__law_block : List D → Mem → Res D) : MS :=
    (mSeq (mSet 3 (mCall g__law_names (mCons (mV 0) (mCons (mOp opAdd (mC (.int 1)) (mCall g__law_draw (mCons (mV 0) (mCons (mV 1) mNil)))) mNil))))
    (mSeq (mSet 4 (mLc [6] (mIter (mV 3)) (aName 6) mYes (mTup (mCons (mV 6) (mCons (mCB opTuple (mCons (mCall g__law_names (mCons (mV 0) (mCons (mCall g__law_draw (mCons (mV 0) (mCons (mC (.int 4)) mNil))) mNil))) mNil)) mNil)))))
    (mSeq (mSet 5 (mNewL mNil))
    (mSeq (mFor (mIter (mV 4)) (aTup 2 (aCons (aName 6) (aCons (aName 7) aNil))) (mSeq (mSet 8 (mNewList (mV 7)))
    (mSeq (mFor (mRange rng1 (mCons (mOp opAdd (mC (.int 1)) (mCall g__law_draw (mCons (mV 0) (mCons (mOp opSub (mC (.int 12)) (mCB opLen (mCons (mV 7) mNil))) mNil)))) mNil)) (aName 9) (mDrop (mL1 appD (mV 8) (mCall g__law_fresh (mCons (mV 0) (mCons (mV 8) mNil))))))
    (mSeq (mSeq (mFrz 8) (mSet 10 (mDict (mPc (mC (.str "heads")) (mV 4) (mPc (mC (.str "pool")) (mV 8) mPn)))))
    (mDrop (mL1 appD (mV 5) (mTup (mCons (mV 6) (mCons (mV 7) (mCons (mCall g__law_block (mCons (mV 0) (mCons (mV 10) (mCons (mC (.int 1)) (mCons (mC (.bl false)) (mCons (mOp opAdd (mC (.int 1)) (mCall g__law_draw (mCons (mV 0) (mCons (mV 2) mNil)))) mNil)))))) mNil))))))))))
    (mRet (mCB opTuple (mCons (mV 5) mNil)))))))
def g__law_book : List D → Mem → Res D := body 3 11 (m__law_book g__law_names g__law_draw g__law_fresh g__law_block)
end BG

set_option Elab.async false
set_option linter.all false
set_option maxRecDepth 100000
set_option autoImplicit false
/-! BGa: books as a type of their own; what a book's value is like. -/
namespace BG
open PySem PySem.Spec PyProof.Rows L2 Ev
mutual
inductive Ex where
  | non | num (i : Int) | var (x : Str) | op (s : Str) (a b : Ex) | mk (f : Str) (as : Exs)
inductive Exs where
  | nil | cons (e : Ex) (es : Exs)
end
mutual
inductive Deed where
  | lt (x : Str) (e : Ex) | give (x : Str) (e : Ex) | on (x : Str) (e : Ex) | note (e : Ex) | close (e : Ex) | fin (e : Ex)
  | ask (x y : Str) (a e : Ex) | cast (x y : Str) (a : Ex) (w : Str) (e : Ex) | leave | fault (w : Str) (e : Ex)
  | ifd (e : Ex) (b c : Blk) | whl (e : Ex) (b : Blk) | tr (b : Blk) (cs : Cts) (l : Blk)
inductive Blk where
  | nil | cons (d : Deed) (b : Blk)
inductive Cts where
  | nil | cons (w x : Str) (b : Blk) (cs : Cts)
end
mutual
def Ex.d : Ex → D
  | .non => .tup [.str "none"]
  | .num i => .tup [.str "number", .int i]
  | .var x => .tup [.str "var", .str x]
  | .op s a b => .tup [.str "op", .str s, a.d, b.d]
  | .mk f as => .tup [.str "make", .str f, .tup as.ds]
def Exs.ds : Exs → List D
  | .nil => []
  | .cons e es => e.d :: es.ds
end
mutual
def Deed.d : Deed → D
  | .lt x e => .tup [.str "let", .str x, e.d]
  | .give x e => .tup [.str "give", .str x, e.d]
  | .on x e => .tup [.str "on", .str x, e.d]
  | .note e => .tup [.str "note", e.d]
  | .close e => .tup [.str "close", e.d]
  | .fin e => .tup [.str "end", e.d]
  | .ask x y a e => .tup [.str "ask", .str x, .str y, a.d, e.d]
  | .cast x y a w e => .tup [.str "cast", .str x, .str y, a.d, .str w, e.d]
  | .leave => .tup [.str "leave"]
  | .fault w e => .tup [.str "fault", .str w, e.d]
  | .ifd e b c => .tup [.str "if", e.d, .tup b.ds, .tup c.ds]
  | .whl e b => .tup [.str "while", e.d, .tup b.ds]
  | .tr b cs l => .tup [.str "try", .tup b.ds, .tup cs.ds, .tup l.ds]
def Blk.ds : Blk → List D
  | .nil => []
  | .cons d b => d.d :: b.ds
def Cts.ds : Cts → List D
  | .nil => []
  | .cons w x b cs => .tup [.str w, .str x, .tup b.ds] :: cs.ds
end
/-- a short text -/
def okS (s : Str) : Bool := PyData.strOk s && decide (s.length ≤ 20)
mutual
def Ex.ok : Ex → Bool
  | .non => true
  | .num i => decide (i.natAbs < 10 ^ 30)
  | .var x => okS x
  | .op s a b => okS s && a.ok && b.ok
  | .mk f as => okS f && as.ok
def Exs.ok : Exs → Bool
  | .nil => true
  | .cons e es => e.ok && es.ok
end
mutual
/-- how many tuples, how deep -/
def Ex.sz : Ex → Nat
  | .op _ a b => 1 + a.sz + b.sz
  | .mk _ as => 1 + as.sz
  | _ => 1
def Exs.sz : Exs → Nat
  | .nil => 0
  | .cons e es => e.sz + es.sz
end
mutual
def Ex.dp : Ex → Nat
  | .op _ a b => 1 + max a.dp b.dp
  | .mk _ as => 1 + as.dp
  | _ => 1
def Exs.dp : Exs → Nat
  | .nil => 0
  | .cons e es => max e.dp es.dp
end
def Cts.many : Cts → Nat
  | .nil => 0
  | .cons _ _ _ cs => cs.many + 1
/-- small enough -/
def Ex.okk (e : Ex) : Bool := e.ok && decide (e.sz ≤ 9) && decide (e.dp ≤ 4)
mutual
def Deed.ok : Deed → Bool
  | .lt x e => okS x && e.okk
  | .give x e => okS x && e.okk
  | .on x e => okS x && e.okk
  | .note e => e.okk
  | .close e => e.okk
  | .fin e => e.okk
  | .ask x y a e => okS x && okS y && a.okk && e.okk
  | .cast x y a w e => okS x && okS y && a.okk && okS w && e.okk
  | .leave => true
  | .fault w e => okS w && e.okk
  | .ifd e b c => e.okk && b.ok && c.ok
  | .whl e b => e.okk && b.ok
  | .tr b cs l => b.ok && cs.ok && l.ok && decide (cs.many ≤ 3)
def Blk.ok : Blk → Bool
  | .nil => true
  | .cons d b => d.ok && b.ok
def Cts.ok : Cts → Bool
  | .nil => true
  | .cons w x b cs => okS w && okS x && b.ok && cs.ok
end
mutual
def Deed.cnt : Deed → Nat
  | .ifd _ b c => 1 + b.cnt + c.cnt
  | .whl _ b => 1 + b.cnt
  | .tr b cs l => 1 + b.cnt + cs.cnt + l.cnt
  | _ => 1
def Blk.cnt : Blk → Nat
  | .nil => 0
  | .cons d b => d.cnt + b.cnt
def Cts.cnt : Cts → Nat
  | .nil => 0
  | .cons _ _ b cs => b.cnt + cs.cnt
end
mutual
def Deed.nest : Deed → Nat
  | .ifd _ b c => 1 + max b.nest c.nest
  | .whl _ b => 1 + b.nest
  | .tr b cs l => 1 + max b.nest (max cs.nest l.nest)
  | _ => 0
def Blk.nest : Blk → Nat
  | .nil => 0
  | .cons d b => max d.nest b.nest
def Cts.nest : Cts → Nat
  | .nil => 0
  | .cons _ _ b cs => max b.nest cs.nest
end
def Blk.app : Blk → Deed → Blk
  | .nil, e => .cons e .nil
  | .cons d b, e => .cons d (b.app e)
def Cts.app : Cts → Str → Str → Blk → Cts
  | .nil, w, x, b => .cons w x b .nil
  | .cons w' x' b' cs, w, x, b => .cons w' x' b' (cs.app w x b)
def Exs.app : Exs → Ex → Exs
  | .nil, e => .cons e .nil
  | .cons d b, e => .cons d (b.app e)
theorem Blk.app_ds : ∀ (b : Blk) (e : Deed), (b.app e).ds = b.ds ++ [e.d]
  | .nil, e => by simp only [Blk.app, Blk.ds, List.nil_append]
  | .cons d b, e => by simp only [Blk.app, Blk.ds, Blk.app_ds b e, List.cons_append]
theorem Cts.app_ds : ∀ (cs : Cts) (w x : Str) (b : Blk), (cs.app w x b).ds = cs.ds ++ [.tup [.str w, .str x, .tup b.ds]]
  | .nil, w, x, b => by simp only [Cts.app, Cts.ds, List.nil_append]
  | .cons w' x' b' cs, w, x, b => by simp only [Cts.app, Cts.ds, Cts.app_ds cs w x b, List.cons_append]
theorem Exs.app_ds : ∀ (b : Exs) (e : Ex), (b.app e).ds = b.ds ++ [e.d]
  | .nil, e => by simp only [Exs.app, Exs.ds, List.nil_append]
  | .cons d b, e => by simp only [Exs.app, Exs.ds, Exs.app_ds b e, List.cons_append]
theorem Blk.app_cnt : ∀ (b : Blk) (e : Deed), (b.app e).cnt = b.cnt + e.cnt
  | .nil, e => by simp only [Blk.app, Blk.cnt]; omega
  | .cons d b, e => by simp only [Blk.app, Blk.cnt, Blk.app_cnt b e]; omega
theorem Cts.app_cnt : ∀ (cs : Cts) (w x : Str) (b : Blk), (cs.app w x b).cnt = cs.cnt + b.cnt
  | .nil, w, x, b => by simp only [Cts.app, Cts.cnt]; omega
  | .cons w' x' b' cs, w, x, b => by simp only [Cts.app, Cts.cnt, Cts.app_cnt cs w x b]; omega
theorem Exs.app_sz : ∀ (b : Exs) (e : Ex), (b.app e).sz = b.sz + e.sz
  | .nil, e => by simp only [Exs.app, Exs.sz]; omega
  | .cons d b, e => by simp only [Exs.app, Exs.sz, Exs.app_sz b e]; omega
theorem Exs.app_dp : ∀ (b : Exs) (e : Ex), (b.app e).dp = max b.dp e.dp
  | .nil, e => by simp only [Exs.app, Exs.dp]; omega
  | .cons d b, e => by simp only [Exs.app, Exs.dp, Exs.app_dp b e]; omega
theorem Blk.app_nest : ∀ (b : Blk) (e : Deed), (b.app e).nest = max b.nest e.nest
  | .nil, e => by simp only [Blk.app, Blk.nest]; omega
  | .cons d b, e => by simp only [Blk.app, Blk.nest, Blk.app_nest b e]; omega
theorem Cts.app_nest : ∀ (cs : Cts) (w x : Str) (b : Blk), (cs.app w x b).nest = max cs.nest b.nest
  | .nil, w, x, b => by simp only [Cts.app, Cts.nest]; omega
  | .cons w' x' b' cs, w, x, b => by simp only [Cts.app, Cts.nest, Cts.app_nest cs w x b]; omega
theorem Blk.app_ok : ∀ (b : Blk) (e : Deed), (b.app e).ok = (b.ok && e.ok)
  | .nil, e => by simp only [Blk.app, Blk.ok, Bool.and_true, Bool.true_and]
  | .cons d b, e => by simp only [Blk.app, Blk.ok, Blk.app_ok b e, Bool.and_assoc]
theorem Cts.app_many : ∀ (cs : Cts) (w x : Str) (b : Blk), (cs.app w x b).many = cs.many + 1
  | .nil, w, x, b => by simp only [Cts.app, Cts.many]
  | .cons w' x' b' cs, w, x, b => by simp only [Cts.app, Cts.many, Cts.app_many cs w x b]
theorem Cts.app_ok : ∀ (cs : Cts) (w x : Str) (b : Blk), (cs.app w x b).ok = (cs.ok && (okS w && okS x && b.ok))
  | .nil, w, x, b => by simp only [Cts.app, Cts.ok, Bool.and_true, Bool.true_and]
  | .cons w' x' b' cs, w, x, b => by simp only [Cts.app, Cts.ok, Cts.app_ok cs w x b, Bool.and_assoc]
theorem Exs.app_ok : ∀ (b : Exs) (e : Ex), (b.app e).ok = (b.ok && e.ok)
  | .nil, e => by simp only [Exs.app, Exs.ok, Bool.and_true, Bool.true_and]
  | .cons d b, e => by simp only [Exs.app, Exs.ok, Exs.app_ok b e, Bool.and_assoc]
/-! values -/
structure Fac (d : D) (k n : Nat) : Prop where
  pl : plD d = true
  nb : nbD d = true
  i : inD d = true
  dp : dpD d ≤ k
  sz : szD d ≤ n
structure FacL (ds : List D) (k n : Nat) : Prop where
  pl : plDs ds = true
  nb : nbDs ds = true
  i : inDs ds = true
  dp : dpDs ds ≤ k
  sz : szDs ds ≤ n
theorem Fac.mono {d : D} {k n k' n' : Nat} (h : Fac d k n) (hk : k ≤ k') (hn : n ≤ n') : Fac d k' n' := ⟨h.pl, h.nb, h.i, Nat.le_trans h.dp hk, Nat.le_trans h.sz hn⟩
theorem FacL.mono {d : List D} {k n k' n' : Nat} (h : FacL d k n) (hk : k ≤ k') (hn : n ≤ n') : FacL d k' n' := ⟨h.pl, h.nb, h.i, Nat.le_trans h.dp hk, Nat.le_trans h.sz hn⟩
theorem FacL.nil : FacL [] 0 0 := ⟨rfl, rfl, rfl, Nat.le_refl _, Nat.le_refl _⟩
theorem FacL.cons {d : D} {ds : List D} {k n m : Nat} (h : Fac d k n) (hs : FacL ds k m) : FacL (d :: ds) k (n + 2 + m) := by
  obtain ⟨a1, a2, a3, a4, a5⟩ := h
  obtain ⟨b1, b2, b3, b4, b5⟩ := hs
  exact ⟨by simp only [plDs, a1, b1, Bool.and_self], by simp only [nbDs, a2, b2, Bool.and_self], by simp only [inDs, a3, b3, Bool.and_self], by simp only [dpDs]; omega, by simp only [szDs]; omega⟩
theorem FacL.cons' {d : D} {ds : List D} {k n m t : Nat} (h : Fac d k n) (hs : FacL ds k m) (ht : n + 2 + m ≤ t) : FacL (d :: ds) k t := (FacL.cons h hs).mono (Nat.le_refl _) ht
theorem Fac.tup {ds : List D} {k n : Nat} (h : FacL ds k n) : Fac (.tup ds) (k + 1) (n + 3) := by
  obtain ⟨b1, b2, b3, b4, b5⟩ := h
  exact ⟨by simp only [plD, b1], by simp only [nbD, b2], by simp only [inD, b3], by simp only [dpD]; omega, by simp only [szD]; omega⟩
theorem Fac.lst {ds : List D} {k n : Nat} (h : FacL ds k n) : Fac (.lst ds) (k + 1) (n + 3) := by
  obtain ⟨b1, b2, b3, b4, b5⟩ := h
  exact ⟨by simp only [plD, b1], by simp only [nbD, b2], by simp only [inD, b3], by simp only [dpD]; omega, by simp only [szD]; omega⟩
theorem fac_str {s : Str} (h : okS s = true) : Fac (.str s) 0 202 := by
  unfold okS at h
  rw [Bool.and_eq_true, decide_eq_true_eq] at h
  exact ⟨by simp only [plD]; exact h.1, rfl, rfl, Nat.le_refl _, by simp only [szD]; omega⟩
theorem fac_int {i : Int} (h : i.natAbs < 10 ^ 30) : Fac (.int i) 0 152 := by
  have l := log2_lt (n := i.natAbs) (k := 149) (Nat.lt_trans h (by decide))
  exact ⟨rfl, rfl, by simp only [inD]; exact decide_eq_true (by omega), Nat.le_refl _, by simp only [szD]; omega⟩
theorem Fac.sh {d : D} {k n : Nat} (h : Fac d k n) (hk : k ≤ 64) (hn : n ≤ 16000000) : Sh d := ⟨h.pl, Nat.le_trans h.dp hk, h.i, Nat.le_trans h.sz hn⟩
theorem Fac.ple {d : D} {k n : Nat} (h : Fac d k n) (hk : k ≤ 64) : Pl d := ⟨h.pl, Nat.le_trans h.dp hk⟩
theorem fac1 {a : D} {k n : Nat} (h : Fac a k n) : FacL [a] k (n + 2) := FacL.cons h (FacL.nil.mono (Nat.zero_le _) (Nat.le_refl _))
theorem tag_ok {s : Str} (h : okS s = true) {k : Nat} : Fac (.str s) k 202 := (fac_str h).mono (Nat.zero_le _) (Nat.le_refl _)
theorem Ex.sz_pos (e : Ex) : 1 ≤ e.sz := by cases e <;> simp only [Ex.sz] <;> omega
mutual
theorem Ex.fac : ∀ (e : Ex), e.ok = true → Fac e.d (2 * e.dp) (1000 * e.sz - 10)
  | .non, _ => by
    simp only [Ex.d, Ex.dp, Ex.sz]
    exact (Fac.tup (fac1 (tag_ok (k := 0) (by decide +kernel)))).mono (by omega) (by omega)
  | .num i, h => by
    simp only [Ex.ok, decide_eq_true_eq] at h
    simp only [Ex.d, Ex.dp, Ex.sz]
    exact (Fac.tup (FacL.cons (tag_ok (by decide +kernel)) (fac1 (fac_int h)))).mono (by omega) (by omega)
  | .var x, h => by
    simp only [Ex.ok] at h
    simp only [Ex.d, Ex.dp, Ex.sz]
    exact (Fac.tup (FacL.cons (tag_ok (by decide +kernel)) (fac1 (fac_str h)))).mono (by omega) (by omega)
  | .op s a b, h => by
    simp only [Ex.ok, Bool.and_eq_true] at h
    have ha := a.fac h.1.2
    have hb := b.fac h.2
    have p1 := a.sz_pos
    have p2 := b.sz_pos
    simp only [Ex.d, Ex.dp, Ex.sz]
    refine (Fac.tup (FacL.cons (tag_ok (by decide +kernel)) (FacL.cons (tag_ok h.1.1) (FacL.cons (ha.mono (k' := 2 * max a.dp b.dp) (by omega) (Nat.le_refl _)) (fac1 (hb.mono (by omega) (Nat.le_refl _))))))).mono (by omega) (by omega)
  | .mk f as, h => by
    simp only [Ex.ok, Bool.and_eq_true] at h
    have ha := as.fac h.2
    simp only [Ex.d, Ex.dp, Ex.sz]
    refine (Fac.tup (FacL.cons (tag_ok (by decide +kernel)) (FacL.cons (tag_ok h.1) (fac1 (Fac.tup ha))))).mono (by omega) (by omega)
theorem Exs.fac : ∀ (es : Exs), es.ok = true → FacL es.ds (2 * es.dp) (1000 * es.sz)
  | .nil, _ => by
    simp only [Exs.ds, Exs.dp, Exs.sz]
    exact FacL.nil
  | .cons e es, h => by
    simp only [Exs.ok, Bool.and_eq_true] at h
    have h1 := e.fac h.1
    have h2 := es.fac h.2
    have := e.sz_pos
    simp only [Exs.ds, Exs.dp, Exs.sz]
    exact FacL.cons' (h1.mono (by omega) (Nat.le_refl _)) (h2.mono (by omega) (Nat.le_refl _)) (by omega)
end
theorem Ex.facc {e : Ex} (h : e.okk = true) : Fac e.d 8 9000 := by
  simp only [Ex.okk, Bool.and_eq_true, decide_eq_true_eq] at h
  exact (e.fac h.1.1).mono (by omega) (by omega)
theorem Deed.cnt_pos (d : Deed) : 1 ≤ d.cnt := by cases d <;> simp only [Deed.cnt] <;> omega
mutual
theorem Deed.fac : ∀ (d : Deed), d.ok = true → Fac d.d (9 + 4 * d.nest) (30000 * d.cnt - 100)
  | .lt x e, h => by
    simp only [Deed.ok, Bool.and_eq_true] at h
    simp only [Deed.d, Deed.nest, Deed.cnt]
    exact (Fac.tup (FacL.cons (tag_ok (by decide +kernel)) (FacL.cons (tag_ok h.1) (fac1 (Ex.facc h.2))))).mono (by omega) (by omega)
  | .give x e, h => by
    simp only [Deed.ok, Bool.and_eq_true] at h
    simp only [Deed.d, Deed.nest, Deed.cnt]
    exact (Fac.tup (FacL.cons (tag_ok (by decide +kernel)) (FacL.cons (tag_ok h.1) (fac1 (Ex.facc h.2))))).mono (by omega) (by omega)
  | .on x e, h => by
    simp only [Deed.ok, Bool.and_eq_true] at h
    simp only [Deed.d, Deed.nest, Deed.cnt]
    exact (Fac.tup (FacL.cons (tag_ok (by decide +kernel)) (FacL.cons (tag_ok h.1) (fac1 (Ex.facc h.2))))).mono (by omega) (by omega)
  | .note e, h => by
    simp only [Deed.ok] at h
    simp only [Deed.d, Deed.nest, Deed.cnt]
    exact (Fac.tup (FacL.cons (tag_ok (by decide +kernel)) (fac1 (Ex.facc h)))).mono (by omega) (by omega)
  | .close e, h => by
    simp only [Deed.ok] at h
    simp only [Deed.d, Deed.nest, Deed.cnt]
    exact (Fac.tup (FacL.cons (tag_ok (by decide +kernel)) (fac1 (Ex.facc h)))).mono (by omega) (by omega)
  | .fin e, h => by
    simp only [Deed.ok] at h
    simp only [Deed.d, Deed.nest, Deed.cnt]
    exact (Fac.tup (FacL.cons (tag_ok (by decide +kernel)) (fac1 (Ex.facc h)))).mono (by omega) (by omega)
  | .ask x y a e, h => by
    simp only [Deed.ok, Bool.and_eq_true] at h
    simp only [Deed.d, Deed.nest, Deed.cnt]
    exact (Fac.tup (FacL.cons (tag_ok (by decide +kernel)) (FacL.cons (tag_ok h.1.1.1) (FacL.cons (tag_ok h.1.1.2) (FacL.cons (Ex.facc h.1.2) (fac1 (Ex.facc h.2))))))).mono (by omega) (by omega)
  | .cast x y a w e, h => by
    simp only [Deed.ok, Bool.and_eq_true] at h
    simp only [Deed.d, Deed.nest, Deed.cnt]
    exact (Fac.tup (FacL.cons (tag_ok (by decide +kernel)) (FacL.cons (tag_ok h.1.1.1.1) (FacL.cons (tag_ok h.1.1.1.2) (FacL.cons (Ex.facc h.1.1.2) (FacL.cons (tag_ok h.1.2) (fac1 (Ex.facc h.2)))))))).mono (by omega) (by omega)
  | .leave, h => by
    simp only [Deed.d, Deed.nest, Deed.cnt]
    exact (Fac.tup (fac1 (tag_ok (k := 0) (by decide +kernel)))).mono (by omega) (by omega)
  | .fault w e, h => by
    simp only [Deed.ok, Bool.and_eq_true] at h
    simp only [Deed.d, Deed.nest, Deed.cnt]
    exact (Fac.tup (FacL.cons (tag_ok (by decide +kernel)) (FacL.cons (tag_ok h.1) (fac1 (Ex.facc h.2))))).mono (by omega) (by omega)
  | .ifd e b c, h => by
    simp only [Deed.ok, Bool.and_eq_true] at h
    have hb := Fac.tup (b.fac h.1.2)
    have hc := Fac.tup (c.fac h.2)
    simp only [Deed.d, Deed.nest, Deed.cnt]
    exact (Fac.tup (FacL.cons (k := 10 + 4 * max b.nest c.nest) (tag_ok (by decide +kernel)) (FacL.cons ((Ex.facc h.1.1).mono (by omega) (Nat.le_refl _)) (FacL.cons (hb.mono (by omega) (Nat.le_refl _)) (fac1 (hc.mono (by omega) (Nat.le_refl _))))))).mono (by omega) (by omega)
  | .whl e b, h => by
    simp only [Deed.ok, Bool.and_eq_true] at h
    have hb := Fac.tup (b.fac h.2)
    simp only [Deed.d, Deed.nest, Deed.cnt]
    exact (Fac.tup (FacL.cons (k := 10 + 4 * b.nest) (tag_ok (by decide +kernel)) (FacL.cons ((Ex.facc h.1).mono (by omega) (Nat.le_refl _)) (fac1 (hb.mono (by omega) (Nat.le_refl _)))))).mono (by omega) (by omega)
  | .tr b cs l, h => by
    simp only [Deed.ok, Bool.and_eq_true, decide_eq_true_eq] at h
    have hb := Fac.tup (b.fac h.1.1.1)
    have hc := Fac.tup (cs.fac h.1.1.2)
    have hl := Fac.tup (l.fac h.1.2)
    have hm := h.2
    simp only [Deed.d, Deed.nest, Deed.cnt]
    exact (Fac.tup (FacL.cons (k := 12 + 4 * max b.nest (max cs.nest l.nest)) (tag_ok (by decide +kernel)) (FacL.cons (hb.mono (by omega) (Nat.le_refl _)) (FacL.cons (hc.mono (by omega) (Nat.le_refl _)) (fac1 (hl.mono (by omega) (Nat.le_refl _))))))).mono (by omega) (by omega)
theorem Blk.fac : ∀ (b : Blk), b.ok = true → FacL b.ds (9 + 4 * b.nest) (30000 * b.cnt)
  | .nil, _ => by
    simp only [Blk.ds]
    exact FacL.nil.mono (Nat.zero_le _) (Nat.zero_le _)
  | .cons d b, h => by
    simp only [Blk.ok, Bool.and_eq_true] at h
    have h1 := d.fac h.1
    have h2 := b.fac h.2
    have := d.cnt_pos
    simp only [Blk.ds, Blk.nest, Blk.cnt]
    exact FacL.cons' (h1.mono (by omega) (Nat.le_refl _)) (h2.mono (by omega) (Nat.le_refl _)) (by omega)
theorem Cts.fac : ∀ (cs : Cts), cs.ok = true → FacL cs.ds (11 + 4 * cs.nest) (30000 * cs.cnt + 1000 * cs.many)
  | .nil, _ => by
    simp only [Cts.ds]
    exact FacL.nil.mono (Nat.zero_le _) (Nat.zero_le _)
  | .cons w x b cs, h => by
    simp only [Cts.ok, Bool.and_eq_true] at h
    have h1 := Fac.tup (b.fac h.1.2)
    have h2 := cs.fac h.2
    simp only [Cts.ds, Cts.nest, Cts.cnt, Cts.many]
    exact FacL.cons' ((Fac.tup (FacL.cons (tag_ok h.1.1.1) (FacL.cons (tag_ok h.1.1.2) (fac1 h1)))).mono (by omega) (Nat.le_refl _)) (h2.mono (by omega) (Nat.le_refl _)) (by omega)
end
end BG

set_option Elab.async false
set_option linter.all false
set_option maxRecDepth 100000
set_option autoImplicit false
/-! BWa: short texts, put together and cut. -/
namespace BW
open PySem PySem.Spec PyProof.Rows L2 Ev
/-- a text that is sound and not long -/
structure St (n : Nat) (s : Str) : Prop where
  ok : PyData.strOk s = true
  len : s.length ≤ n
theorem St.mono {n k : Nat} {s : Str} (h : St n s) (hk : n ≤ k) : St k s := ⟨h.ok, Nat.le_trans h.len hk⟩
theorem St.app {n k : Nat} {a b : Str} (ha : St n a) (hb : St k b) : St (n + k) (a ++ b) := by
  refine ⟨?_, ?_⟩
  · have h1 := ha.ok
    have h2 := hb.ok
    unfold PyData.strOk at *
    rw [Array.all_eq_true_iff_forall_mem] at *
    intro c hc
    have hc : c ∈ (a ++ b).cps.toList := Array.mem_toList_iff.mpr hc
    rw [PySem.W.KT.app_list] at hc
    rcases List.mem_append.mp hc with z | z
    · exact h1 c (Array.mem_toList_iff.mp z)
    · exact h2 c (Array.mem_toList_iff.mp z)
  · have h1 := ha.len
    have h2 := hb.len
    have : (a ++ b).length = a.length + b.length := by
      show (a.cps ++ b.cps).size = _
      rw [Array.size_append]; rfl
    omega
theorem St.cut {n : Nat} {a : Str} (h : St n a) (lo hi : Option Int) : St n (cutS a lo hi) := by
  refine ⟨?_, ?_⟩
  · have h1 := h.ok
    unfold PyData.strOk at *
    rw [Array.all_eq_true_iff_forall_mem] at *
    intro c hc
    have hc : c ∈ (cutS a lo hi).cps.toList := Array.mem_toList_iff.mpr hc
    unfold cutS at hc
    have hc := List.mem_of_mem_take hc
    exact h1 c (Array.mem_toList_iff.mp (List.mem_of_mem_drop hc))
  · have h1 := h.len
    have : (cutS a lo hi).length ≤ a.length := by
      unfold cutS
      show (List.toArray _).size ≤ a.cps.size
      rw [List.size_toArray, List.length_take, List.length_drop, Array.length_toList]
      omega
    omega
theorem st_one {c : Nat} (h : c < 0x110000) : St 1 ⟨#[c]⟩ := ⟨by unfold PyData.strOk; simp [h], Nat.le_refl _⟩
theorem sum_one : ∀ l : List Str, (∀ t ∈ l, ∃ c, t = ⟨#[c]⟩ ∧ c < 0x110000) → (l.map (·.length)).sum = l.length := by
  intro l
  induction l with
  | nil => intro _; rfl
  | cons a l ih =>
    intro h
    obtain ⟨c, hc, _⟩ := h a (List.mem_cons_self ..)
    rw [List.map_cons, List.sum_cons, ih fun t ht => h t (List.mem_cons_of_mem _ ht), List.length_cons, hc]
    show 1 + _ = _
    omega
theorem st_join {ts : List Str} (h : ∀ t ∈ ts, ∃ c, t = ⟨#[c]⟩ ∧ c < 0x110000) {n : Nat} (hl : ts.length ≤ n) : St n (Txt.join "" ts) := by
  refine ⟨?_, ?_⟩
  · have e : Txt.join "" ts = Str.join "" ts := StrLaws.glued_eq_join _ _
    rw [e]
    unfold PyData.strOk
    rw [Array.all_eq_true_iff_forall_mem]
    intro c hc
    have hc : c ∈ (Str.join "" ts).cps.toList := Array.mem_toList_iff.mpr hc
    rw [mem_join] at hc
    rcases hc with ⟨t, ht, hc⟩ | ⟨_, hc⟩
    · obtain ⟨k, rfl, hk⟩ := h t ht
      have : c = k := by simpa using hc
      subst this
      exact decide_eq_true hk
    · have e : (Str.ofString "").cps.toList = [] := by decide +kernel
      rw [e] at hc
      cases hc
  · rw [PySem.W.KT.join_ones ts fun a ha => by
      obtain ⟨c, rfl, _⟩ := h a ha
      rfl]
    exact hl
end BW

set_option Elab.async false
set_option linter.all false
set_option maxRecDepth 100000
set_option autoImplicit false
namespace K04
open PySem PySem.Spec PyProof.Rows L2 Ev 
/-! ### the text -/
def topS (i : Nat) : Stmt := PySem.Challenge.pw_handedon_k04_texts_of_no_worth.main.body.getD i (.Pass ⟨0, 0, 0, 0⟩)
def c_FIGURES : D := .str "0123456789"
def c_MOST_FIGURES : D := .int 30
def c_MOST_GIVERS : D := .int 100
def c_NONE : D := .tup [.str "none"]
/-! ### is_whole -/
abbrev s_is_whole : Stmt := topS 18
theorem sc_is_whole : FnScope ["thing"] ["thing"] (defScope s_is_whole) := ⟨rfl, rfl, rfl, by decide +kernel, rfl, by decide +kernel, by decide +kernel⟩
def m_is_whole : MS :=
    (mRet (mAndV (mO1 (opIsi "int") (mV 0)) (mO1 opNotV (mO1 (opIsi "bool") (mV 0)))))
set_option maxHeartbeats 2000000 in
theorem ok_is_whole {P : Program} {w : World} {K : PySem.W.Frag} {mg : Str → Option Value} {base : Heap} {k : Nat} {f : Addr} {fd : FuncData} (A : DefAt K mg "is_whole" s_is_whole ["thing"] f fd) (B_isinstance : mg "isinstance" = none) (B_int : mg "int" = none) (B_bool : mg "bool" = none) :
    DefG P w K mg base (k + 1) "is_whole" 1 (body 1 1 (m_is_whole)) :=
  fn_body A sc_is_whole fun cdv A outer s H E hh => 
    (d_sone (d_ret (d_and (d_isi rfl B_isinstance rfl B_int (by decide +kernel) (d_v 0)) (d_one (d_notV (d_isi rfl B_isinstance rfl B_bool (by decide +kernel) (d_v 0)))))))
/-! ### is_giver -/
abbrev s_is_giver : Stmt := topS 19
theorem sc_is_giver : FnScope ["thing", "many"] ["thing", "many"] (defScope s_is_giver) := ⟨rfl, rfl, rfl, by decide +kernel, rfl, by decide +kernel, by decide +kernel⟩
def m_is_giver (g_is_whole : List D → Mem → Res D) : MS :=
    (mRet (mAndV (mCall g_is_whole (mCons (mV 0) mNil)) (mChain opLe opLt (mC (.int 0)) (mV 0) (mV 1))))
set_option maxHeartbeats 2000000 in
theorem ok_is_giver {P : Program} {w : World} {K : PySem.W.Frag} {mg : Str → Option Value} {base : Heap} {k : Nat} {f : Addr} {fd : FuncData} (A : DefAt K mg "is_giver" s_is_giver ["thing", "many"] f fd) {g_is_whole : List D → Mem → Res D} (D_is_whole : DefG P w K mg base k "is_whole" 1 g_is_whole) :
    DefG P w K mg base (k + 1) "is_giver" 2 (body 2 2 (m_is_giver g_is_whole)) :=
  fn_body A sc_is_giver fun cdv A outer s H E hh => 
    (d_sone (d_ret (d_and (d_call hh D_is_whole rfl (d_cons (d_v 0) d_nil)) (d_one (d_chain o_le o_lt d_int (d_v 0) (d_v 1))))))
/-! ### read_whole -/
abbrev s_read_whole : Stmt := topS 20
theorem sc_read_whole : FnScope ["text", "at", "figures", "sign"] ["text", "at"] (defScope s_read_whole) := ⟨rfl, rfl, rfl, by decide +kernel, rfl, by decide +kernel, by decide +kernel⟩
def m_read_whole : MS :=
    (mSeq (mSet 2 (mSl (mV 0) (mPart (mCB opInt1 (mCons (mOp opEq (mSl (mV 0) mPartN (mPart (mC (.int 1)))) (mC (.str "-"))) mNil))) mPartN))
    (mSeq (mIf (mOr (mNot (mT (mChain opLe opLe (mC (.int 1)) (mCB opLen (mCons (mV 2) mNil)) (mC c_MOST_FIGURES)))) (mNot (mT (mCB opAll (mCons (mLc [3] (mIter (mV 2)) (aName 3) mYes (mOp opIn (mV 3) (mC c_FIGURES))) mNil))))) (mRaiseAt (mV 1)) mSkip)
    (mSeq (mIf (mAnd (mT (mOp opEq (mOp opIx (mV 2) (mC (.int 0))) (mC (.str "0")))) (mT (mOp opNe (mV 0) (mC (.str "0"))))) (mRaiseAt (mV 1)) mSkip)
    (mRet (mCB opInt1 (mCons (mV 0) mNil))))))
set_option maxHeartbeats 2000000 in
theorem ok_read_whole {P : Program} {w : World} {K : PySem.W.Frag} {mg : Str → Option Value} {base : Heap} {k : Nat} {f : Addr} {fd : FuncData} (A : DefAt K mg "read_whole" s_read_whole ["text", "at"] f fd) (B_int : mg "int" = none) (B_len : mg "len" = none) (B_all : mg "all" = none) (C_MOST_FIGURES : GlobOk ⟨K, mg⟩ "MOST_FIGURES" c_MOST_FIGURES) (C_FIGURES : GlobOk ⟨K, mg⟩ "FIGURES" c_FIGURES) {a_NoText i_NoText : Addr} (G_NoText : mg "NoText" = some (.ref a_NoText)) (T_NoText : PySem.NtX.NtTxt K mg a_NoText i_NoText) :
    DefG P w K mg base (k + 1) "read_whole" 2 (body 2 4 (m_read_whole)) :=
  fn_body A sc_read_whole fun cdv A outer s H E hh => 
    (d_scons (d_set (i := 2) hh (d_sl (d_v 0) (d_po (d_ct c_int rfl B_int boot_int (d_cons (d_cmp (o_eq hh.hu) (d_sl (d_v 0) d_poN (d_po d_int)) d_str) d_nil))) d_poN))
    (d_scons (d_if (d_pw (d_wor (d_tnot (d_tchain o_le o_le d_int (d_cb c_len rfl B_len PySem.boot_len (d_cons (d_v 2) d_nil)) (d_glob C_MOST_FIGURES rfl))) (d_wor1 (d_tnot (d_tval (d_cb (c_all hh) rfl B_all boot_all (d_cons (d_lc (own := [("sign", 3)]) hh (d_iter (d_v 2)) (blkOk_by (by rfl)) (fun s H C cl fp hb1 => (d_gname (i := 3) hb1.nd)) (fun s H C cl fp hb1 => d_if0) (fun s H C cl fp hb1 => (d_cmp (o_in hb1.hu) (d_v 3) (d_glob C_FIGURES rfl)))) d_nil))))))) (d_sone (d_raiseAt hh T_NoText rfl (d_v 1))) d_snil)
    (d_scons (d_if (d_pw (d_wand (d_tcmp (o_eq hh.hu) (d_ix hh (d_v 2) d_int) d_str) (d_wand1 (d_tcmp (o_ne hh.hu) (d_v 0) d_str)))) (d_sone (d_raiseAt hh T_NoText rfl (d_v 1))) d_snil)
    (d_sone (d_ret (d_ct c_int rfl B_int boot_int (d_cons (d_v 0) d_nil)))))))
/-! ### read_worth -/
abbrev s_read_worth : Stmt := topS 21
theorem sc_read_worth : FnScope ["text", "number"] ["text"] (defScope s_read_worth) := ⟨rfl, rfl, rfl, by decide +kernel, rfl, by decide +kernel, by decide +kernel⟩
def m_read_worth (g_read_whole : List D → Mem → Res D) (g_is_giver : List D → Mem → Res D) : MS :=
    (mSeq (mIf (mNot (mT (mO1 (opIsi "str") (mV 0)))) (mRaiseAt (mC (.int 0))) mSkip)
    (mSeq (mIf (mT (mOp opEq (mV 0) (mC (.str "none")))) (mRet (mC c_NONE)) mSkip)
    (mSeq (mIf (mT (mOp opNe (mSl (mV 0) mPartN (mPart (mC (.int 1)))) (mC (.str "#")))) (mRet (mTup (mCons (mC (.str "number")) (mCons (mCall g_read_whole (mCons (mV 0) (mCons (mC (.int 0)) mNil))) mNil)))) mSkip)
    (mSeq (mSet 1 (mCall g_read_whole (mCons (mSl (mV 0) (mPart (mC (.int 1))) mPartN) (mCons (mC (.int 0)) mNil))))
    (mSeq (mIf (mNot (mT (mCall g_is_giver (mCons (mV 1) (mCons (mC c_MOST_GIVERS) mNil))))) (mRaiseAt (mC (.int 0))) mSkip)
    (mRet (mTup (mCons (mC (.str "giver")) (mCons (mV 1) mNil)))))))))
set_option maxHeartbeats 2000000 in
theorem ok_read_worth {P : Program} {w : World} {K : PySem.W.Frag} {mg : Str → Option Value} {base : Heap} {k : Nat} {f : Addr} {fd : FuncData} (A : DefAt K mg "read_worth" s_read_worth ["text"] f fd) (B_isinstance : mg "isinstance" = none) (B_str : mg "str" = none) (C_NONE : GlobOk ⟨K, mg⟩ "NONE" c_NONE) (C_MOST_GIVERS : GlobOk ⟨K, mg⟩ "MOST_GIVERS" c_MOST_GIVERS) {a_NoText i_NoText : Addr} (G_NoText : mg "NoText" = some (.ref a_NoText)) (T_NoText : PySem.NtX.NtTxt K mg a_NoText i_NoText) {g_read_whole : List D → Mem → Res D} (D_read_whole : DefG P w K mg base k "read_whole" 2 g_read_whole) {g_is_giver : List D → Mem → Res D} (D_is_giver : DefG P w K mg base k "is_giver" 2 g_is_giver) :
    DefG P w K mg base (k + 1) "read_worth" 1 (body 1 2 (m_read_worth g_read_whole g_is_giver)) :=
  fn_body A sc_read_worth fun cdv A outer s H E hh => 
    (d_scons (d_if (d_tnot (d_tval (d_isi rfl B_isinstance rfl B_str (by decide +kernel) (d_v 0)))) (d_sone (d_raiseAt hh T_NoText rfl d_int)) d_snil)
    (d_scons (d_if (d_tcmp (o_eq hh.hu) (d_v 0) d_str) (d_sone (d_ret (d_glob C_NONE rfl))) d_snil)
    (d_scons (d_if (d_tcmp (o_ne hh.hu) (d_sl (d_v 0) d_poN (d_po d_int)) d_str) (d_sone (d_ret (d_tup (d_cons d_str (d_cons (d_call hh D_read_whole rfl (d_cons (d_v 0) (d_cons d_int d_nil))) d_nil))))) d_snil)
    (d_scons (d_set (i := 1) hh (d_call hh D_read_whole rfl (d_cons (d_sl (d_v 0) (d_po d_int) d_poN) (d_cons d_int d_nil))))
    (d_scons (d_if (d_tnot (d_tval (d_call hh D_is_giver rfl (d_cons (d_v 1) (d_cons (d_glob C_MOST_GIVERS rfl) d_nil))))) (d_sone (d_raiseAt hh T_NoText rfl d_int)) d_snil)
    (d_sone (d_ret (d_tup (d_cons d_str (d_cons (d_v 1) d_nil))))))))))
/-! ### _law_pen -/
abbrev s__law_pen : Stmt := topS 23
theorem sc__law_pen : FnScope ["_law_script"] ["_law_script"] (defScope s__law_pen) := ⟨rfl, rfl, rfl, by decide +kernel, rfl, by decide +kernel, by decide +kernel⟩
def m__law_pen : MS :=
    (mRet (mNewD (mPc (mC (.str "cells")) (mCB opList (mCons (mSl (mV 0) mPartN (mPart (mC (.int 63)))) mNil)) (mPc (mC (.str "at")) (mC (.int 0)) (mPc (mC (.str "left")) (mC (.int 0)) mPn)))))
set_option maxHeartbeats 2000000 in
theorem ok__law_pen {P : Program} {w : World} {K : PySem.W.Frag} {mg : Str → Option Value} {base : Heap} {k : Nat} {f : Addr} {fd : FuncData} (A : DefAt K mg "_law_pen" s__law_pen ["_law_script"] f fd) (B_list : mg "list" = none) :
    DefG P w K mg base (k + 1) "_law_pen" 1 (body 1 1 (m__law_pen)) :=
  fn_body A sc__law_pen fun cdv A outer s H E hh => 
    (d_sone (d_ret (d_newD (d_pc d_str (d_ct c_list rfl B_list boot_list (d_cons (d_sl (d_v 0) d_poN (d_po d_int)) d_nil)) (d_pc d_str d_int (d_pc d_str d_int d_pn))))))
/-! ### _law_draw -/
abbrev s__law_draw : Stmt := topS 24
theorem sc__law_draw : FnScope ["_law_pen_here", "_law_many", "_law_digit", "_law_cells", "_law_at", "_law_cell", "_law_number"] ["_law_pen_here", "_law_many"] (defScope s__law_draw) := ⟨rfl, rfl, rfl, by decide +kernel, rfl, by decide +kernel, by decide +kernel⟩
def m__law_draw : MS :=
    (mSeq (mIf (mT (mOp opGt (mOp opIx (mV 0) (mC (.str "left"))) (mC (.int 0)))) (mSeq (mSet 2 (mOp opMod (mOp opIx (mV 0) (mC (.str "left"))) (mV 1)))
    (mSeq (mDPut (mV 0) (mC (.str "left")) (mOp opDiv (mOp opIx (mV 0) (mC (.str "left"))) (mV 1)))
    (mRet (mV 2)))) mSkip)
    (mSeq (mSet 3 (mOp opIx (mV 0) (mC (.str "cells"))))
    (mSeq (mSet 4 (mOp opIx (mV 0) (mC (.str "at"))))
    (mSeq (mDPut (mV 0) (mC (.str "at")) (mOp opAdd (mV 4) (mC (.int 1))))
    (mSeq (mSet 5 (mOp opAdd (mOp opMul (mC (.int 30011)) (mV 4)) (mC (.int 77))))
    (mSeq (mIf (mT (mOp opNe (mV 3) (mLst mNil))) (mSet 5 (mOp opIx (mV 3) (mOp opMod (mV 4) (mCB opLen (mCons (mV 3) mNil))))) mSkip)
    (mSeq (mIf (mAnd (mT (mOp opLt (mV 4) (mCB opLen (mCons (mV 3) mNil)))) (mT (mOp opGe (mCB opAbs (mCons (mV 5) mNil)) (mOp opPow (mC (.int 10)) (mC (.int 18)))))) (mSeq (mDPut (mV 0) (mC (.str "left")) (mOp opDiv (mCB opAbs (mCons (mV 5) mNil)) (mV 1)))
    (mRet (mOp opMod (mCB opAbs (mCons (mV 5) mNil)) (mV 1)))) mSkip)
    (mSeq (mSet 6 (mOp opMod (mOp opPow (mOp opAdd (mOp opAdd (mOp opMod (mV 5) (mC (.int 2147483587))) (mOp opMul (mC (.int 50021)) (mV 4))) (mC (.int 29))) (mC (.int 5))) (mC (.int 2147483629))))
    (mSeq (mSet 6 (mOp opMod (mOp opPow (mOp opAdd (mOp opMul (mV 6) (mOp opAdd (mOp opMul (mC (.int 2)) (mV 4)) (mC (.int 5)))) (mC (.int 81799))) (mC (.int 3))) (mC (.int 2147483647))))
    (mRet (mOp opMod (mOp opDiv (mV 6) (mC (.int 16))) (mV 1))))))))))))
set_option maxHeartbeats 2000000 in
theorem ok__law_draw {P : Program} {w : World} {K : PySem.W.Frag} {mg : Str → Option Value} {base : Heap} {k : Nat} {f : Addr} {fd : FuncData} (A : DefAt K mg "_law_draw" s__law_draw ["_law_pen_here", "_law_many"] f fd) (B_len : mg "len" = none) (B_abs : mg "abs" = none) :
    DefG P w K mg base (k + 1) "_law_draw" 2 (body 2 7 (m__law_draw)) :=
  fn_body A sc__law_draw fun cdv A outer s H E hh => 
    (d_scons (d_if (d_tcmp o_gt (d_ix hh (d_v 0) d_str) d_int) (d_scons (d_set (i := 2) hh (d_bin o_mod (d_ix hh (d_v 0) d_str) (d_v 1)))
    (d_scons (d_dput hh (d_v 0) d_str (d_bin o_div (d_ix hh (d_v 0) d_str) (d_v 1)))
    (d_sone (d_ret (d_v 2))))) d_snil)
    (d_scons (d_set (i := 3) hh (d_ix hh (d_v 0) d_str))
    (d_scons (d_set (i := 4) hh (d_ix hh (d_v 0) d_str))
    (d_scons (d_dput hh (d_v 0) d_str (d_bin o_add (d_v 4) d_int))
    (d_scons (d_set (i := 5) hh (d_bin o_add (d_bin o_mul d_int (d_v 4)) d_int))
    (d_scons (d_if (d_tcmp (o_ne hh.hu) (d_v 3) (d_lst d_nil)) (d_sone (d_set (i := 5) hh (d_ix hh (d_v 3) (d_bin o_mod (d_v 4) (d_cb c_len rfl B_len PySem.boot_len (d_cons (d_v 3) d_nil)))))) d_snil)
    (d_scons (d_if (d_pw (d_wand (d_tcmp o_lt (d_v 4) (d_cb c_len rfl B_len PySem.boot_len (d_cons (d_v 3) d_nil))) (d_wand1 (d_tcmp o_ge (d_cb c_abs rfl B_abs boot_abs (d_cons (d_v 5) d_nil)) (d_bin o_pow d_int d_int))))) (d_scons (d_dput hh (d_v 0) d_str (d_bin o_div (d_cb c_abs rfl B_abs boot_abs (d_cons (d_v 5) d_nil)) (d_v 1)))
    (d_sone (d_ret (d_bin o_mod (d_cb c_abs rfl B_abs boot_abs (d_cons (d_v 5) d_nil)) (d_v 1))))) d_snil)
    (d_scons (d_set (i := 6) hh (d_bin o_mod (d_bin o_pow (d_bin o_add (d_bin o_add (d_bin o_mod (d_v 5) d_int) (d_bin o_mul d_int (d_v 4))) d_int) d_int) d_int))
    (d_scons (d_set (i := 6) hh (d_bin o_mod (d_bin o_pow (d_bin o_add (d_bin o_mul (d_v 6) (d_bin o_add (d_bin o_mul d_int (d_v 4)) d_int)) d_int) d_int) d_int))
    (d_sone (d_ret (d_bin o_mod (d_bin o_div (d_v 6) d_int) (d_v 1)))))))))))))
/-! ### _law_sign -/
abbrev s__law_sign : Stmt := topS 25
theorem sc__law_sign : FnScope ["_law_pen_here", "_law_signs"] ["_law_pen_here"] (defScope s__law_sign) := ⟨rfl, rfl, rfl, by decide +kernel, rfl, by decide +kernel, by decide +kernel⟩
def m__law_sign (g__law_draw : List D → Mem → Res D) : MS :=
    (mSeq (mSet 1 (mC (.str " !\"#$&'()*+,-./0123456789:;<=>?@ABCDEFGHIJKLMNOPQRSTUVWXYZ[\\]^_`abcdefghijklmnopqrstuvwxyz{|}~\n")))
    (mRet (mOp opIx (mV 1) (mCall g__law_draw (mCons (mV 0) (mCons (mCB opLen (mCons (mV 1) mNil)) mNil))))))
set_option maxHeartbeats 2000000 in
theorem ok__law_sign {P : Program} {w : World} {K : PySem.W.Frag} {mg : Str → Option Value} {base : Heap} {k : Nat} {f : Addr} {fd : FuncData} (A : DefAt K mg "_law_sign" s__law_sign ["_law_pen_here"] f fd) (B_len : mg "len" = none) {g__law_draw : List D → Mem → Res D} (D__law_draw : DefG P w K mg base k "_law_draw" 2 g__law_draw) :
    DefG P w K mg base (k + 1) "_law_sign" 1 (body 1 2 (m__law_sign g__law_draw)) :=
  fn_body A sc__law_sign fun cdv A outer s H E hh => 
    (d_scons (d_set (i := 1) hh d_str)
    (d_sone (d_ret (d_ix hh (d_v 1) (d_call hh D__law_draw rfl (d_cons (d_v 0) (d_cons (d_cb c_len rfl B_len PySem.boot_len (d_cons (d_v 1) d_nil)) d_nil)))))))
/-! ### _law_text -/
abbrev s__law_text : Stmt := topS 26
theorem sc__law_text : FnScope ["_law_pen_here", "_law_way", "_law_some", "_law_size", "_law_figures", "_law_ahead", "_law_k"] ["_law_pen_here"] (defScope s__law_text) := ⟨rfl, rfl, rfl, by decide +kernel, rfl, by decide +kernel, by decide +kernel⟩
def m__law_text (g__law_draw : List D → Mem → Res D) : MS :=
    (mSeq (mSet 1 (mCall g__law_draw (mCons (mV 0) (mCons (mC (.int 4)) mNil))))
    (mSeq (mIf (mT (mOp opEq (mV 1) (mC (.int 0)))) (mSeq (mSet 2 (mLst (mCons (mC (.str "none")) (mCons (mC (.str "None")) (mCons (mC (.str "none ")) (mCons (mC (.str " none")) (mCons (mC (.str "no")) (mCons (mC (.str "")) (mCons (mC (.str " ")) (mCons (mC (.str "#")) (mCons (mC (.str "-")) (mCons (mC (.str "#none")) (mCons (mC (.str "nonenone")) (mCons (mC (.str "any")) (mCons (mC (.str "-#1")) (mCons (mC (.str "# 1")) mNil))))))))))))))))
    (mRet (mOp opIx (mV 2) (mCall g__law_draw (mCons (mV 0) (mCons (mC (.int 14)) mNil)))))) mSkip)
    (mSeq (mSet 3 (mOp opIx (mLst (mCons (mC (.int 1)) (mCons (mC (.int 2)) (mCons (mC (.int 3)) (mCons (mC (.int 29)) (mCons (mC (.int 30)) (mCons (mC (.int 31)) (mCons (mC (.int 40)) mNil)))))))) (mCall g__law_draw (mCons (mV 0) (mCons (mC (.int 7)) mNil)))))
    (mSeq (mSet 4 (mM_join1 (mC (.str "")) (mLc [6] (mRange rng1 (mCons (mV 3) mNil)) (aName 6) mYes (mOp opIx (mC (.str "0123456789")) (mCall g__law_draw (mCons (mV 0) (mCons (mC (.int 10)) mNil)))))))
    (mSeq (mSet 5 (mOp opIx (mLst (mCons (mC (.str "")) (mCons (mC (.str "")) (mCons (mC (.str "-")) (mCons (mC (.str "#")) (mCons (mC (.str "#-")) (mCons (mC (.str "--")) (mCons (mC (.str "+")) (mCons (mC (.str "-0")) (mCons (mC (.str "0")) mNil)))))))))) (mCall g__law_draw (mCons (mV 0) (mCons (mC (.int 9)) mNil)))))
    (mRet (mOp opAdd (mV 5) (mV 4))))))))
set_option maxHeartbeats 2000000 in
theorem ok__law_text {P : Program} {w : World} {K : PySem.W.Frag} {mg : Str → Option Value} {base : Heap} {k : Nat} {f : Addr} {fd : FuncData} (A : DefAt K mg "_law_text" s__law_text ["_law_pen_here"] f fd) (B_range : mg "range" = none) {g__law_draw : List D → Mem → Res D} (D__law_draw : DefG P w K mg base k "_law_draw" 2 g__law_draw) :
    DefG P w K mg base (k + 1) "_law_text" 1 (body 1 7 (m__law_text g__law_draw)) :=
  fn_body A sc__law_text fun cdv A outer s H E hh => 
    (d_scons (d_set (i := 1) hh (d_call hh D__law_draw rfl (d_cons (d_v 0) (d_cons d_int d_nil))))
    (d_scons (d_if (d_tcmp (o_eq hh.hu) (d_v 1) d_int) (d_scons (d_set (i := 2) hh (d_lst (d_cons d_str (d_cons d_str (d_cons d_str (d_cons d_str (d_cons d_str (d_cons d_str (d_cons d_str (d_cons d_str (d_cons d_str (d_cons d_str (d_cons d_str (d_cons d_str (d_cons d_str (d_cons d_str d_nil))))))))))))))))
    (d_sone (d_ret (d_ix hh (d_v 2) (d_call hh D__law_draw rfl (d_cons (d_v 0) (d_cons d_int d_nil))))))) d_snil)
    (d_scons (d_set (i := 3) hh (d_ix hh (d_lst (d_cons d_int (d_cons d_int (d_cons d_int (d_cons d_int (d_cons d_int (d_cons d_int (d_cons d_int d_nil)))))))) (d_call hh D__law_draw rfl (d_cons (d_v 0) (d_cons d_int d_nil)))))
    (d_scons (d_set (i := 4) hh (d_m_join1 hh d_str (d_lc (own := [("_law_k", 6)]) hh (d_range1 rfl B_range (d_cons (d_v 3) d_nil)) (blkOk_by (by rfl)) (fun s H C cl fp hb1 => (d_gname (i := 6) hb1.nd)) (fun s H C cl fp hb1 => d_if0) (fun s H C cl fp hb1 => (d_ix hb1 d_str (d_call hb1 D__law_draw rfl (d_cons (d_v 0) (d_cons d_int d_nil))))))))
    (d_scons (d_set (i := 5) hh (d_ix hh (d_lst (d_cons d_str (d_cons d_str (d_cons d_str (d_cons d_str (d_cons d_str (d_cons d_str (d_cons d_str (d_cons d_str (d_cons d_str d_nil)))))))))) (d_call hh D__law_draw rfl (d_cons (d_v 0) (d_cons d_int d_nil)))))
    (d_sone (d_ret (d_bin o_add (d_v 5) (d_v 4)))))))))
/-! ### _law_bent -/
abbrev s__law_bent : Stmt := topS 27
theorem sc__law_bent : FnScope ["_law_pen_here", "_law_text_here", "_law_way", "_law_at", "_law_sign_here", "_law_some"] ["_law_pen_here", "_law_text_here"] (defScope s__law_bent) := ⟨rfl, rfl, rfl, by decide +kernel, rfl, by decide +kernel, by decide +kernel⟩
def m__law_bent (g__law_draw : List D → Mem → Res D) (g__law_sign : List D → Mem → Res D) : MS :=
    (mSeq (mSet 2 (mCall g__law_draw (mCons (mV 0) (mCons (mC (.int 4)) mNil))))
    (mSeq (mSet 3 (mCall g__law_draw (mCons (mV 0) (mCons (mOp opAdd (mCB opLen (mCons (mV 1) mNil)) (mC (.int 1))) mNil))))
    (mSeq (mSet 4 (mCall g__law_sign (mCons (mV 0) mNil)))
    (mSeq (mSet 5 (mLst (mCons (mV 1) (mCons (mOp opAdd (mOp opAdd (mSl (mV 1) mPartN (mPart (mV 3))) (mV 4)) (mSl (mV 1) (mPart (mV 3)) mPartN)) (mCons (mOp opAdd (mSl (mV 1) mPartN (mPart (mV 3))) (mSl (mV 1) (mPart (mOp opAdd (mV 3) (mC (.int 1)))) mPartN)) (mCons (mOp opAdd (mOp opAdd (mSl (mV 1) mPartN (mPart (mV 3))) (mV 4)) (mSl (mV 1) (mPart (mOp opAdd (mV 3) (mC (.int 1)))) mPartN)) mNil))))))
    (mRet (mOp opIx (mV 5) (mV 2)))))))
set_option maxHeartbeats 2000000 in
theorem ok__law_bent {P : Program} {w : World} {K : PySem.W.Frag} {mg : Str → Option Value} {base : Heap} {k : Nat} {f : Addr} {fd : FuncData} (A : DefAt K mg "_law_bent" s__law_bent ["_law_pen_here", "_law_text_here"] f fd) (B_len : mg "len" = none) {g__law_draw : List D → Mem → Res D} (D__law_draw : DefG P w K mg base k "_law_draw" 2 g__law_draw) {g__law_sign : List D → Mem → Res D} (D__law_sign : DefG P w K mg base k "_law_sign" 1 g__law_sign) :
    DefG P w K mg base (k + 1) "_law_bent" 2 (body 2 6 (m__law_bent g__law_draw g__law_sign)) :=
  fn_body A sc__law_bent fun cdv A outer s H E hh => 
    (d_scons (d_set (i := 2) hh (d_call hh D__law_draw rfl (d_cons (d_v 0) (d_cons d_int d_nil))))
    (d_scons (d_set (i := 3) hh (d_call hh D__law_draw rfl (d_cons (d_v 0) (d_cons (d_bin o_add (d_cb c_len rfl B_len PySem.boot_len (d_cons (d_v 1) d_nil)) d_int) d_nil))))
    (d_scons (d_set (i := 4) hh (d_call hh D__law_sign rfl (d_cons (d_v 0) d_nil)))
    (d_scons (d_set (i := 5) hh (d_lst (d_cons (d_v 1) (d_cons (d_bin o_add (d_bin o_add (d_sl (d_v 1) d_poN (d_po (d_v 3))) (d_v 4)) (d_sl (d_v 1) (d_po (d_v 3)) d_poN)) (d_cons (d_bin o_add (d_sl (d_v 1) d_poN (d_po (d_v 3))) (d_sl (d_v 1) (d_po (d_bin o_add (d_v 3) d_int)) d_poN)) (d_cons (d_bin o_add (d_bin o_add (d_sl (d_v 1) d_poN (d_po (d_v 3))) (d_v 4)) (d_sl (d_v 1) (d_po (d_bin o_add (d_v 3) d_int)) d_poN)) d_nil))))))
    (d_sone (d_ret (d_ix hh (d_v 5) (d_v 2))))))))
/-! ### _law_whole -/
abbrev s__law_whole : Stmt := topS 28
theorem sc__law_whole : FnScope ["_law_text_here", "_law_figures", "_law_sign_here"] ["_law_text_here"] (defScope s__law_whole) := ⟨rfl, rfl, rfl, by decide +kernel, rfl, by decide +kernel, by decide +kernel⟩
def m__law_whole : MS :=
    (mSeq (mSet 1 (mV 0))
    (mSeq (mIf (mT (mOp opEq (mSl (mV 0) mPartN (mPart (mC (.int 1)))) (mC (.str "-")))) (mSet 1 (mSl (mV 0) (mPart (mC (.int 1))) mPartN)) mSkip)
    (mSeq (mIf (mOr (mT (mOp opEq (mV 1) (mC (.str "")))) (mOr (mT (mOp opGt (mCB opLen (mCons (mV 1) mNil)) (mC (.int 30)))) (mT (mOp opNe (mLc [2] (mIter (mV 1)) (aName 2) (mT (mOp opNotIn (mV 2) (mC (.str "0123456789")))) (mV 2)) (mLst mNil))))) (mRet (mLst mNil)) mSkip)
    (mSeq (mIf (mAnd (mT (mOp opEq (mOp opIx (mV 1) (mC (.int 0))) (mC (.str "0")))) (mT (mOp opNe (mV 0) (mC (.str "0"))))) (mRet (mLst mNil)) mSkip)
    (mRet (mLst (mCons (mCB opInt1 (mCons (mV 0) mNil)) mNil)))))))
set_option maxHeartbeats 2000000 in
theorem ok__law_whole {P : Program} {w : World} {K : PySem.W.Frag} {mg : Str → Option Value} {base : Heap} {k : Nat} {f : Addr} {fd : FuncData} (A : DefAt K mg "_law_whole" s__law_whole ["_law_text_here"] f fd) (B_len : mg "len" = none) (B_int : mg "int" = none) :
    DefG P w K mg base (k + 1) "_law_whole" 1 (body 1 3 (m__law_whole)) :=
  fn_body A sc__law_whole fun cdv A outer s H E hh => 
    (d_scons (d_set (i := 1) hh (d_v 0))
    (d_scons (d_if (d_tcmp (o_eq hh.hu) (d_sl (d_v 0) d_poN (d_po d_int)) d_str) (d_sone (d_set (i := 1) hh (d_sl (d_v 0) (d_po d_int) d_poN))) d_snil)
    (d_scons (d_if (d_pw (d_wor (d_tcmp (o_eq hh.hu) (d_v 1) d_str) (d_wor (d_tcmp o_gt (d_cb c_len rfl B_len PySem.boot_len (d_cons (d_v 1) d_nil)) d_int) (d_wor1 (d_tcmp (o_ne hh.hu) (d_lc (own := [("_law_sign_here", 2)]) hh (d_iter (d_v 1)) (blkOk_by (by rfl)) (fun s H C cl fp hb1 => (d_gname (i := 2) hb1.nd)) (fun s H C cl fp hb1 => (d_if1B (d_tcmp (o_notIn hb1.hu) (d_v 2) d_str))) (fun s H C cl fp hb1 => (d_v 2))) (d_lst d_nil)))))) (d_sone (d_ret (d_lst d_nil))) d_snil)
    (d_scons (d_if (d_pw (d_wand (d_tcmp (o_eq hh.hu) (d_ix hh (d_v 1) d_int) d_str) (d_wand1 (d_tcmp (o_ne hh.hu) (d_v 0) d_str)))) (d_sone (d_ret (d_lst d_nil))) d_snil)
    (d_sone (d_ret (d_lst (d_cons (d_ct c_int rfl B_int boot_int (d_cons (d_v 0) d_nil)) d_nil))))))))
/-! ### _law_due -/
abbrev s__law_due : Stmt := topS 29
theorem sc__law_due : FnScope ["_law_thing", "_law_number"] ["_law_thing"] (defScope s__law_due) := ⟨rfl, rfl, rfl, by decide +kernel, rfl, by decide +kernel, by decide +kernel⟩
def m__law_due (g__law_whole : List D → Mem → Res D) : MS :=
    (mSeq (mIf (mNot (mT (mO1 (opIsi "str") (mV 0)))) (mRet (mLst mNil)) mSkip)
    (mSeq (mIf (mT (mOp opEq (mV 0) (mC (.str "none")))) (mRet (mLst (mCons (mTup (mCons (mC (.str "none")) mNil)) mNil))) mSkip)
    (mSeq (mIf (mT (mOp opNe (mSl (mV 0) mPartN (mPart (mC (.int 1)))) (mC (.str "#")))) (mRet (mLc [1] (mIter (mCall g__law_whole (mCons (mV 0) mNil))) (aName 1) mYes (mTup (mCons (mC (.str "number")) (mCons (mV 1) mNil))))) mSkip)
    (mRet (mLc [1] (mIter (mCall g__law_whole (mCons (mSl (mV 0) (mPart (mC (.int 1))) mPartN) mNil))) (aName 1) (mT (mChain opLe opLe (mC (.int 0)) (mV 1) (mC (.int 99)))) (mTup (mCons (mC (.str "giver")) (mCons (mV 1) mNil))))))))
set_option maxHeartbeats 2000000 in
theorem ok__law_due {P : Program} {w : World} {K : PySem.W.Frag} {mg : Str → Option Value} {base : Heap} {k : Nat} {f : Addr} {fd : FuncData} (A : DefAt K mg "_law_due" s__law_due ["_law_thing"] f fd) (B_isinstance : mg "isinstance" = none) (B_str : mg "str" = none) {g__law_whole : List D → Mem → Res D} (D__law_whole : DefG P w K mg base k "_law_whole" 1 g__law_whole) :
    DefG P w K mg base (k + 1) "_law_due" 1 (body 1 2 (m__law_due g__law_whole)) :=
  fn_body A sc__law_due fun cdv A outer s H E hh => 
    (d_scons (d_if (d_tnot (d_tval (d_isi rfl B_isinstance rfl B_str (by decide +kernel) (d_v 0)))) (d_sone (d_ret (d_lst d_nil))) d_snil)
    (d_scons (d_if (d_tcmp (o_eq hh.hu) (d_v 0) d_str) (d_sone (d_ret (d_lst (d_cons (d_tup (d_cons d_str d_nil)) d_nil)))) d_snil)
    (d_scons (d_if (d_tcmp (o_ne hh.hu) (d_sl (d_v 0) d_poN (d_po d_int)) d_str) (d_sone (d_ret (d_lc (own := [("_law_number", 1)]) hh (d_iter (d_call hh D__law_whole rfl (d_cons (d_v 0) d_nil))) (blkOk_by (by rfl)) (fun s H C cl fp hb1 => (d_gname (i := 1) hb1.nd)) (fun s H C cl fp hb1 => d_if0) (fun s H C cl fp hb1 => (d_tup (d_cons d_str (d_cons (d_v 1) d_nil))))))) d_snil)
    (d_sone (d_ret (d_lc (own := [("_law_number", 1)]) hh (d_iter (d_call hh D__law_whole rfl (d_cons (d_sl (d_v 0) (d_po d_int) d_poN) d_nil))) (blkOk_by (by rfl)) (fun s H C cl fp hb1 => (d_gname (i := 1) hb1.nd)) (fun s H C cl fp hb1 => (d_if1B (d_tchain o_le o_le d_int (d_v 1) d_int))) (fun s H C cl fp hb1 => (d_tup (d_cons d_str (d_cons (d_v 1) d_nil))))))))))
/-! ### _law_heard -/
abbrev s__law_heard : Stmt := topS 30
theorem sc__law_heard : FnScope ["_law_thing", "_law_caught", "_law_found", "e"] ["_law_thing"] (defScope s__law_heard) := ⟨rfl, rfl, rfl, by decide +kernel, rfl, by decide +kernel, by decide +kernel⟩
def m__law_heard (g_read_worth : List D → Mem → Res D) : MS :=
    (mSeq (mSet 1 (mC .non))
    (mSeq (mSet 2 (mC .non))
    (mSeq (mTryK (sub1 "NoText" true) 3 1 (mSet 2 (mCall g_read_worth (mCons (mV 0) mNil))))
    (mSeq (mIf (mT (mIsN (mV 1))) (mRet (mLst (mCons (mV 2) mNil))) mSkip)
    (mSeq (mIf (mOr (mNot (mT (mO1 (opIsE (sub1 "NoText" true)) (mV 1)))) (mOr (mNot (mT (mO1 (opIsE (sub1 "NoText" true)) (mV 1)))) (mT (mOp opNe (mCB opRepr (mCons (mO1 (opFld "NoText" "at") (mV 1)) mNil)) (mC (.str "0")))))) (mRet (mLst (mCons (mC (.str "another refusal")) mNil))) mSkip)
    (mSeq (mIf (mT (mO1 (opIsE (sub1 "NoText" false)) (mV 1))) (mRet (mLst (mCons (mC (.str "more than one refusal")) mNil))) mSkip)
    (mRet (mLst mNil))))))))
set_option maxHeartbeats 2000000 in
theorem ok__law_heard {P : Program} {w : World} {K : PySem.W.Frag} {mg : Str → Option Value} {base : Heap} {k : Nat} {f : Addr} {fd : FuncData} (A : DefAt K mg "_law_heard" s__law_heard ["_law_thing"] f fd) (B_isinstance : mg "isinstance" = none) (B_ValueError : mg "ValueError" = none) (B_repr : mg "repr" = none) {a_NoText a_GiverError i_NoText a_Full a_NoAsk a_NoBook a_NoCode a_NoGiver a_NoKept a_NoMost a_NoRow a_NoRule a_NoWorth : Addr} (G_NoText : mg "NoText" = some (.ref a_NoText)) (G_GiverError : mg "GiverError" = some (.ref a_GiverError)) (X_GiverError_NoText : PySem.W.exmOne K (.ref a_NoText) (.ref a_GiverError) = some true) (E_NoText : ExcC K a_NoText) (J_NoText_NoText : PySem.W.kitOne K (.ref a_NoText) (.ref a_NoText) = some true) (J_ValueError_NoText : PySem.W.kitOne K (.ref a_NoText) (.type "ValueError") = some true) (T_NoText : PySem.NtX.NtTxt K mg a_NoText i_NoText) (G_Full : mg "Full" = some (.ref a_Full)) (G_NoAsk : mg "NoAsk" = some (.ref a_NoAsk)) (G_NoBook : mg "NoBook" = some (.ref a_NoBook)) (G_NoCode : mg "NoCode" = some (.ref a_NoCode)) (G_NoGiver : mg "NoGiver" = some (.ref a_NoGiver)) (G_NoKept : mg "NoKept" = some (.ref a_NoKept)) (G_NoMost : mg "NoMost" = some (.ref a_NoMost)) (G_NoRow : mg "NoRow" = some (.ref a_NoRow)) (G_NoRule : mg "NoRule" = some (.ref a_NoRule)) (G_NoWorth : mg "NoWorth" = some (.ref a_NoWorth)) (L_Full_NoAsk_NoBook_NoCode_NoGiver_NoKept_NoMost_NoRow_NoRule_NoWorth_NoText : PySem.W.kitAny K (.ref a_NoText) ([a_Full, a_NoAsk, a_NoBook, a_NoCode, a_NoGiver, a_NoKept, a_NoMost, a_NoRow, a_NoRule, a_NoWorth].map Value.ref) = some false) {g_read_worth : List D → Mem → Res D} (D_read_worth : DefG P w K mg base k "read_worth" 1 g_read_worth) :
    DefG P w K mg base (k + 1) "_law_heard" 1 (body 1 4 (m__law_heard g_read_worth)) :=
  fn_body A sc__law_heard fun cdv A outer s H E hh => 
    (d_scons (d_set (i := 1) hh d_non)
    (d_scons (d_set (i := 2) hh d_non)
    (d_scons (d_tryK (i := 3) (j := 1) hh ⟨rfl, by decide, .inl G_GiverError⟩ (sub1_of (P := fun D b => PySem.W.exmOne K (.ref D) (.ref a_GiverError) = some b) G_NoText X_GiverError_NoText) (fun W' pn xe h1 => (d_sone (d_set (i := 2) h1 (d_call h1 D_read_worth rfl (d_cons (d_v 0) d_nil))))))
    (d_scons (d_if (d_tisN (d_v 1)) (d_sone (d_ret (d_lst (d_cons (d_v 2) d_nil)))) d_snil)
    (d_scons (d_if (d_pw (d_wor (d_tnot (d_tval (d_isE (cv := .ref a_NoText) rfl B_isinstance (d_v 1) (pe_glob (v := .ref a_NoText) rfl G_NoText rfl) (fun _ h => h) (sub1_of (P := fun D b => PySem.W.kitOne K (.ref D) (.ref a_NoText) = some b ∧ ExcC K D) G_NoText ⟨J_NoText_NoText, E_NoText⟩)))) (d_wor (d_tnot (d_tval (d_isE (cv := .type "ValueError") rfl B_isinstance (d_v 1) (pe_bltn (v := .ty "ValueError") rfl B_ValueError (by decide +kernel) rfl) (fun _ h => h) (sub1_of (P := fun D b => PySem.W.kitOne K (.ref D) (.type "ValueError") = some b ∧ ExcC K D) G_NoText ⟨J_ValueError_NoText, E_NoText⟩)))) (d_wor1 (d_tcmp (o_ne hh.hu) (d_cb (c_repr hh) rfl B_repr boot_repr (d_cons (d_fld (d_v 1) (nt_xf T_NoText)) d_nil)) d_str))))) (d_sone (d_ret (d_lst (d_cons d_str d_nil)))) d_snil)
    (d_scons (d_if (d_tval (d_isT (cs := [a_Full, a_NoAsk, a_NoBook, a_NoCode, a_NoGiver, a_NoKept, a_NoMost, a_NoRow, a_NoRule, a_NoWorth]) rfl B_isinstance (d_v 1) (pas_cons rfl G_Full (pas_cons rfl G_NoAsk (pas_cons rfl G_NoBook (pas_cons rfl G_NoCode (pas_cons rfl G_NoGiver (pas_cons rfl G_NoKept (pas_cons rfl G_NoMost (pas_cons rfl G_NoRow (pas_cons rfl G_NoRule (pas_cons rfl G_NoWorth pas_nil)))))))))) (by simp) (sub1_of (P := fun D b => PySem.W.kitAny K (.ref D) ([a_Full, a_NoAsk, a_NoBook, a_NoCode, a_NoGiver, a_NoKept, a_NoMost, a_NoRow, a_NoRule, a_NoWorth].map Value.ref) = some b ∧ ExcC K D) G_NoText ⟨L_Full_NoAsk_NoBook_NoCode_NoGiver_NoKept_NoMost_NoRow_NoRule_NoWorth_NoText, E_NoText⟩))) (d_sone (d_ret (d_lst (d_cons d_str d_nil)))) d_snil)
    (d_sone (d_ret (d_lst d_nil)))))))))
/-! ### law -/
abbrev s_law : Stmt := topS 31
theorem sc_law : FnScope ["_law_script", "_law_pen_here", "_law_odd", "_law_turn", "_law_text_here", "_law_thing"] ["_law_script"] (defScope s_law) := ⟨rfl, rfl, rfl, by decide +kernel, rfl, by decide +kernel, by decide +kernel⟩
def m_law (g__law_pen : List D → Mem → Res D) (g__law_text : List D → Mem → Res D) (g__law_draw : List D → Mem → Res D) (g__law_bent : List D → Mem → Res D) (g__law_heard : List D → Mem → Res D) (g__law_due : List D → Mem → Res D) : MS :=
    (mSeq (mSet 1 (mCall g__law_pen (mCons (mV 0) mNil)))
    (mSeq (mSet 2 (mLst (mCons (mC .non) (mCons (mC (.bl true)) (mCons (mC (.int 0)) (mCons (mC (.int 7)) (mCons (mTup mNil) (mCons (mLst mNil) (mCons (mC (.dk [] [])) (mCons (mTup (mCons (mC (.str "none")) mNil)) (mCons (mLst (mCons (mC (.str "none")) mNil)) (mCons (mTup (mCons (mC (.str "number")) (mCons (mC (.int 1)) mNil))) (mCons (mDict (mPc (mC (.str "none")) (mC (.int 1)) mPn)) (mCons (mOp opPow (mC (.int 10)) (mC (.int 39))) mNil))))))))))))))
    (mSeq (mFor (mRange rng1 (mCons (mC (.int 12)) mNil)) (aName 3) (mSeq (mSet 4 (mCall g__law_text (mCons (mV 1) mNil)))
    (mFor (mIter (mTup (mCons (mV 4) (mCons (mCall g__law_bent (mCons (mV 1) (mCons (mV 4) mNil))) (mCons (mCall g__law_bent (mCons (mV 1) (mCons (mV 4) mNil))) (mCons (mOp opIx (mV 2) (mCall g__law_draw (mCons (mV 1) (mCons (mC (.int 12)) mNil)))) (mCons (mV 4) mNil))))))) (aName 5) (mIf (mT (mOp opNe (mCB opRepr (mCons (mCall g__law_heard (mCons (mV 5) mNil)) mNil)) (mCB opRepr (mCons (mCall g__law_due (mCons (mV 5) mNil)) mNil)))) (mRet (mC (.bl false))) mSkip))))
    (mRet (mC (.bl true))))))
set_option maxHeartbeats 2000000 in
theorem ok_law {P : Program} {w : World} {K : PySem.W.Frag} {mg : Str → Option Value} {base : Heap} {k : Nat} {f : Addr} {fd : FuncData} (A : DefAt K mg "law" s_law ["_law_script"] f fd) (B_range : mg "range" = none) (B_repr : mg "repr" = none) {g__law_pen : List D → Mem → Res D} (D__law_pen : DefG P w K mg base k "_law_pen" 1 g__law_pen) {g__law_text : List D → Mem → Res D} (D__law_text : DefG P w K mg base k "_law_text" 1 g__law_text) {g__law_draw : List D → Mem → Res D} (D__law_draw : DefG P w K mg base k "_law_draw" 2 g__law_draw) {g__law_bent : List D → Mem → Res D} (D__law_bent : DefG P w K mg base k "_law_bent" 2 g__law_bent) {g__law_heard : List D → Mem → Res D} (D__law_heard : DefG P w K mg base k "_law_heard" 1 g__law_heard) {g__law_due : List D → Mem → Res D} (D__law_due : DefG P w K mg base k "_law_due" 1 g__law_due) :
    DefG P w K mg base (k + 1) "law" 1 (body 1 6 (m_law g__law_pen g__law_text g__law_draw g__law_bent g__law_heard g__law_due)) :=
  fn_body A sc_law fun cdv A outer s H E hh => 
    (d_scons (d_set (i := 1) hh (d_call hh D__law_pen rfl (d_cons (d_v 0) d_nil)))
    (d_scons (d_set (i := 2) hh (d_lst (d_cons d_non (d_cons d_bl (d_cons d_int (d_cons d_int (d_cons (d_tup d_nil) (d_cons (d_lst d_nil) (d_cons d_newK0 (d_cons (d_tup (d_cons d_str d_nil)) (d_cons (d_lst (d_cons d_str d_nil)) (d_cons (d_tup (d_cons d_str (d_cons d_int d_nil))) (d_cons (d_dict (d_pc d_str d_int d_pn)) (d_cons (d_bin o_pow d_int d_int) d_nil))))))))))))))
    (d_scons (d_for hh (d_range1 rfl B_range (d_cons d_int d_nil)) (d_gname (i := 3) hh.nd) (d_scons (d_set (i := 4) hh (d_call hh D__law_text rfl (d_cons (d_v 1) d_nil)))
    (d_sone (d_for hh (d_iter (d_tup (d_cons (d_v 4) (d_cons (d_call hh D__law_bent rfl (d_cons (d_v 1) (d_cons (d_v 4) d_nil))) (d_cons (d_call hh D__law_bent rfl (d_cons (d_v 1) (d_cons (d_v 4) d_nil))) (d_cons (d_ix hh (d_v 2) (d_call hh D__law_draw rfl (d_cons (d_v 1) (d_cons d_int d_nil)))) (d_cons (d_v 4) d_nil))))))) (d_gname (i := 5) hh.nd) (d_sone (d_if (d_tcmp (o_ne hh.hu) (d_cb (c_repr hh) rfl B_repr boot_repr (d_cons (d_call hh D__law_heard rfl (d_cons (d_v 5) d_nil)) d_nil)) (d_cb (c_repr hh) rfl B_repr boot_repr (d_cons (d_call hh D__law_due rfl (d_cons (d_v 5) d_nil)) d_nil))) (d_sone (d_ret d_bl)) d_snil))))))
    (d_sone (d_ret d_bl)))))
set_option maxHeartbeats 2000000 in
theorem okX_law {P : Program} {w : World} {K : PySem.W.Frag} {mg : Str → Option Value} {base : Heap} {k : Nat} {f : Addr} {fd : FuncData} (A : DefAt K mg "law" s_law ["_law_script"] f fd) (B_range : mg "range" = none) (B_repr : mg "repr" = none) {g__law_pen : List D → Mem → Res D} (D__law_pen : DefG P w K mg base k "_law_pen" 1 g__law_pen) {g__law_text : List D → Mem → Res D} (D__law_text : DefG P w K mg base k "_law_text" 1 g__law_text) {g__law_draw : List D → Mem → Res D} (D__law_draw : DefG P w K mg base k "_law_draw" 2 g__law_draw) {g__law_bent : List D → Mem → Res D} (D__law_bent : DefG P w K mg base k "_law_bent" 2 g__law_bent) {g__law_heard : List D → Mem → Res D} (D__law_heard : DefG P w K mg base k "_law_heard" 1 g__law_heard) {g__law_due : List D → Mem → Res D} (D__law_due : DefG P w K mg base k "_law_due" 1 g__law_due) :
    FnG P w K mg base (k + 1) f fd ["_law_script"] (spM ⟨K, mg⟩ 1 (body 1 6 (m_law g__law_pen g__law_text g__law_draw g__law_bent g__law_heard g__law_due))) :=
  fn_bodyX A.U sc_law fun cdv A outer s H E hh => 
    (d_scons (d_set (i := 1) hh (d_call hh D__law_pen rfl (d_cons (d_v 0) d_nil)))
    (d_scons (d_set (i := 2) hh (d_lst (d_cons d_non (d_cons d_bl (d_cons d_int (d_cons d_int (d_cons (d_tup d_nil) (d_cons (d_lst d_nil) (d_cons d_newK0 (d_cons (d_tup (d_cons d_str d_nil)) (d_cons (d_lst (d_cons d_str d_nil)) (d_cons (d_tup (d_cons d_str (d_cons d_int d_nil))) (d_cons (d_dict (d_pc d_str d_int d_pn)) (d_cons (d_bin o_pow d_int d_int) d_nil))))))))))))))
    (d_scons (d_for hh (d_range1 rfl B_range (d_cons d_int d_nil)) (d_gname (i := 3) hh.nd) (d_scons (d_set (i := 4) hh (d_call hh D__law_text rfl (d_cons (d_v 1) d_nil)))
    (d_sone (d_for hh (d_iter (d_tup (d_cons (d_v 4) (d_cons (d_call hh D__law_bent rfl (d_cons (d_v 1) (d_cons (d_v 4) d_nil))) (d_cons (d_call hh D__law_bent rfl (d_cons (d_v 1) (d_cons (d_v 4) d_nil))) (d_cons (d_ix hh (d_v 2) (d_call hh D__law_draw rfl (d_cons (d_v 1) (d_cons d_int d_nil)))) (d_cons (d_v 4) d_nil))))))) (d_gname (i := 5) hh.nd) (d_sone (d_if (d_tcmp (o_ne hh.hu) (d_cb (c_repr hh) rfl B_repr boot_repr (d_cons (d_call hh D__law_heard rfl (d_cons (d_v 5) d_nil)) d_nil)) (d_cb (c_repr hh) rfl B_repr boot_repr (d_cons (d_call hh D__law_due rfl (d_cons (d_v 5) d_nil)) d_nil))) (d_sone (d_ret d_bl)) d_snil))))))
    (d_sone (d_ret d_bl)))))
/-! ### together -/
def g__law_pen : List D → Mem → Res D := body 1 1 (m__law_pen)
def g__law_draw : List D → Mem → Res D := body 2 7 (m__law_draw)
def g__law_text : List D → Mem → Res D := body 1 7 (m__law_text g__law_draw)
def g__law_sign : List D → Mem → Res D := body 1 2 (m__law_sign g__law_draw)
def g__law_bent : List D → Mem → Res D := body 2 6 (m__law_bent g__law_draw g__law_sign)
def g_read_whole : List D → Mem → Res D := body 2 4 (m_read_whole)
def g_is_whole : List D → Mem → Res D := body 1 1 (m_is_whole)
def g_is_giver : List D → Mem → Res D := body 2 2 (m_is_giver g_is_whole)
def g_read_worth : List D → Mem → Res D := body 1 2 (m_read_worth g_read_whole g_is_giver)
def g__law_heard : List D → Mem → Res D := body 1 4 (m__law_heard g_read_worth)
def g__law_whole : List D → Mem → Res D := body 1 3 (m__law_whole)
def g__law_due : List D → Mem → Res D := body 1 2 (m__law_due g__law_whole)
def g_law : List D → Mem → Res D := body 1 6 (m_law g__law_pen g__law_text g__law_draw g__law_bent g__law_heard g__law_due)
set_option maxHeartbeats 8000000 in
theorem all_mk {P : Program} {w : World} {K : PySem.W.Frag} {h : Heap} {mg : Str → Option Value} {fa : Addr} (X : K.In h) (G : h.Ns mainGlobals mg) (hfa : mg "law" = some (.ref fa))
    {f0 : Addr} {od0 an0 : Option Addr} {sl0 : Array (Option Value)} {oc0 kV0 dc0 pm0 cd0 ct0 : Value}
    {f1 : Addr} {od1 an1 : Option Addr} {sl1 : Array (Option Value)} {oc1 kV1 dc1 pm1 cd1 ct1 : Value}
    {f2 : Addr} {od2 an2 : Option Addr} {sl2 : Array (Option Value)} {oc2 kV2 dc2 pm2 cd2 ct2 : Value}
    {f3 : Addr} {od3 an3 : Option Addr} {sl3 : Array (Option Value)} {oc3 kV3 dc3 pm3 cd3 ct3 : Value}
    {f4 : Addr} {od4 an4 : Option Addr} {sl4 : Array (Option Value)} {oc4 kV4 dc4 pm4 cd4 ct4 : Value}
    {f5 : Addr} {od5 an5 : Option Addr} {sl5 : Array (Option Value)} {oc5 kV5 dc5 pm5 cd5 ct5 : Value}
    {f6 : Addr} {od6 an6 : Option Addr} {sl6 : Array (Option Value)} {oc6 kV6 dc6 pm6 cd6 ct6 : Value}
    {f7 : Addr} {od7 an7 : Option Addr} {sl7 : Array (Option Value)} {oc7 kV7 dc7 pm7 cd7 ct7 : Value}
    {f8 : Addr} {od8 an8 : Option Addr} {sl8 : Array (Option Value)} {oc8 kV8 dc8 pm8 cd8 ct8 : Value}
    {f9 : Addr} {od9 an9 : Option Addr} {sl9 : Array (Option Value)} {oc9 kV9 dc9 pm9 cd9 ct9 : Value}
    {f10 : Addr} {od10 an10 : Option Addr} {sl10 : Array (Option Value)} {oc10 kV10 dc10 pm10 cd10 ct10 : Value}
    {f11 : Addr} {od11 an11 : Option Addr} {sl11 : Array (Option Value)} {oc11 kV11 dc11 pm11 cd11 ct11 : Value}
    {f12 : Addr} {od12 an12 : Option Addr} {sl12 : Array (Option Value)} {oc12 kV12 dc12 pm12 cd12 ct12 : Value}
    {t_MOST_FIGURES : Tok}
    {t_FIGURES : Tok}
    {p_NONE : Addr} {od_NONE : Option Addr} {its_NONE : Array Value} {n_NONE : Nat} {sl_NONE : Array (Option Value)}
    {t_MOST_GIVERS : Tok}
    {a_NoText a_GiverError a_Full a_NoAsk a_NoBook a_NoCode a_NoGiver a_NoKept a_NoMost a_NoRow a_NoRule a_NoWorth i_NoText : Addr}
    {nm_NoText qn_NoText : Str} {N_NoText : Addr} {bs_NoText bm_NoText : List Value} {sn_NoText : List Str} {sb_NoText : List Value} {ab_NoText : Bool} {col_NoText : Option Bool} {dd_NoText : Option Addr} {m0_NoText m1_NoText m2_NoText m3_NoText m5_NoText : Option Value} {od_NoText an_NoText : Option Addr} {sl_NoText : Array (Option Value)} {oc_NoText dc_NoText pm_NoText cd_NoText ct_NoText : Value}
    (a0 : PySem.W.nsIn K mainGlobals "_law_pen" = some (some (.ref f0)))
    (l0 : K.lookup f0 = some ⟨oc0, od0, .func (PySem.W.fnOf "_law_pen" "_law_pen" (defArgs s__law_pen) (defBody s__law_pen) (defScope s__law_pen) .none kV0 dc0 pm0 an0 cd0 ct0), sl0⟩)
    (c0 : PySem.W.codeIn K cd0 "_law_pen" = true)
    (k0 : PySem.W.keepIn K (.ref f0) = true)
    (a1 : PySem.W.nsIn K mainGlobals "_law_draw" = some (some (.ref f1)))
    (l1 : K.lookup f1 = some ⟨oc1, od1, .func (PySem.W.fnOf "_law_draw" "_law_draw" (defArgs s__law_draw) (defBody s__law_draw) (defScope s__law_draw) .none kV1 dc1 pm1 an1 cd1 ct1), sl1⟩)
    (c1 : PySem.W.codeIn K cd1 "_law_draw" = true)
    (k1 : PySem.W.keepIn K (.ref f1) = true)
    (a2 : PySem.W.nsIn K mainGlobals "_law_text" = some (some (.ref f2)))
    (l2 : K.lookup f2 = some ⟨oc2, od2, .func (PySem.W.fnOf "_law_text" "_law_text" (defArgs s__law_text) (defBody s__law_text) (defScope s__law_text) .none kV2 dc2 pm2 an2 cd2 ct2), sl2⟩)
    (c2 : PySem.W.codeIn K cd2 "_law_text" = true)
    (k2 : PySem.W.keepIn K (.ref f2) = true)
    (a3 : PySem.W.nsIn K mainGlobals "_law_sign" = some (some (.ref f3)))
    (l3 : K.lookup f3 = some ⟨oc3, od3, .func (PySem.W.fnOf "_law_sign" "_law_sign" (defArgs s__law_sign) (defBody s__law_sign) (defScope s__law_sign) .none kV3 dc3 pm3 an3 cd3 ct3), sl3⟩)
    (c3 : PySem.W.codeIn K cd3 "_law_sign" = true)
    (k3 : PySem.W.keepIn K (.ref f3) = true)
    (a4 : PySem.W.nsIn K mainGlobals "_law_bent" = some (some (.ref f4)))
    (l4 : K.lookup f4 = some ⟨oc4, od4, .func (PySem.W.fnOf "_law_bent" "_law_bent" (defArgs s__law_bent) (defBody s__law_bent) (defScope s__law_bent) .none kV4 dc4 pm4 an4 cd4 ct4), sl4⟩)
    (c4 : PySem.W.codeIn K cd4 "_law_bent" = true)
    (k4 : PySem.W.keepIn K (.ref f4) = true)
    (a5 : PySem.W.nsIn K mainGlobals "read_whole" = some (some (.ref f5)))
    (l5 : K.lookup f5 = some ⟨oc5, od5, .func (PySem.W.fnOf "read_whole" "read_whole" (defArgs s_read_whole) (defBody s_read_whole) (defScope s_read_whole) .none kV5 dc5 pm5 an5 cd5 ct5), sl5⟩)
    (c5 : PySem.W.codeIn K cd5 "read_whole" = true)
    (k5 : PySem.W.keepIn K (.ref f5) = true)
    (a6 : PySem.W.nsIn K mainGlobals "is_whole" = some (some (.ref f6)))
    (l6 : K.lookup f6 = some ⟨oc6, od6, .func (PySem.W.fnOf "is_whole" "is_whole" (defArgs s_is_whole) (defBody s_is_whole) (defScope s_is_whole) .none kV6 dc6 pm6 an6 cd6 ct6), sl6⟩)
    (c6 : PySem.W.codeIn K cd6 "is_whole" = true)
    (k6 : PySem.W.keepIn K (.ref f6) = true)
    (a7 : PySem.W.nsIn K mainGlobals "is_giver" = some (some (.ref f7)))
    (l7 : K.lookup f7 = some ⟨oc7, od7, .func (PySem.W.fnOf "is_giver" "is_giver" (defArgs s_is_giver) (defBody s_is_giver) (defScope s_is_giver) .none kV7 dc7 pm7 an7 cd7 ct7), sl7⟩)
    (c7 : PySem.W.codeIn K cd7 "is_giver" = true)
    (k7 : PySem.W.keepIn K (.ref f7) = true)
    (a8 : PySem.W.nsIn K mainGlobals "read_worth" = some (some (.ref f8)))
    (l8 : K.lookup f8 = some ⟨oc8, od8, .func (PySem.W.fnOf "read_worth" "read_worth" (defArgs s_read_worth) (defBody s_read_worth) (defScope s_read_worth) .none kV8 dc8 pm8 an8 cd8 ct8), sl8⟩)
    (c8 : PySem.W.codeIn K cd8 "read_worth" = true)
    (k8 : PySem.W.keepIn K (.ref f8) = true)
    (a9 : PySem.W.nsIn K mainGlobals "_law_heard" = some (some (.ref f9)))
    (l9 : K.lookup f9 = some ⟨oc9, od9, .func (PySem.W.fnOf "_law_heard" "_law_heard" (defArgs s__law_heard) (defBody s__law_heard) (defScope s__law_heard) .none kV9 dc9 pm9 an9 cd9 ct9), sl9⟩)
    (c9 : PySem.W.codeIn K cd9 "_law_heard" = true)
    (k9 : PySem.W.keepIn K (.ref f9) = true)
    (a10 : PySem.W.nsIn K mainGlobals "_law_whole" = some (some (.ref f10)))
    (l10 : K.lookup f10 = some ⟨oc10, od10, .func (PySem.W.fnOf "_law_whole" "_law_whole" (defArgs s__law_whole) (defBody s__law_whole) (defScope s__law_whole) .none kV10 dc10 pm10 an10 cd10 ct10), sl10⟩)
    (c10 : PySem.W.codeIn K cd10 "_law_whole" = true)
    (k10 : PySem.W.keepIn K (.ref f10) = true)
    (a11 : PySem.W.nsIn K mainGlobals "_law_due" = some (some (.ref f11)))
    (l11 : K.lookup f11 = some ⟨oc11, od11, .func (PySem.W.fnOf "_law_due" "_law_due" (defArgs s__law_due) (defBody s__law_due) (defScope s__law_due) .none kV11 dc11 pm11 an11 cd11 ct11), sl11⟩)
    (c11 : PySem.W.codeIn K cd11 "_law_due" = true)
    (k11 : PySem.W.keepIn K (.ref f11) = true)
    (a12 : PySem.W.nsIn K mainGlobals "law" = some (some (.ref f12)))
    (l12 : K.lookup f12 = some ⟨oc12, od12, .func (PySem.W.fnOf "law" "law" (defArgs s_law) (defBody s_law) (defScope s_law) .none kV12 dc12 pm12 an12 cd12 ct12), sl12⟩)
    (c12 : PySem.W.codeIn K cd12 "law" = true)
    (k12 : PySem.W.keepIn K (.ref f12) = true)
    (z_list : PySem.W.nsIn K mainGlobals "list" = some none)
    (z_len : PySem.W.nsIn K mainGlobals "len" = some none)
    (z_abs : PySem.W.nsIn K mainGlobals "abs" = some none)
    (z_range : PySem.W.nsIn K mainGlobals "range" = some none)
    (z_int : PySem.W.nsIn K mainGlobals "int" = some none)
    (z_all : PySem.W.nsIn K mainGlobals "all" = some none)
    (z_isinstance : PySem.W.nsIn K mainGlobals "isinstance" = some none)
    (z_bool : PySem.W.nsIn K mainGlobals "bool" = some none)
    (z_str : PySem.W.nsIn K mainGlobals "str" = some none)
    (z_ValueError : PySem.W.nsIn K mainGlobals "ValueError" = some none)
    (z_repr : PySem.W.nsIn K mainGlobals "repr" = some none)
    (q_MOST_FIGURES : PySem.W.nsIn K mainGlobals "MOST_FIGURES" = some (some (.int 30 t_MOST_FIGURES)))
    (q_FIGURES : PySem.W.nsIn K mainGlobals "FIGURES" = some (some (.str "0123456789" t_FIGURES)))
    (q_NONE : PySem.W.nsIn K mainGlobals "NONE" = some (some (.ref p_NONE)))
    (u_NONE : K.lookup p_NONE = some ⟨.type "tuple", od_NONE, .seq its_NONE n_NONE, sl_NONE⟩)
    (v_NONE : flatWs [.str "none"] its_NONE.toList = true)
    (w_NONE : its_NONE.size ≤ sizeLine)
    (q_MOST_GIVERS : PySem.W.nsIn K mainGlobals "MOST_GIVERS" = some (some (.int 100 t_MOST_GIVERS)))
    (ga_NoText : PySem.W.nsIn K mainGlobals "NoText" = some (some (.ref a_NoText)))
    (ga_GiverError : PySem.W.nsIn K mainGlobals "GiverError" = some (some (.ref a_GiverError)))
    (ga_Full : PySem.W.nsIn K mainGlobals "Full" = some (some (.ref a_Full)))
    (ga_NoAsk : PySem.W.nsIn K mainGlobals "NoAsk" = some (some (.ref a_NoAsk)))
    (ga_NoBook : PySem.W.nsIn K mainGlobals "NoBook" = some (some (.ref a_NoBook)))
    (ga_NoCode : PySem.W.nsIn K mainGlobals "NoCode" = some (some (.ref a_NoCode)))
    (ga_NoGiver : PySem.W.nsIn K mainGlobals "NoGiver" = some (some (.ref a_NoGiver)))
    (ga_NoKept : PySem.W.nsIn K mainGlobals "NoKept" = some (some (.ref a_NoKept)))
    (ga_NoMost : PySem.W.nsIn K mainGlobals "NoMost" = some (some (.ref a_NoMost)))
    (ga_NoRow : PySem.W.nsIn K mainGlobals "NoRow" = some (some (.ref a_NoRow)))
    (ga_NoRule : PySem.W.nsIn K mainGlobals "NoRule" = some (some (.ref a_NoRule)))
    (ga_NoWorth : PySem.W.nsIn K mainGlobals "NoWorth" = some (some (.ref a_NoWorth)))
    (xL_NoText : K.lookup a_NoText = some (excClassObj nm_NoText qn_NoText a_NoText N_NoText bs_NoText bm_NoText true sn_NoText sb_NoText ab_NoText col_NoText dd_NoText m0_NoText m1_NoText m2_NoText m3_NoText m5_NoText "ValueError.__new__"))
    (rv_NoText : PySem.HandSPX.refsVE bm_NoText = true)
    (sa_NoText : PySem.W.findIn K (.ref a_NoText) "__setattr__" = some (some (.builtin "object.__setattr__")))
    (ga_NoText_ : PySem.W.findIn K (.ref a_NoText) "__getattribute__" = some (some (.builtin "BaseException.__getattribute__")))
    (gg_NoText : PySem.W.findIn K (.ref a_NoText) "__getattr__" = some none)
    (no_NoText : PySem.W.findIn K (.ref a_NoText) "at" = some none)
    (in_NoText : PySem.W.findIn K (.ref a_NoText) "__init__" = some (some (.ref i_NoText)))
    (ti_NoText : PySem.W.typeIn K (.ref i_NoText) = some (.type "function"))
    (li_NoText : K.lookup i_NoText = some ⟨oc_NoText, od_NoText, .func (PySem.W.fnOf "__init__" "NoText.__init__" (PySem.NtX.iA ⟨26, 17, 26, 21⟩ ⟨26, 23, 26, 25⟩) (PySem.NtX.iB ⟨27, 8, 27, 12⟩ ⟨27, 8, 27, 15⟩ ⟨27, 18, 27, 20⟩ ⟨27, 8, 27, 20⟩) PySem.NtX.iS .none .none dc_NoText pm_NoText an_NoText cd_NoText ct_NoText), sl_NoText⟩)
    (co_NoText : PySem.W.codeIn K cd_NoText "NoText.__init__" = true)
    (kC_NoText : PySem.W.keepIn K (.ref a_NoText) = true)
    (r1_NoText : PySem.W.subIn K (.ref a_NoText) (.type "BaseException") = some true)
    (r2_NoText : PySem.W.typeIn K (.ref a_NoText) = some (.type "type"))
    (hd_NoText : PySem.W.hasDictIn K a_NoText = true)
    (sf_NoText : PySem.W.subIn K (.ref a_NoText) (.ref a_NoText) = some true)
    (hc_NoText : PySem.W.findIn K (.ref a_NoText) "__class__" = some (some (.builtin "object.__class__")))
    (h_get : PySem.W.specialIn K (.builtin "object.__class__") "__get__" = some (some (.builtin "getset_descriptor.__get__")))
    (h_takes : PySem.W.takesIn K (.builtin "object.__class__") = some true)
    (hm_NoText : PySem.W.mroIn K a_NoText (.type "object") = some true)
    (r1_GiverError : PySem.W.subIn K (.ref a_GiverError) (.type "BaseException") = some true)
    (hd_GiverError : PySem.W.hasDictIn K a_GiverError = true)
    (r2_GiverError : PySem.W.typeIn K (.ref a_GiverError) = some (.type "type"))
    (s_NoText_GiverError : PySem.W.subIn K (.ref a_NoText) (.ref a_GiverError) = some true)
    (s_NoText_ValueError : PySem.W.subIn K (.ref a_NoText) (.type "ValueError") = some true)
    (hd_NoWorth : PySem.W.hasDictIn K a_NoWorth = true)
    (r2_NoWorth : PySem.W.typeIn K (.ref a_NoWorth) = some (.type "type"))
    (s_NoText_NoWorth : PySem.W.subIn K (.ref a_NoText) (.ref a_NoWorth) = some false)
    (hd_NoRule : PySem.W.hasDictIn K a_NoRule = true)
    (r2_NoRule : PySem.W.typeIn K (.ref a_NoRule) = some (.type "type"))
    (s_NoText_NoRule : PySem.W.subIn K (.ref a_NoText) (.ref a_NoRule) = some false)
    (hd_NoRow : PySem.W.hasDictIn K a_NoRow = true)
    (r2_NoRow : PySem.W.typeIn K (.ref a_NoRow) = some (.type "type"))
    (s_NoText_NoRow : PySem.W.subIn K (.ref a_NoText) (.ref a_NoRow) = some false)
    (hd_NoMost : PySem.W.hasDictIn K a_NoMost = true)
    (r2_NoMost : PySem.W.typeIn K (.ref a_NoMost) = some (.type "type"))
    (s_NoText_NoMost : PySem.W.subIn K (.ref a_NoText) (.ref a_NoMost) = some false)
    (hd_NoKept : PySem.W.hasDictIn K a_NoKept = true)
    (r2_NoKept : PySem.W.typeIn K (.ref a_NoKept) = some (.type "type"))
    (s_NoText_NoKept : PySem.W.subIn K (.ref a_NoText) (.ref a_NoKept) = some false)
    (hd_NoGiver : PySem.W.hasDictIn K a_NoGiver = true)
    (r2_NoGiver : PySem.W.typeIn K (.ref a_NoGiver) = some (.type "type"))
    (s_NoText_NoGiver : PySem.W.subIn K (.ref a_NoText) (.ref a_NoGiver) = some false)
    (hd_NoCode : PySem.W.hasDictIn K a_NoCode = true)
    (r2_NoCode : PySem.W.typeIn K (.ref a_NoCode) = some (.type "type"))
    (s_NoText_NoCode : PySem.W.subIn K (.ref a_NoText) (.ref a_NoCode) = some false)
    (hd_NoBook : PySem.W.hasDictIn K a_NoBook = true)
    (r2_NoBook : PySem.W.typeIn K (.ref a_NoBook) = some (.type "type"))
    (s_NoText_NoBook : PySem.W.subIn K (.ref a_NoText) (.ref a_NoBook) = some false)
    (hd_NoAsk : PySem.W.hasDictIn K a_NoAsk = true)
    (r2_NoAsk : PySem.W.typeIn K (.ref a_NoAsk) = some (.type "type"))
    (s_NoText_NoAsk : PySem.W.subIn K (.ref a_NoText) (.ref a_NoAsk) = some false)
    (hd_Full : PySem.W.hasDictIn K a_Full = true)
    (r2_Full : PySem.W.typeIn K (.ref a_Full) = some (.type "type"))
    (s_NoText_Full : PySem.W.subIn K (.ref a_NoText) (.ref a_Full) = some false) :
    ∃ fd : FuncData, (∀ (s : Shared) (v : Value), BindsTo s fd ⟨[v], []⟩ [("_law_script", v)]) ∧ ∀ base : Heap, K.In base → base.Ns mainGlobals mg → FnG P w K mg base 5 fa fd ["_law_script"] (spM ⟨K, mg⟩ 1 g_law) := by
  cases hfa.symm.trans (PySem.W.mg_of X G a12)
  have B_list := PySem.W.mg_none_of X G z_list
  have B_len := PySem.W.mg_none_of X G z_len
  have B_abs := PySem.W.mg_none_of X G z_abs
  have B_range := PySem.W.mg_none_of X G z_range
  have B_int := PySem.W.mg_none_of X G z_int
  have B_all := PySem.W.mg_none_of X G z_all
  have B_isinstance := PySem.W.mg_none_of X G z_isinstance
  have B_bool := PySem.W.mg_none_of X G z_bool
  have B_str := PySem.W.mg_none_of X G z_str
  have B_ValueError := PySem.W.mg_none_of X G z_ValueError
  have B_repr := PySem.W.mg_none_of X G z_repr
  have C_MOST_FIGURES : GlobOk ⟨K, mg⟩ "MOST_FIGURES" c_MOST_FIGURES := glob_int X G q_MOST_FIGURES
  have C_FIGURES : GlobOk ⟨K, mg⟩ "FIGURES" c_FIGURES := glob_str X G q_FIGURES
  have C_NONE : GlobOk ⟨K, mg⟩ "NONE" c_NONE := glob_tup X G q_NONE u_NONE v_NONE w_NONE
  have C_MOST_GIVERS : GlobOk ⟨K, mg⟩ "MOST_GIVERS" c_MOST_GIVERS := glob_int X G q_MOST_GIVERS
  have G_NoText := PySem.W.mg_of X G ga_NoText
  have G_GiverError := PySem.W.mg_of X G ga_GiverError
  have G_Full := PySem.W.mg_of X G ga_Full
  have G_NoAsk := PySem.W.mg_of X G ga_NoAsk
  have G_NoBook := PySem.W.mg_of X G ga_NoBook
  have G_NoCode := PySem.W.mg_of X G ga_NoCode
  have G_NoGiver := PySem.W.mg_of X G ga_NoGiver
  have G_NoKept := PySem.W.mg_of X G ga_NoKept
  have G_NoMost := PySem.W.mg_of X G ga_NoMost
  have G_NoRow := PySem.W.mg_of X G ga_NoRow
  have G_NoRule := PySem.W.mg_of X G ga_NoRule
  have G_NoWorth := PySem.W.mg_of X G ga_NoWorth
  have T_NoText : PySem.NtX.NtTxt K mg a_NoText i_NoText := { gC := G_NoText, cls := ⟨nm_NoText, qn_NoText, N_NoText, bs_NoText, bm_NoText, sn_NoText, sb_NoText, ab_NoText, col_NoText, dd_NoText, m0_NoText, m1_NoText, m2_NoText, m3_NoText, m5_NoText, xL_NoText, rv_NoText⟩, sa := sa_NoText, ga := ga_NoText_, gg := gg_NoText, noN := no_NoText, iC := in_NoText, tC := ti_NoText, kC := kC_NoText, exC := r1_NoText, tyC := r2_NoText, hdC := hd_NoText, te := PySem.W.exm_ref r1_NoText hd_NoText r2_NoText sf_NoText, fn := ⟨_, _, _, _, _, _, _, _, _, _, _, _, _, _, li_NoText, co_NoText⟩ }
  have E_NoText : ExcC K a_NoText := ⟨ga_NoText_, gg_NoText, r1_NoText, hd_NoText, hc_NoText, h_get, h_takes, hm_NoText⟩
  have X_GiverError_NoText := PySem.W.exm_ref r1_GiverError hd_GiverError r2_GiverError s_NoText_GiverError
  have J_NoText_NoText : PySem.W.kitOne K (.ref a_NoText) (.ref a_NoText) = some true := (kit_ref sf_NoText hd_NoText r2_NoText sf_NoText)
  have J_ValueError_NoText : PySem.W.kitOne K (.ref a_NoText) (.type "ValueError") = some true := (kit_typ s_NoText_ValueError (by decide +kernel))
  have L_Full_NoAsk_NoBook_NoCode_NoGiver_NoKept_NoMost_NoRow_NoRule_NoWorth_NoText : PySem.W.kitAny K (.ref a_NoText) ([a_Full, a_NoAsk, a_NoBook, a_NoCode, a_NoGiver, a_NoKept, a_NoMost, a_NoRow, a_NoRule, a_NoWorth].map Value.ref) = some false := (kit_no (kit_ref sf_NoText hd_Full r2_Full s_NoText_Full) (kit_no (kit_ref sf_NoText hd_NoAsk r2_NoAsk s_NoText_NoAsk) (kit_no (kit_ref sf_NoText hd_NoBook r2_NoBook s_NoText_NoBook) (kit_no (kit_ref sf_NoText hd_NoCode r2_NoCode s_NoText_NoCode) (kit_no (kit_ref sf_NoText hd_NoGiver r2_NoGiver s_NoText_NoGiver) (kit_no (kit_ref sf_NoText hd_NoKept r2_NoKept s_NoText_NoKept) (kit_no (kit_ref sf_NoText hd_NoMost r2_NoMost s_NoText_NoMost) (kit_no (kit_ref sf_NoText hd_NoRow r2_NoRow s_NoText_NoRow) (kit_no (kit_ref sf_NoText hd_NoRule r2_NoRule s_NoText_NoRule) (kit_no (kit_ref sf_NoText hd_NoWorth r2_NoWorth s_NoText_NoWorth) kit_nil))))))))))
  have A__law_pen := defAt_mk (st := s__law_pen) (ps := ["_law_script"]) X G a0 l0 c0 k0 fun _ _ _ _ _ _ us hl => match us, hl with | [_], _ => rfl
  have A__law_draw := defAt_mk (st := s__law_draw) (ps := ["_law_pen_here", "_law_many"]) X G a1 l1 c1 k1 fun _ _ _ _ _ _ us hl => match us, hl with | [_, _], _ => rfl
  have A__law_text := defAt_mk (st := s__law_text) (ps := ["_law_pen_here"]) X G a2 l2 c2 k2 fun _ _ _ _ _ _ us hl => match us, hl with | [_], _ => rfl
  have A__law_sign := defAt_mk (st := s__law_sign) (ps := ["_law_pen_here"]) X G a3 l3 c3 k3 fun _ _ _ _ _ _ us hl => match us, hl with | [_], _ => rfl
  have A__law_bent := defAt_mk (st := s__law_bent) (ps := ["_law_pen_here", "_law_text_here"]) X G a4 l4 c4 k4 fun _ _ _ _ _ _ us hl => match us, hl with | [_, _], _ => rfl
  have A_read_whole := defAt_mk (st := s_read_whole) (ps := ["text", "at"]) X G a5 l5 c5 k5 fun _ _ _ _ _ _ us hl => match us, hl with | [_, _], _ => rfl
  have A_is_whole := defAt_mk (st := s_is_whole) (ps := ["thing"]) X G a6 l6 c6 k6 fun _ _ _ _ _ _ us hl => match us, hl with | [_], _ => rfl
  have A_is_giver := defAt_mk (st := s_is_giver) (ps := ["thing", "many"]) X G a7 l7 c7 k7 fun _ _ _ _ _ _ us hl => match us, hl with | [_, _], _ => rfl
  have A_read_worth := defAt_mk (st := s_read_worth) (ps := ["text"]) X G a8 l8 c8 k8 fun _ _ _ _ _ _ us hl => match us, hl with | [_], _ => rfl
  have A__law_heard := defAt_mk (st := s__law_heard) (ps := ["_law_thing"]) X G a9 l9 c9 k9 fun _ _ _ _ _ _ us hl => match us, hl with | [_], _ => rfl
  have A__law_whole := defAt_mk (st := s__law_whole) (ps := ["_law_text_here"]) X G a10 l10 c10 k10 fun _ _ _ _ _ _ us hl => match us, hl with | [_], _ => rfl
  have A__law_due := defAt_mk (st := s__law_due) (ps := ["_law_thing"]) X G a11 l11 c11 k11 fun _ _ _ _ _ _ us hl => match us, hl with | [_], _ => rfl
  have A_law := defAt_mk (st := s_law) (ps := ["_law_script"]) X G a12 l12 c12 k12 fun _ _ _ _ _ _ us hl => match us, hl with | [_], _ => rfl
  refine ⟨PySem.W.fnOf "law" "law" (defArgs s_law) (defBody s_law) (defScope s_law) .none kV12 dc12 pm12 an12 cd12 ct12, fun s v => .of_eq rfl, fun base _ _ => ?_⟩
  have D__law_pen : DefG P w K mg base 1 "_law_pen" 1 g__law_pen := ok__law_pen (k := 0) A__law_pen B_list
  have D__law_draw : DefG P w K mg base 1 "_law_draw" 2 g__law_draw := ok__law_draw (k := 0) A__law_draw B_len B_abs
  have D__law_text : DefG P w K mg base 2 "_law_text" 1 g__law_text := ok__law_text (k := 1) A__law_text B_range (D__law_draw.mono (by decide))
  have D__law_sign : DefG P w K mg base 2 "_law_sign" 1 g__law_sign := ok__law_sign (k := 1) A__law_sign B_len (D__law_draw.mono (by decide))
  have D__law_bent : DefG P w K mg base 3 "_law_bent" 2 g__law_bent := ok__law_bent (k := 2) A__law_bent B_len (D__law_draw.mono (by decide)) (D__law_sign.mono (by decide))
  have D_read_whole : DefG P w K mg base 1 "read_whole" 2 g_read_whole := ok_read_whole (k := 0) A_read_whole B_int B_len B_all C_MOST_FIGURES C_FIGURES G_NoText T_NoText
  have D_is_whole : DefG P w K mg base 1 "is_whole" 1 g_is_whole := ok_is_whole (k := 0) A_is_whole B_isinstance B_int B_bool
  have D_is_giver : DefG P w K mg base 2 "is_giver" 2 g_is_giver := ok_is_giver (k := 1) A_is_giver (D_is_whole.mono (by decide))
  have D_read_worth : DefG P w K mg base 3 "read_worth" 1 g_read_worth := ok_read_worth (k := 2) A_read_worth B_isinstance B_str C_NONE C_MOST_GIVERS G_NoText T_NoText (D_read_whole.mono (by decide)) (D_is_giver.mono (by decide))
  have D__law_heard : DefG P w K mg base 4 "_law_heard" 1 g__law_heard := ok__law_heard (k := 3) A__law_heard B_isinstance B_ValueError B_repr G_NoText G_GiverError X_GiverError_NoText E_NoText J_NoText_NoText J_ValueError_NoText T_NoText G_Full G_NoAsk G_NoBook G_NoCode G_NoGiver G_NoKept G_NoMost G_NoRow G_NoRule G_NoWorth L_Full_NoAsk_NoBook_NoCode_NoGiver_NoKept_NoMost_NoRow_NoRule_NoWorth_NoText (D_read_worth.mono (by decide))
  have D__law_whole : DefG P w K mg base 1 "_law_whole" 1 g__law_whole := ok__law_whole (k := 0) A__law_whole B_len B_int
  have D__law_due : DefG P w K mg base 2 "_law_due" 1 g__law_due := ok__law_due (k := 1) A__law_due B_isinstance B_str (D__law_whole.mono (by decide))
  exact okX_law (k := 4) A_law B_range B_repr (D__law_pen.mono (by decide)) (D__law_text.mono (by decide)) (D__law_draw.mono (by decide)) (D__law_bent.mono (by decide)) (D__law_heard.mono (by decide)) (D__law_due.mono (by decide))
end K04

set_option Elab.async false
set_option linter.all false
set_option maxRecDepth 100000
set_option autoImplicit false
/-! M04: texts of numbers. -/
namespace K04
open PySem PySem.Spec PyProof.Rows L2 Ev BW
theorem draw_ {t : Nat} {n : Int} {m0 m : Mem} {Q : D → Mem → Prop} {XX : XQ} (p : PM t m) (c : Ch m0 m) (ht : t < 2 ^ 31) (hn : 0 < n) (hl : n.natAbs.log2 < 9000)
    (k : ∀ d m', PM (t + 1) m' → Ch m0 m' → 0 ≤ d → d < n → Q (.int d) m') : wp (g__law_draw [.ref 0, .int n] m) Q XX := w_drawC p c ht hn hl k
theorem pen_ (ns : List Int) (hn : ns.length ≤ 63) : wp (g__law_pen [.scr ns] mem0) (fun v m => v = .ref 0 ∧ PM 0 m) noX := by
  refine w_body rfl ?_
  unfold m__law_pen
  (repeat' (first | (with_reducible first | refine w_ret ?_ | refine v_c ?_ | refine v_cb ?_ | refine a_nil ?_ | refine a_cons ?_ | refine v_sl ?_ | refine o_partN ?_ | refine o_part ?_ | refine p_nil ?_ | refine p_cons ?_ | refine v_newD ?_ | refine q_listL ?_ | refine ex_part ?_) | (with_reducible refine v_vx ?_; refine ex_v rfl ?_) | ((fail_if_success (with_reducible refine i_rng ?_ ?_ ?_)); (with_reducible refine wp_ofx ?_; refine ex_o rfl ?_)) | ((with_reducible refine dictN_id ?_); (refine ex_newD (by repeat (first | exact DK.nil | apply DK.s | apply DK.i)) (by decide +kernel) (by decide) ?_)) | fail))
  exact ⟨rfl, pm_new (by exact cut_len ns 63)⟩
def pl1 : D → Bool
  | .ref _ => false
  | .dt _ _ => false
  | .scr _ => false
  | _ => true
theorem isi_no {d : D} (h : pl1 d = true) (hn : ∀ s, d ≠ .str s) {m : Mem} {Q : D → Mem → Prop} {XX : XQ} (k : Q (.bl false) m) : wp (Res.of (opIsi "str" d m) m) Q XX := by
  cases d
  case str s => exact absurd rfl (hn s)
  case ref => cases h
  case dt => cases h
  case scr => cases h
  all_goals exact k

structure Tg (d : D) : Prop where
  p : pl1 d = true
  s : ∀ s, d = .str s → St 200 s
def minus (s : Str) : Bool := decide (cutS s none (some 1) = ("-" : Str))
def fig (s : Str) : Str := bif minus s then cutS s (some 1) none else s
theorem fig_eq (s : Str) : cutS s (some (if minus s = true then 1 else 0)) none = fig s := by
  unfold fig
  cases minus s
  · exact str_ext (cutS_drop s 0)
  · rfl
def inF (c : Nat) : Bool := inS "0123456789" c
theorem inF_eq (c : Nat) : inF c = decide (48 ≤ c ∧ c ≤ 57) := by
  unfold inF inS
  rw [StrLaws.found_one (Str.ofString "0123456789") c]
  have e : (Str.ofString "0123456789").cps.toList = [48, 49, 50, 51, 52, 53, 54, 55, 56, 57] := by decide +kernel
  rw [e]
  refine decide_eq_decide.mpr ?_
  simp only [List.mem_cons, List.not_mem_nil, or_false]
  omega
def z0 (s : Str) : Bool := decide ((fig s).cps.toList.head? = some 48) && !decide (s = ("0" : Str))
def okF (s : Str) : Bool := decide (1 ≤ (fig s).length ∧ (fig s).length ≤ 30) && (fig s).cps.toList.all inF && !z0 s
def valF (s : Str) : Int := (intText? s).getD 0
theorem digits_lt : ∀ (cs : List Nat) (a : Nat), NumText.AllDigits cs → cs.foldl (fun acc c => acc * 10 + (c - 48)) a < (a + 1) * 10 ^ cs.length
  | [], a, _ => by simp
  | c :: cs, a, h => by
    have hc := h.head
    have ih := digits_lt cs (a * 10 + (c - 48)) h.tail
    rw [List.foldl_cons, List.length_cons]
    refine Nat.lt_of_lt_of_le ih ?_
    rw [Nat.pow_succ, Nat.mul_comm (10 ^ cs.length) 10, ← Nat.mul_assoc]
    exact Nat.mul_le_mul_right _ (by omega)
theorem fig_l (s : Str) : (∃ cs, minus s = true ∧ s.cps.toList = 45 :: cs ∧ (fig s).cps.toList = cs) ∨ (minus s = false ∧ fig s = s) := by
  cases hm : minus s with
  | false => exact .inr ⟨rfl, by unfold fig; rw [hm]; rfl⟩
  | true =>
    have e := congrArg (fun s : Str => s.cps.toList) (of_decide_eq_true hm)
    rw [show (some (1 : Int)) = some ((1 : Nat) : Int) from rfl, cutS_take, show (("-" : Str)).cps.toList = [45] from by decide +kernel] at e
    cases q : s.cps.toList with
    | nil => rw [q] at e; cases e
    | cons c cs =>
      rw [q] at e
      have e : c = 45 := by simpa using e
      subst e
      refine .inl ⟨cs, rfl, rfl, ?_⟩
      unfold fig
      rw [hm]
      refine (cutS_drop s 1).trans ?_
      rw [q]; rfl
theorem okF_int {s : Str} (h : okF s = true) : s.length ≤ 640 ∧ intText? s = some (valF s) ∧ (valF s).natAbs < 10 ^ 30 := by
  simp only [okF, Bool.and_eq_true, decide_eq_true_eq] at h
  obtain ⟨⟨⟨h1, h30⟩, ha⟩, _⟩ := h
  have had : NumText.AllDigits (fig s).cps.toList := fun c hc => by
    have := List.all_eq_true.mp ha c hc
    rw [inF_eq] at this
    exact of_decide_eq_true this
  have hl : (fig s).cps.toList.length = (fig s).length := by rw [Array.length_toList]; rfl
  have hne : (fig s).cps.toList ≠ [] := fun e => by rw [e] at hl; simp at hl; omega
  have lt := digits_lt (fig s).cps.toList 0 had
  have lt2 : NumText.digitsVal (fig s).cps.toList < 10 ^ 30 := by
    refine Nat.lt_of_lt_of_le lt ?_
    rw [Nat.zero_add, Nat.one_mul, hl]
    exact Nat.pow_le_pow_right (by decide) h30
  rcases fig_l s with ⟨cs, hm, e1, e2⟩ | ⟨hm, e⟩
  · have len : s.length = cs.length + 1 := by
      have : s.cps.toList.length = s.length := by rw [Array.length_toList]; rfl
      rw [← this, e1]; rfl
    have lc : cs.length ≤ 30 := by rw [← e2, hl]; exact h30
    rw [e2] at had hne lt2
    have r := intText_neg e1 had hne (by omega)
    have v : valF s = -((NumText.digitsVal cs : Nat) : Int) := by unfold valF; rw [r]; rfl
    exact ⟨by omega, by rw [v]; exact r, by rw [v, Int.natAbs_neg, Int.natAbs_natCast]; exact lt2⟩
  · rw [e] at had hne lt2 h30
    have r := intText_digits had hne (by omega)
    have v : valF s = ((NumText.digitsVal s.cps.toList : Nat) : Int) := by unfold valF; rw [r]; rfl
    exact ⟨by omega, by rw [v]; exact r, by rw [v, Int.natAbs_natCast]; exact lt2⟩
theorem one_eq {c : Nat} : decide ((⟨#[c]⟩ : Str) = ("0" : Str)) = decide (some c = some 48) := by
  refine decide_eq_decide.mpr ⟨fun e => ?_, fun e => ?_⟩
  · have z := congrArg (fun s : Str => s.cps.toList) e
    rw [show (("0" : Str)).cps.toList = [48] from by decide +kernel] at z
    cases z; rfl
  · cases e; decide +kernel
theorem str_cons {f : Str} (h : 1 ≤ f.length) : ∃ c cs, f.cps.toList = c :: cs := by
  cases q : f.cps.toList with
  | nil =>
    have : f.cps.toList.length = f.length := by rw [Array.length_toList]; rfl
    rw [q] at this
    simp at this; omega
  | cons c cs => exact ⟨c, cs, rfl⟩
theorem fig_len (s : Str) : (fig s).length ≤ s.length := by
  have a : ∀ f : Str, f.cps.toList.length = f.length := fun f => by rw [Array.length_toList]; rfl
  rcases fig_l s with ⟨cs, _, e1, e2⟩ | ⟨_, e⟩
  · rw [← a, ← a s, e1, e2]; simp
  · rw [e]; exact Nat.le_refl _
theorem read_whole_ {s : Str} (hs : s.length ≤ 1000) (m : Mem) : wp (g_read_whole [.str s, .int 0] m) (fun v m' => m' = m ∧ okF s = true ∧ v = .int (valF s)) (fun C fs m' => C = "NoText" ∧ fs = [(("at" : Str), D.int 0)] ∧ m' = m ∧ okF s = false) := by
  refine w_body rfl ?_
  unfold m_read_whole
  (repeat' (first | (with_reducible first | refine w_seq ?_ | refine w_set ?_ | refine v_c ?_ | refine v_op ?_ | refine v_cb ?_ | refine a_cons ?_ | refine v_sl ?_ | refine o_partN ?_ | refine o_part ?_ | refine ex_part ?_) | (with_reducible refine v_vx ?_; refine ex_v rfl ?_) | fail))
  refine q_slS (by rw [sizeLine_eq]; omega) ?_
  (repeat' (first | (with_reducible first | refine v_c ?_ | refine a_nil ?_ | refine o_partN ?_ | refine q_es ?_ | refine q_intB ?_ | refine ex_part ?_) | fail))
  refine q_slS (by rw [sizeLine_eq]; omega) ?_
  rw [show decide (cutS s none (some 1) = Str.ofString "-") = minus s from rfl, fig_eq]
  have fl := fig_len s
  (repeat' (first | (with_reducible first | refine w_seq ?_ | refine w_if ?_ | refine v_c ?_ | refine v_cb ?_ | refine a_nil ?_ | refine a_cons ?_ | refine v_chain ?_ | refine t_t ?_ | refine t_not ?_ | refine t_or ?_) | (with_reducible refine v_vx ?_; refine ex_v rfl ?_) | fail))
  refine q_lenS (by rw [sizeLine_eq]; omega) ?_
  refine ⟨_, rfl, ?_⟩
  by_cases h1 : (1 : Int) ≤ ((fig s).length : Nat)
  · refine pick_t (decide_eq_true h1) ?_
    (repeat' (first | (with_reducible first | refine v_c ?_ | refine ex_bl ?_) | ((fail_if_success (with_reducible refine i_rng ?_ ?_ ?_)); (with_reducible refine wp_ofx ?_; refine ex_o rfl ?_)) | fail))
    by_cases h30 : (((fig s).length : Nat) : Int) ≤ 30
    · refine pick_f (by show (!decide ((((fig s).length : Nat) : Int) ≤ 30)) = false; rw [decide_eq_true h30]; rfl) ?_
      (repeat' (first | (with_reducible first | refine v_cb ?_ | refine a_cons ?_ | refine t_t ?_ | refine t_not ?_ | refine i_iter ?_ | refine v_lc ?_ | refine q_itS ?_) | (with_reducible refine v_vx ?_; refine ex_v rfl ?_) | fail))
      refine v_mapE (xs := (fig s).cps.toList) (g := fun c => D.str ⟨#[c]⟩) (f := fun c => .bl (inF c)) ?_ ?_ ?_
      · intro c _
        refine ⟨_, rfl, yesE, ?_⟩
        (repeat' (first | (with_reducible first | refine v_c ?_ | refine v_op ?_) | (with_reducible refine v_vx ?_; refine ex_v rfl ?_) | ((fail_if_success (with_reducible refine i_rng ?_ ?_ ?_)); (with_reducible refine wp_ofx ?_; refine ex_o rfl ?_)) | fail))
        exact ⟨rfl, rfl⟩
      · rw [← str_len, sizeLine_eq]; omega
      · (repeat' (first | (with_reducible first | refine a_nil ?_) | fail))
        rw [show List.map (fun c => D.bl (inF c)) (fig s).cps.toList = ((fig s).cps.toList.map inF).map D.bl by rw [List.map_map]; rfl]
        refine q_all ?_
        rw [List.all_map, show ((fig s).cps.toList.all (id ∘ inF)) = (fig s).cps.toList.all inF from rfl]
        (repeat' (first | (with_reducible first | refine ex_bl ?_) | fail))
        cases ha : (fig s).cps.toList.all inF
        · refine pick_t rfl ?_
          refine w_raiseAt ?_
          (repeat' (first | (with_reducible refine v_vx ?_; refine ex_v rfl ?_) | fail))
          refine ⟨rfl, rfl, rfl, ?_⟩
          simp only [okF, ha, Bool.and_false, Bool.false_and]
        · refine pick_f rfl ?_
          (repeat' (first | (with_reducible first | refine w_seq ?_ | refine w_if ?_ | refine w_skip ?_ | refine v_c ?_ | refine v_op ?_ | refine t_t ?_ | refine t_and ?_) | (with_reducible refine v_vx ?_; refine ex_v rfl ?_) | fail))
          obtain ⟨c, cs, e⟩ := str_cons (f := fig s) (by omega)
          refine q_ixS (j := 0) (c := c) (by rw [sizeLine_eq]; omega) (by rw [e]; rfl) ?_
          (repeat' (first | (with_reducible first | refine v_c ?_ | refine ex_bl ?_ | refine q_es ?_) | fail))
          have hz : z0 s = (decide ((⟨#[c]⟩ : Str) = ("0" : Str)) && !decide (s = ("0" : Str))) := by
            unfold z0
            rw [e, one_eq]; rfl
          have hok : okF s = !z0 s := by
            simp only [okF, ha, Bool.and_true]
            rw [decide_eq_true (by omega), Bool.true_and]
          by_cases h48 : (⟨#[c]⟩ : Str) = "0"
          · refine pick_t (decide_eq_true h48) ?_
            (repeat' (first | (with_reducible first | refine v_c ?_ | refine v_op ?_ | refine t_t ?_ | refine ex_bl ?_ | refine q_ns ?_) | (with_reducible refine v_vx ?_; refine ex_v rfl ?_) | fail))
            by_cases h0 : s = ("0" : Str)
            · refine pick_f (by rw [decide_eq_true h0]; rfl) ?_
              (repeat' (first | (with_reducible first | refine w_ret ?_ | refine w_skip ?_ | refine v_cb ?_ | refine a_nil ?_ | refine a_cons ?_) | (with_reducible refine v_vx ?_; refine ex_v rfl ?_) | fail))
              have k : okF s = true := by rw [hok, hz, decide_eq_true h48, decide_eq_true h0]; rfl
              obtain ⟨k1, k2, k3⟩ := okF_int k
              exact q_intS k2 k1 ⟨rfl, k, rfl⟩
            · refine pick_t (by rw [decide_eq_false h0]; rfl) ?_
              refine w_raiseAt ?_
              (repeat' (first | (with_reducible refine v_vx ?_; refine ex_v rfl ?_) | fail))
              exact ⟨rfl, rfl, rfl, by rw [hok, hz, decide_eq_true h48, decide_eq_false h0]; rfl⟩
          · refine pick_f (decide_eq_false h48) ?_
            refine pick_f rfl ?_
            (repeat' (first | (with_reducible first | refine w_ret ?_ | refine w_skip ?_ | refine v_cb ?_ | refine a_nil ?_ | refine a_cons ?_) | (with_reducible refine v_vx ?_; refine ex_v rfl ?_) | fail))
            have k : okF s = true := by rw [hok, hz, decide_eq_false h48]; rfl
            obtain ⟨k1, k2, k3⟩ := okF_int k
            exact q_intS k2 k1 ⟨rfl, k, rfl⟩
    · refine pick_t (by show (!decide ((((fig s).length : Nat) : Int) ≤ 30)) = true; rw [decide_eq_false h30]; rfl) ?_
      refine pick_t rfl ?_
      refine w_raiseAt ?_
      (repeat' (first | (with_reducible refine v_vx ?_; refine ex_v rfl ?_) | fail))
      refine ⟨rfl, rfl, rfl, ?_⟩
      unfold okF
      rw [decide_eq_false (by omega)]; rfl
  · refine pick_f (decide_eq_false h1) ?_
    refine ex_bl ?_
    refine pick_t rfl ?_
    refine pick_t rfl ?_
    refine w_raiseAt ?_
    (repeat' (first | (with_reducible refine v_vx ?_; refine ex_v rfl ?_) | fail))
    refine ⟨rfl, rfl, rfl, ?_⟩
    unfold okF
    rw [decide_eq_false (by omega)]; rfl
end K04

set_option Elab.async false
set_option linter.all false
set_option maxRecDepth 100000
set_option autoImplicit false
/-! M04b: texts of worths. -/
namespace K04
open PySem PySem.Spec PyProof.Rows L2 Ev BW
theorem plDs_all : ∀ {ds : List D}, (∀ d ∈ ds, Ev.plD d = true) → plDs ds = true
  | [], _ => rfl
  | d :: ds, h => by simp only [plDs, Bool.and_eq_true]; exact ⟨h d (List.mem_cons_self ..), plDs_all fun x hx => h x (List.mem_cons_of_mem _ hx)⟩
theorem dpDs_all {k : Nat} : ∀ {ds : List D}, (∀ d ∈ ds, dpD d ≤ k) → dpDs ds ≤ k
  | [], _ => Nat.zero_le _
  | d :: ds, h => by
    have := h d (List.mem_cons_self ..)
    have := dpDs_all (k := k) (ds := ds) fun x hx => h x (List.mem_cons_of_mem _ hx)
    simp only [dpDs]; omega
theorem empty_iff {f : Str} : decide (f = ("" : Str)) = decide (f.length = 0) := by
  have e : (("" : Str)).cps.toList = [] := by decide +kernel
  refine decide_eq_decide.mpr ⟨fun h => by rw [h]; decide +kernel, fun h => str_ext ?_⟩
  rw [e]
  have : f.cps.toList.length = f.length := by rw [Array.length_toList]; rfl
  exact List.length_eq_zero_iff.mp (by omega)
theorem okF_zero {s : Str} (h : (fig s).length = 0) : okF s = false := by
  unfold okF
  rw [decide_eq_false (by omega)]; rfl
theorem lwhole_ {s : Str} (hs : St 300 s) (m : Mem) : wp (g__law_whole [.str s] m) (fun v m' => m' = m ∧ v = .lst (bif okF s then [.int (valF s)] else [])) noX := by
  have hsl := hs.len
  have fl := fig_len s
  refine w_body rfl ?_
  unfold m__law_whole
  refine w_seq (w_set (v_v rfl ?_))
  refine w_seqI (fun s2 m2 => m2 = m ∧ s2 = [some (.str s), some (.str (fig s)), none]) ?_ ?_
  · (repeat' (first | (with_reducible first | refine w_if ?_ | refine v_c ?_ | refine v_op ?_ | refine v_sl ?_ | refine o_partN ?_ | refine o_part ?_ | refine t_t ?_ | refine ex_part ?_) | (with_reducible refine v_vx ?_; refine ex_v rfl ?_) | fail))
    refine q_slS (by rw [sizeLine_eq]; omega) ?_
    (repeat' (first | (with_reducible first | refine v_c ?_ | refine ex_bl ?_ | refine q_es ?_) | fail))
    rw [show decide (cutS s none (some 1) = Str.ofString "-") = minus s from rfl]
    unfold fig
    cases hm : minus s
    · refine pick_f rfl ?_
      (repeat' (first | (with_reducible first | refine w_skip ?_) | fail))
      exact ⟨rfl, rfl⟩
    · refine pick_t rfl ?_
      (repeat' (first | (with_reducible first | refine w_set ?_ | refine v_c ?_ | refine v_sl ?_ | refine o_partN ?_ | refine o_part ?_ | refine ex_part ?_) | (with_reducible refine v_vx ?_; refine ex_v rfl ?_) | fail))
      refine q_slS (by rw [sizeLine_eq]; omega) ?_
      exact ⟨rfl, rfl⟩
  rintro _ m ⟨rfl, rfl⟩
  have hok : PyData.strOk (fig s) = true := by
    unfold fig
    cases minus s
    · exact hs.ok
    · exact (hs.cut _ _).ok
  (repeat' (first | (with_reducible first | refine w_seq ?_ | refine w_if ?_ | refine v_c ?_ | refine v_op ?_ | refine t_t ?_ | refine t_or ?_ | refine ex_bl ?_ | refine q_es ?_) | (with_reducible refine v_vx ?_; refine ex_v rfl ?_) | fail))
  rw [empty_iff]
  refine pick_d (fun h0 => ?_) (fun h0 => ?_)
  · refine pick_t rfl ?_
    (repeat' (first | (with_reducible first | refine w_ret ?_ | refine a_nil ?_ | refine v_lst ?_) | (with_reducible refine len_ok (by simp [sizeLine_eq]) ?_) | fail))
    refine ⟨rfl, ?_⟩
    rw [okF_zero h0]; rfl
  (repeat' (first | (with_reducible first | refine v_op ?_ | refine v_cb ?_ | refine a_nil ?_ | refine a_cons ?_ | refine t_t ?_ | refine t_or ?_) | (with_reducible refine v_vx ?_; refine ex_v rfl ?_) | fail))
  refine q_lenS (by rw [sizeLine_eq]; omega) ?_
  (repeat' (first | (with_reducible first | refine v_c ?_ | refine ex_bl ?_ | refine q_gt ?_) | fail))
  refine pick_d (fun h30 => ?_) (fun h30 => ?_)
  · refine pick_t rfl ?_
    (repeat' (first | (with_reducible first | refine w_ret ?_ | refine a_nil ?_ | refine v_lst ?_) | (with_reducible refine len_ok (by simp [sizeLine_eq]) ?_) | fail))
    refine ⟨rfl, ?_⟩
    have : okF s = false := by
      unfold okF
      rw [decide_eq_false (by omega)]; rfl
    rw [this]; rfl
  (repeat' (first | (with_reducible first | refine v_op ?_ | refine t_t ?_ | refine i_iter ?_ | refine v_lc ?_ | refine q_itS ?_) | (with_reducible refine v_vx ?_; refine ex_v rfl ?_) | fail))
  refine v_loopC (I := fun ds acc m2 => m2 = m ∧ ∃ cs ts : List Nat, (fig s).cps.toList = cs ++ ts ∧ ds = ts.map (fun c => D.str ⟨#[c]⟩) ∧ acc = (cs.filter fun c => !inF c).map fun c => D.str ⟨#[c]⟩) ?_ ?_ ?_
  · exact ⟨rfl, [], (fig s).cps.toList, rfl, rfl, rfl⟩
  · rintro acc m2 ⟨rfl, cs, ts, e1, e2, rfl⟩
    have e3 : ts = [] := List.map_eq_nil_iff.mp e2.symm
    subst e3
    rw [List.append_nil] at e1
    (repeat' (first | (with_reducible first | refine a_nil ?_ | refine v_lst ?_) | (with_reducible refine len_ok (by simp [sizeLine_eq]) ?_) | fail))
    have hpl : Pl (D.lst ((cs.filter fun c => !inF c).map fun c => D.str ⟨#[c]⟩)) := by
      refine ⟨?_, ?_⟩
      · simp only [Ev.plD]
        refine plDs_all fun d hd => ?_
        obtain ⟨c, hc, rfl⟩ := List.mem_map.mp hd
        have hm : c ∈ (fig s).cps.toList := by rw [e1]; exact (List.mem_filter.mp hc).1
        unfold PyData.strOk at hok
        rw [← Array.all_toList, List.all_eq_true] at hok
        have := hok c hm
        simp only [Ev.plD]
        unfold PyData.strOk
        simpa using this
      · simp only [dpD]
        have : dpDs ((cs.filter fun c => !inF c).map fun c => D.str ⟨#[c]⟩) ≤ 0 := dpDs_all fun d hd => by
          obtain ⟨c, hc, rfl⟩ := List.mem_map.mp hd
          exact Nat.le_refl _
        omega
    refine q_ne hpl ⟨by decide, by decide⟩ ?_
    refine ex_bl ?_
    cases hf : cs.filter fun c => !inF c with
    | cons c r =>
      refine pick_t (by simp [deq, deqs]) ?_
      (repeat' (first | (with_reducible first | refine w_ret ?_ | refine a_nil ?_ | refine v_lst ?_) | (with_reducible refine len_ok (by simp [sizeLine_eq]) ?_) | fail))
      refine ⟨rfl, ?_⟩
      have hm : c ∈ cs.filter fun c => !inF c := by rw [hf]; exact List.mem_cons_self ..
      obtain ⟨a1, a2⟩ := List.mem_filter.mp hm
      have : cs.all inF = false := by
        cases q : cs.all inF with
        | false => rfl
        | true => rw [List.all_eq_true] at q; rw [q c a1] at a2; cases a2
      have : okF s = false := by simp only [okF, e1, this, Bool.and_false, Bool.false_and]
      rw [this]; rfl
    | nil =>
      rw [List.filter_eq_nil_iff] at hf
      have hall : (fig s).cps.toList.all inF = true := by rw [e1]; exact List.all_eq_true.mpr fun c hc => by simpa using hf c hc
      refine pick_f (by decide) ?_
      (repeat' (first | (with_reducible first | refine w_seq ?_ | refine w_if ?_ | refine w_skip ?_ | refine v_c ?_ | refine v_op ?_ | refine t_t ?_ | refine t_and ?_) | (with_reducible refine v_vx ?_; refine ex_v rfl ?_) | fail))
      obtain ⟨c, cs', e⟩ := str_cons (f := fig s) (by omega)
      refine q_ixS (j := 0) (c := c) (by rw [sizeLine_eq]; omega) (by rw [e]; rfl) ?_
      (repeat' (first | (with_reducible first | refine v_c ?_ | refine ex_bl ?_ | refine q_es ?_) | fail))
      have hz : z0 s = (decide ((⟨#[c]⟩ : Str) = ("0" : Str)) && !decide (s = ("0" : Str))) := by
        unfold z0
        rw [e, one_eq]; rfl
      have hok : okF s = !z0 s := by
        simp only [okF, hall, Bool.and_true]
        rw [decide_eq_true (by omega), Bool.true_and]
      by_cases h48 : (⟨#[c]⟩ : Str) = "0"
      · refine pick_t (decide_eq_true h48) ?_
        (repeat' (first | (with_reducible first | refine v_c ?_ | refine v_op ?_ | refine t_t ?_ | refine ex_bl ?_ | refine q_ns ?_) | (with_reducible refine v_vx ?_; refine ex_v rfl ?_) | fail))
        by_cases h0 : s = ("0" : Str)
        · refine pick_f (by rw [decide_eq_true h0]; rfl) ?_
          (repeat' (first | (with_reducible first | refine w_ret ?_ | refine w_skip ?_ | refine v_cb ?_ | refine a_nil ?_ | refine a_cons ?_ | refine v_lst ?_) | (with_reducible refine v_vx ?_; refine ex_v rfl ?_) | fail))
          have k : okF s = true := by rw [hok, hz, decide_eq_true h48, decide_eq_true h0]; rfl
          obtain ⟨k1, k2, k3⟩ := okF_int k
          refine q_intS k2 k1 ?_
          (repeat' (first | (with_reducible first | refine a_nil ?_) | (with_reducible refine len_ok (by simp [sizeLine_eq]) ?_) | fail))
          exact ⟨rfl, by rw [k]; rfl⟩
        · refine pick_t (by rw [decide_eq_false h0]; rfl) ?_
          (repeat' (first | (with_reducible first | refine w_ret ?_ | refine a_nil ?_ | refine v_lst ?_) | (with_reducible refine len_ok (by simp [sizeLine_eq]) ?_) | fail))
          have k : okF s = false := by rw [hok, hz, decide_eq_true h48, decide_eq_false h0]; rfl
          exact ⟨rfl, by rw [k]; rfl⟩
      · refine pick_f (decide_eq_false h48) ?_
        refine pick_f rfl ?_
        (repeat' (first | (with_reducible first | refine w_ret ?_ | refine w_skip ?_ | refine v_cb ?_ | refine a_nil ?_ | refine a_cons ?_ | refine v_lst ?_) | (with_reducible refine v_vx ?_; refine ex_v rfl ?_) | fail))
        have k : okF s = true := by rw [hok, hz, decide_eq_false h48]; rfl
        obtain ⟨k1, k2, k3⟩ := okF_int k
        refine q_intS k2 k1 ?_
        (repeat' (first | (with_reducible first | refine a_nil ?_) | (with_reducible refine len_ok (by simp [sizeLine_eq]) ?_) | fail))
        exact ⟨rfl, by rw [k]; rfl⟩
  · rintro d ds acc m2 ⟨rfl, cs, ts, e1, e2, rfl⟩
    cases ts with
    | nil => cases e2
    | cons c ts =>
      obtain ⟨rfl, rfl⟩ := List.cons.inj e2
      refine ⟨_, rfl, ?_⟩
      (repeat' (first | (with_reducible first | refine v_c ?_ | refine v_op ?_ | refine t_t ?_ | refine ex_bl ?_) | (with_reducible refine v_vx ?_; refine ex_v rfl ?_) | ((fail_if_success (with_reducible refine i_rng ?_ ?_ ?_)); (with_reducible refine wp_ofx ?_; refine ex_o rfl ?_)) | fail))
      have hll := congrArg List.length e1
      rw [List.length_append, List.length_cons, ← str_len] at hll
      have hfl := List.length_filter_le (fun c => !inF c) cs
      show pick (!inF c) _ _
      cases hc : inF c
      · refine pick_t rfl ?_
        (repeat' (first | (with_reducible refine v_vx ?_; refine ex_v rfl ?_) | fail))
        refine ⟨by rw [List.length_map, sizeLine_eq]; omega, rfl, cs ++ [c], ts, by rw [e1]; simp, rfl, ?_⟩
        rw [List.filter_append, List.map_append]
        simp [hc]
      · refine pick_f rfl ?_
        refine ⟨rfl, cs ++ [c], ts, by rw [e1]; simp, rfl, ?_⟩
        rw [List.filter_append]
        simp [hc]
/-- what is read of a text -/
def readS (s : Str) : Option D :=
  if s = ("none" : Str) then some (.tup [.str "none"])
  else if cutS s none (some 1) = ("#" : Str) then
    (if okF (cutS s (some 1) none) = true ∧ 0 ≤ valF (cutS s (some 1) none) ∧ valF (cutS s (some 1) none) < 100 then some (.tup [.str "giver", .int (valF (cutS s (some 1) none))]) else none)
  else (if okF s = true then some (.tup [.str "number", .int (valF s)]) else none)
def readD : D → Option D
  | .str s => readS s
  | _ => none
theorem giver_ (i : Int) (m : Mem) : wp (g_is_giver [.int i, c_MOST_GIVERS] m) (fun v m' => m' = m ∧ v = .bl (decide (0 ≤ i ∧ i < 100))) noX := by
  refine w_body rfl ?_
  unfold m_is_giver
  (repeat' (first | (with_reducible first | refine w_ret ?_ | refine v_call ?_ | refine a_nil ?_ | refine a_cons ?_ | refine v_and ?_) | (with_reducible refine v_vx ?_; refine ex_v rfl ?_) | fail))
  refine wp_imp (Q' := fun v m' => m' = m ∧ v = .bl true) ?_ ?_
  · refine w_body rfl ?_
    unfold m_is_whole
    (repeat' (first | (with_reducible first | refine w_ret ?_ | refine v_o1 ?_ | refine v_and ?_ | refine ex_bl ?_) | (with_reducible refine v_vx ?_; refine ex_v rfl ?_) | ((fail_if_success (with_reducible refine i_rng ?_ ?_ ?_)); (with_reducible refine wp_ofx ?_; refine ex_o rfl ?_)) | fail))
    refine pick_t rfl ?_
    (repeat' (first | (with_reducible first | refine v_o1 ?_ | refine q_not ?_) | (with_reducible refine v_vx ?_; refine ex_v rfl ?_) | ((fail_if_success (with_reducible refine i_rng ?_ ?_ ?_)); (with_reducible refine wp_ofx ?_; refine ex_o rfl ?_)) | fail))
    exact ⟨rfl, rfl⟩
  rintro _ m ⟨rfl, rfl⟩
  (repeat' (first | (with_reducible first | refine ex_bl ?_) | fail))
  refine pick_t rfl ?_
  (repeat' (first | (with_reducible first | refine v_c ?_ | refine v_chain ?_) | (with_reducible refine v_vx ?_; refine ex_v rfl ?_) | fail))
  refine ⟨_, rfl, ?_⟩
  by_cases h0 : 0 ≤ i
  · refine pick_t (decide_eq_true h0) ?_
    (repeat' (first | (with_reducible refine v_vx ?_; refine ex_v rfl ?_) | ((fail_if_success (with_reducible refine i_rng ?_ ?_ ?_)); (with_reducible refine wp_ofx ?_; refine ex_o rfl ?_)) | fail))
    refine ⟨rfl, ?_⟩
    show D.bl (decide (i < 100)) = _
    by_cases h1 : i < 100
    · rw [decide_eq_true h1, decide_eq_true ⟨h0, h1⟩]
    · rw [decide_eq_false h1, decide_eq_false (by omega)]
  · refine pick_f (decide_eq_false h0) ?_
    exact ⟨rfl, by rw [decide_eq_false (by omega)]⟩
theorem read_ {d : D} (h : Tg d) (m : Mem) : wp (g_read_worth [d] m) (fun v m' => m' = m ∧ readD d = some v) (fun C fs m' => C = "NoText" ∧ fs = [(("at" : Str), D.int 0)] ∧ m' = m ∧ readD d = none) := by
  refine w_body rfl ?_
  unfold m_read_worth
  by_cases hd : ∃ s, d = .str s
  · obtain ⟨s, rfl⟩ := hd
    have hs := h.s s rfl
    have hsl := hs.len
    have hc := hs.cut (some 1) none
    have hcl := hc.len
    (repeat' (first | (with_reducible first | refine w_seq ?_ | refine w_if ?_ | refine w_skip ?_ | refine v_c ?_ | refine v_op ?_ | refine v_o1 ?_ | refine t_t ?_ | refine t_not ?_ | refine ex_bl ?_ | refine q_es ?_) | (with_reducible refine v_vx ?_; refine ex_v rfl ?_) | ((fail_if_success (with_reducible refine i_rng ?_ ?_ ?_)); (with_reducible refine wp_ofx ?_; refine ex_o rfl ?_)) | (with_reducible refine pick_f (by decide +kernel) ?_) | fail))
    by_cases h1 : s = ("none" : Str)
    · refine pick_t (decide_eq_true h1) ?_
      (repeat' (first | (with_reducible first | refine w_ret ?_ | refine v_c ?_) | fail))
      refine ⟨rfl, ?_⟩
      show readS s = _
      unfold readS
      rw [if_pos h1]; rfl
    refine pick_f (decide_eq_false h1) ?_
    (repeat' (first | (with_reducible first | refine w_seq ?_ | refine w_if ?_ | refine w_skip ?_ | refine v_c ?_ | refine v_op ?_ | refine v_sl ?_ | refine o_partN ?_ | refine o_part ?_ | refine t_t ?_ | refine ex_part ?_) | (with_reducible refine v_vx ?_; refine ex_v rfl ?_) | fail))
    refine q_slS (by rw [sizeLine_eq]; omega) ?_
    (repeat' (first | (with_reducible first | refine v_c ?_ | refine ex_bl ?_ | refine q_ns ?_) | fail))
    by_cases h2 : cutS s none (some 1) = ("#" : Str)
    · refine pick_f (by rw [decide_eq_true h2]; rfl) ?_
      (repeat' (first | (with_reducible first | refine w_seq ?_ | refine w_set ?_ | refine w_skip ?_ | refine v_c ?_ | refine v_call ?_ | refine a_cons ?_ | refine v_sl ?_ | refine o_partN ?_ | refine o_part ?_ | refine ex_part ?_) | (with_reducible refine v_vx ?_; refine ex_v rfl ?_) | fail))
      refine q_slS (by rw [sizeLine_eq]; omega) ?_
      (repeat' (first | (with_reducible first | refine v_c ?_ | refine a_nil ?_ | refine a_cons ?_) | fail))
      refine wp_mono (read_whole_ (by omega) m) ?_ ?_
      · rintro _ m1 ⟨rfl, k, rfl⟩
        (repeat' (first | (with_reducible first | refine w_seq ?_ | refine w_if ?_ | refine v_c ?_ | refine v_call ?_ | refine a_nil ?_ | refine a_cons ?_ | refine t_t ?_ | refine t_not ?_) | (with_reducible refine v_vx ?_; refine ex_v rfl ?_) | fail))
        refine wp_imp (giver_ _ _) ?_
        rintro _ m1 ⟨rfl, rfl⟩
        (repeat' (first | (with_reducible first | refine ex_bl ?_) | fail))
        by_cases hg : 0 ≤ valF (cutS s (some 1) none) ∧ valF (cutS s (some 1) none) < 100
        · refine pick_f (by rw [decide_eq_true hg]; rfl) ?_
          (repeat' (first | (with_reducible first | refine w_ret ?_ | refine w_skip ?_ | refine v_c ?_ | refine a_nil ?_ | refine a_cons ?_ | refine v_tup ?_) | (with_reducible refine v_vx ?_; refine ex_v rfl ?_) | (with_reducible refine len_ok (by simp [sizeLine_eq]) ?_) | fail))
          refine ⟨rfl, ?_⟩
          show readS s = _
          unfold readS
          rw [if_neg h1, if_pos h2, if_pos ⟨k, hg⟩]
        · refine pick_t (by rw [decide_eq_false hg]; rfl) ?_
          refine w_raiseAt ?_
          (repeat' (first | (with_reducible first | refine v_c ?_) | fail))
          refine ⟨rfl, rfl, rfl, ?_⟩
          show readS s = _
          unfold readS
          rw [if_neg h1, if_pos h2, if_neg fun z => hg z.2]
      · rintro C fs m1 ⟨rfl, rfl, rfl, k⟩
        refine ⟨rfl, rfl, rfl, ?_⟩
        show readS s = _
        unfold readS
        rw [if_neg h1, if_pos h2, if_neg (by rw [k]; simp)]
    · refine pick_t (by rw [decide_eq_false h2]; rfl) ?_
      (repeat' (first | (with_reducible first | refine w_ret ?_ | refine v_c ?_ | refine v_call ?_ | refine a_nil ?_ | refine a_cons ?_ | refine v_tup ?_) | (with_reducible refine v_vx ?_; refine ex_v rfl ?_) | fail))
      refine wp_mono (read_whole_ (by omega) m) ?_ ?_
      · rintro _ m1 ⟨rfl, k, rfl⟩
        (repeat' (first | (with_reducible first | refine a_nil ?_) | (with_reducible refine len_ok (by simp [sizeLine_eq]) ?_) | fail))
        refine ⟨rfl, ?_⟩
        show readS s = _
        unfold readS
        rw [if_neg h1, if_neg h2, if_pos k]
      · rintro C fs m1 ⟨rfl, rfl, rfl, k⟩
        refine ⟨rfl, rfl, rfl, ?_⟩
        show readS s = _
        unfold readS
        rw [if_neg h1, if_neg h2, if_neg (by rw [k]; simp)]
  · have hn : ∀ s, d ≠ .str s := fun s e => hd ⟨s, e⟩
    (repeat' (first | (with_reducible first | refine w_seq ?_ | refine w_if ?_ | refine v_o1 ?_ | refine t_t ?_ | refine t_not ?_) | (with_reducible refine v_vx ?_; refine ex_v rfl ?_) | fail))
    refine isi_no h.p hn ?_
    refine ex_bl ?_
    refine pick_t rfl ?_
    refine w_raiseAt ?_
    (repeat' (first | (with_reducible first | refine v_c ?_) | fail))
    refine ⟨rfl, rfl, rfl, ?_⟩
    cases d <;> first | rfl | exact absurd rfl (hn _)
end K04

set_option Elab.async false
set_option linter.all false
set_option maxRecDepth 100000
set_option autoImplicit false
/-! M04c: what is heard and due; the texts drawn. -/
namespace K04
open PySem PySem.Spec PyProof.Rows L2 Ev BW
theorem due_ {d : D} (h : Tg d) (m : Mem) : wp (g__law_due [d] m) (fun v m' => m' = m ∧ v = .lst (readD d).toList) noX := by
  refine w_body rfl ?_
  unfold m__law_due
  by_cases hd : ∃ s, d = .str s
  · obtain ⟨s, rfl⟩ := hd
    have hs := h.s s rfl
    have hsl := hs.len
    have hc := hs.cut (some 1) none
    have hcl := hc.len
    show Ev.ws _ _ (fun v m' => m' = m ∧ v = .lst (readS s).toList) _ _ _
    unfold readS
    (repeat' (first | (with_reducible first | refine w_seq ?_ | refine w_if ?_ | refine w_skip ?_ | refine v_c ?_ | refine v_op ?_ | refine v_o1 ?_ | refine t_t ?_ | refine t_not ?_ | refine ex_bl ?_ | refine q_es ?_) | (with_reducible refine v_vx ?_; refine ex_v rfl ?_) | ((fail_if_success (with_reducible refine i_rng ?_ ?_ ?_)); (with_reducible refine wp_ofx ?_; refine ex_o rfl ?_)) | (with_reducible refine pick_f (by decide +kernel) ?_) | fail))
    by_cases h1 : s = ("none" : Str)
    · refine pick_t (decide_eq_true h1) ?_
      (repeat' (first | (with_reducible first | refine w_ret ?_ | refine v_c ?_ | refine a_nil ?_ | refine a_cons ?_ | refine v_tup ?_ | refine v_lst ?_) | (with_reducible refine len_ok (by simp [sizeLine_eq]) ?_) | fail))
      rw [if_pos h1]
      exact ⟨rfl, rfl⟩
    refine pick_f (decide_eq_false h1) ?_
    rw [if_neg h1]
    (repeat' (first | (with_reducible first | refine w_seq ?_ | refine w_if ?_ | refine w_skip ?_ | refine v_c ?_ | refine v_op ?_ | refine v_sl ?_ | refine o_partN ?_ | refine o_part ?_ | refine t_t ?_ | refine ex_part ?_) | (with_reducible refine v_vx ?_; refine ex_v rfl ?_) | fail))
    refine q_slS (by rw [sizeLine_eq]; omega) ?_
    (repeat' (first | (with_reducible first | refine v_c ?_ | refine ex_bl ?_ | refine q_ns ?_) | fail))
    by_cases h2 : cutS s none (some 1) = ("#" : Str)
    · refine pick_f (by rw [decide_eq_true h2]; rfl) ?_
      rw [if_pos h2]
      (repeat' (first | (with_reducible first | refine w_ret ?_ | refine w_skip ?_ | refine v_c ?_ | refine v_call ?_ | refine a_cons ?_ | refine v_sl ?_ | refine o_partN ?_ | refine o_part ?_ | refine i_iter ?_ | refine v_lc ?_ | refine ex_part ?_) | (with_reducible refine v_vx ?_; refine ex_v rfl ?_) | fail))
      refine q_slS (by rw [sizeLine_eq]; omega) ?_
      (repeat' (first | (with_reducible first | refine a_nil ?_) | fail))
      refine wp_imp (lwhole_ (hc.mono (by omega)) m) ?_
      rintro _ m1 ⟨rfl, rfl⟩
      cases k : okF (cutS s (some 1) none)
      · simp only [cond_false]
        (repeat' (first | (with_reducible first | refine q_itL ?_) | fail))
        refine v_loopC (I := fun ds acc m2 => m2 = m1 ∧ ds = [] ∧ acc = []) ⟨rfl, rfl, rfl⟩ ?_ ?_
        · rintro acc m2 ⟨rfl, _, rfl⟩
          refine ⟨rfl, ?_⟩
          rw [if_neg (by simp)]; rfl
        · rintro d ds acc m2 ⟨_, z, _⟩
          cases z
      · simp only [cond_true]
        (repeat' (first | (with_reducible first | refine q_itL ?_) | fail))
        refine v_loopC (I := fun ds acc m2 => m2 = m1 ∧ ((ds = [D.int (valF (cutS s (some 1) none))] ∧ acc = []) ∨ (ds = [] ∧ acc = (if 0 ≤ valF (cutS s (some 1) none) ∧ valF (cutS s (some 1) none) < 100 then [D.tup [.str "giver", .int (valF (cutS s (some 1) none))]] else [])))) ⟨rfl, .inl ⟨rfl, rfl⟩⟩ ?_ ?_
        · rintro acc m2 ⟨rfl, h⟩
          rcases h with ⟨z, _⟩ | ⟨_, rfl⟩
          · cases z
          · refine ⟨rfl, ?_⟩
            by_cases hg : 0 ≤ valF (cutS s (some 1) none) ∧ valF (cutS s (some 1) none) < 100
            · rw [if_pos hg, if_pos ⟨trivial, hg⟩]; rfl
            · rw [if_neg hg, if_neg fun z => hg z.2]; rfl
        · rintro d ds acc m2 ⟨rfl, h⟩
          rcases h with ⟨z, rfl⟩ | ⟨z, _⟩
          · obtain ⟨rfl, rfl⟩ := List.cons.inj z
            refine ⟨_, rfl, ?_⟩
            (repeat' (first | (with_reducible first | refine v_c ?_ | refine v_chain ?_ | refine t_t ?_) | (with_reducible refine v_vx ?_; refine ex_v rfl ?_) | fail))
            refine ⟨_, rfl, ?_⟩
            by_cases h0 : 0 ≤ valF (cutS s (some 1) none)
            · refine pick_t (decide_eq_true h0) ?_
              (repeat' (first | (with_reducible first | refine v_c ?_ | refine ex_bl ?_ | refine q_le ?_) | fail))
              refine pick_d (fun h9 => ?_) (fun h9 => ?_)
              · (repeat' (first | (with_reducible first | refine v_c ?_ | refine a_nil ?_ | refine a_cons ?_ | refine v_tup ?_) | (with_reducible refine v_vx ?_; refine ex_v rfl ?_) | (with_reducible refine len_ok (by simp [sizeLine_eq]) ?_) | fail))
                exact ⟨by decide +kernel, rfl, .inr ⟨rfl, by rw [if_pos ⟨h0, by omega⟩]; rfl⟩⟩
              · exact ⟨rfl, .inr ⟨rfl, by rw [if_neg fun z => by omega]⟩⟩
            · refine pick_f (decide_eq_false h0) ?_
              refine ex_bl ?_
              refine pick_f rfl ?_
              exact ⟨rfl, .inr ⟨rfl, by rw [if_neg fun z => h0 z.1]⟩⟩
          · cases z
    · refine pick_t (by rw [decide_eq_false h2]; rfl) ?_
      rw [if_neg h2]
      (repeat' (first | (with_reducible first | refine w_ret ?_ | refine v_call ?_ | refine a_nil ?_ | refine a_cons ?_ | refine i_iter ?_ | refine v_lc ?_) | (with_reducible refine v_vx ?_; refine ex_v rfl ?_) | fail))
      refine wp_imp (lwhole_ (hs.mono (by omega)) m) ?_
      rintro _ m1 ⟨rfl, rfl⟩
      cases k : okF s
      · simp only [cond_false]
        (repeat' (first | (with_reducible first | refine q_itL ?_) | fail))
        refine v_loopC (I := fun ds acc m2 => m2 = m1 ∧ ds = [] ∧ acc = []) ⟨rfl, rfl, rfl⟩ ?_ ?_
        · rintro acc m2 ⟨rfl, _, rfl⟩
          refine ⟨rfl, ?_⟩
          rw [if_neg (by simp)]; rfl
        · rintro d ds acc m2 ⟨_, z, _⟩
          cases z
      · simp only [cond_true]
        (repeat' (first | (with_reducible first | refine q_itL ?_) | fail))
        refine v_loopC (I := fun ds acc m2 => m2 = m1 ∧ ((ds = [D.int (valF s)] ∧ acc = []) ∨ (ds = [] ∧ acc = [D.tup [.str "number", .int (valF s)]]))) ⟨rfl, .inl ⟨rfl, rfl⟩⟩ ?_ ?_
        · rintro acc m2 ⟨rfl, h⟩
          rcases h with ⟨z, _⟩ | ⟨_, rfl⟩
          · cases z
          · refine ⟨rfl, ?_⟩
            rw [if_pos trivial]; rfl
        · rintro d ds acc m2 ⟨rfl, h⟩
          rcases h with ⟨z, rfl⟩ | ⟨z, _⟩
          · obtain ⟨rfl, rfl⟩ := List.cons.inj z
            refine ⟨_, rfl, ?_⟩
            (repeat' (first | (with_reducible first | refine t_yes ?_) | fail))
            refine pick_t rfl ?_
            (repeat' (first | (with_reducible first | refine v_c ?_ | refine a_nil ?_ | refine a_cons ?_ | refine v_tup ?_) | (with_reducible refine v_vx ?_; refine ex_v rfl ?_) | (with_reducible refine len_ok (by simp [sizeLine_eq]) ?_) | fail))
            exact ⟨by decide +kernel, rfl, .inr ⟨rfl, rfl⟩⟩
          · cases z
  · have hn : ∀ s, d ≠ .str s := fun s e => hd ⟨s, e⟩
    have e : readD d = none := by cases d <;> first | rfl | exact absurd rfl (hn _)
    rw [e]
    (repeat' (first | (with_reducible first | refine w_seq ?_ | refine w_if ?_ | refine v_o1 ?_ | refine t_t ?_ | refine t_not ?_) | (with_reducible refine v_vx ?_; refine ex_v rfl ?_) | fail))
    refine isi_no h.p hn ?_
    refine ex_bl ?_
    refine pick_t rfl ?_
    (repeat' (first | (with_reducible first | refine w_ret ?_ | refine a_nil ?_ | refine v_lst ?_) | (with_reducible refine len_ok (by simp [sizeLine_eq]) ?_) | fail))
    exact ⟨rfl, rfl⟩
theorem heard_ {d : D} (h : Tg d) {t : Nat} {m : Mem} (p : PM t m) : wp (g__law_heard [d] m) (fun v m' => PM t m' ∧ Ch m m' ∧ v = .lst (readD d).toList) noX := by
  have c0 := Ch.refl m
  refine w_body rfl ?_
  unfold m__law_heard
  (repeat' (first | (with_reducible first | refine w_seq ?_ | refine w_set ?_ | refine v_c ?_) | fail))
  refine w_tryK ?_
  (repeat' (first | (with_reducible first | refine w_set ?_ | refine v_call ?_ | refine a_nil ?_ | refine a_cons ?_) | (with_reducible refine v_vx ?_; refine ex_v rfl ?_) | fail))
  refine wp_mono (read_ h m) ?_ ?_
  · rintro v m1 ⟨rfl, e⟩
    (repeat' (first | (with_reducible first | refine w_seq ?_ | refine w_if ?_ | refine v_isN ?_ | refine t_t ?_ | refine ex_bl ?_) | (with_reducible refine v_vx ?_; refine ex_v rfl ?_) | fail))
    refine pick_t rfl ?_
    (repeat' (first | (with_reducible first | refine w_ret ?_ | refine a_nil ?_ | refine a_cons ?_ | refine v_lst ?_) | (with_reducible refine v_vx ?_; refine ex_v rfl ?_) | (with_reducible refine len_ok (by simp [sizeLine_eq]) ?_) | fail))
    exact ⟨p, c0, by rw [e]; rfl⟩
  · rintro C fs m1 ⟨rfl, rfl, rfl, e⟩
    refine ⟨true, if_pos rfl, fun _ => ?_, fun z => by cases z⟩
    have hx := add_ob m1 (.exn "NoText" [(("at" : Str), D.int 0)])
    (repeat' (first | (with_reducible first | refine w_seq ?_ | refine w_if ?_ | refine v_isN ?_ | refine t_t ?_ | refine ex_bl ?_) | (with_reducible refine v_vx ?_; refine ex_v rfl ?_) | fail))
    refine pick_f rfl ?_
    (repeat' (first | (with_reducible first | refine w_seq ?_ | refine w_if ?_ | refine w_skip ?_ | refine v_o1 ?_ | refine t_t ?_ | refine t_not ?_ | refine t_or ?_) | (with_reducible refine v_vx ?_; refine ex_v rfl ?_) | fail))
    refine q_isE (sub := sub1 "NoText" true) hx (if_pos rfl) ?_
    (repeat' (first | (with_reducible first | refine ex_bl ?_) | fail))
    refine pick_f rfl ?_
    (repeat' (first | (with_reducible first | refine v_o1 ?_ | refine t_t ?_ | refine t_not ?_ | refine t_or ?_) | (with_reducible refine v_vx ?_; refine ex_v rfl ?_) | fail))
    refine q_isE (sub := sub1 "NoText" true) hx (if_pos rfl) ?_
    (repeat' (first | (with_reducible first | refine ex_bl ?_) | fail))
    refine pick_f rfl ?_
    (repeat' (first | (with_reducible first | refine v_op ?_ | refine v_o1 ?_ | refine v_cb ?_ | refine a_cons ?_ | refine t_t ?_) | (with_reducible refine v_vx ?_; refine ex_v rfl ?_) | fail))
    refine q_fld (K := "NoText") hx (by rfl) ?_
    (repeat' (first | (with_reducible first | refine v_c ?_ | refine a_nil ?_ | refine ex_bl ?_ | refine q_ns ?_) | ((fail_if_success (with_reducible refine i_rng ?_ ?_ ?_)); (with_reducible refine wp_ofx ?_; refine ex_o rfl ?_)) | fail))
    refine pick_f (by decide +kernel) ?_
    (repeat' (first | (with_reducible first | refine w_seq ?_ | refine w_if ?_ | refine w_skip ?_ | refine v_o1 ?_ | refine t_t ?_) | (with_reducible refine v_vx ?_; refine ex_v rfl ?_) | fail))
    refine q_isE (sub := sub1 "NoText" false) hx (if_pos rfl) ?_
    (repeat' (first | (with_reducible first | refine ex_bl ?_) | fail))
    refine pick_f rfl ?_
    (repeat' (first | (with_reducible first | refine w_ret ?_ | refine w_skip ?_ | refine a_nil ?_ | refine v_lst ?_) | (with_reducible refine len_ok (by simp [sizeLine_eq]) ?_) | fail))
    exact ⟨p.addO _, c0.addO _, by rw [e]; rfl⟩
def oddL : List D := [.non, .bl true, .int 0, .int 7, .tup [], .lst [], .dk [] [], .tup [.str "none"], .lst [.str "none"], .tup [.str "number", .int 1], .dk [.inr "none"] [.int 1], .int (10 ^ (39 : Int).toNat)]
theorem odd_tg : ∀ d ∈ oddL, Tg d := by
  unfold oddL
  simp only [List.mem_cons, List.not_mem_nil, or_false]
  rintro d (rfl | rfl | rfl | rfl | rfl | rfl | rfl | rfl | rfl | rfl | rfl | rfl) <;> exact ⟨rfl, fun s e => by cases e⟩
theorem sign_ {t : Nat} {m : Mem} (p : PM t m) (ht : t + 100 < 2 ^ 31) : wp (g__law_sign [.ref 0] m) (fun v m' => PM (t + 1) m' ∧ Ch m m' ∧ ∃ s, v = .str s ∧ St 1 s) noX := by
  have c0 := Ch.refl m
  refine w_body rfl ?_
  unfold m__law_sign
  (repeat' (first | (with_reducible first | refine w_seq ?_ | refine w_set ?_ | refine w_ret ?_ | refine v_c ?_ | refine v_op ?_ | refine v_cb ?_ | refine v_call ?_ | refine a_nil ?_ | refine a_cons ?_) | (with_reducible refine v_vx ?_; refine ex_v rfl ?_) | ((fail_if_success (with_reducible refine i_rng ?_ ?_ ?_)); (with_reducible refine wp_ofx ?_; refine ex_o rfl ?_)) | fail))
  (refine draw_ (by assumption) (by assumption) (by omega) (by decide) (by decide) ?_; intro d m' p' c' lo' hi')
  skip
  refine q_ixSt (by decide +kernel) lo' (by simpa using hi') ?_
  intro c hc
  have h := List.all_eq_true.mp (show ((Str.ofString " !\"#$&'()*+,-./0123456789:;<=>?@ABCDEFGHIJKLMNOPQRSTUVWXYZ[\\]^_`abcdefghijklmnopqrstuvwxyz{|}~\n").cps.toList.all fun c => decide (c < 0x110000)) = true by decide +kernel) c hc
  exact ⟨p'.mono (by omega), c', _, rfl, st_one (of_decide_eq_true h)⟩
theorem bent_ {t : Nat} {m : Mem} {s : Str} (p : PM t m) (ht : t + 2000 < 2 ^ 31) (h : St 60 s) : wp (g__law_bent [.ref 0, .str s] m) (fun v m' => PM (t + 3) m' ∧ Ch m m' ∧ ∃ u, v = .str u ∧ St 200 u) noX := by
  have c0 := Ch.refl m
  have hl := h.len
  have hz := sizeLine_eq
  refine w_body rfl ?_
  unfold m__law_bent
  (repeat' (first | (with_reducible first | refine w_seq ?_ | refine w_set ?_ | refine v_c ?_ | refine v_call ?_ | refine a_nil ?_ | refine a_cons ?_) | (with_reducible refine v_vx ?_; refine ex_v rfl ?_) | fail))
  (refine draw_ (by assumption) (by assumption) (by omega) (by decide) (by decide) ?_; intro d m' p' c' lo' hi')
  have w0 := lo'
  have w1 := hi'
  (repeat' (first | (with_reducible first | refine w_seq ?_ | refine w_set ?_ | refine v_op ?_ | refine v_cb ?_ | refine v_call ?_ | refine a_nil ?_ | refine a_cons ?_) | (with_reducible refine v_vx ?_; refine ex_v rfl ?_) | fail))
  refine q_lenS (by omega) ?_
  (repeat' (first | (with_reducible first | refine v_c ?_ | refine a_nil ?_ | refine q_add ?_) | fail))
  refine draw_ p' c' (by omega) (by omega) (Nat.lt_of_le_of_lt (log2_lt (k := 8) (by omega)) (by decide)) ?_
  intro at_ m2 p2 c2 lo2 hi2
  (repeat' (first | (with_reducible first | refine w_seq ?_ | refine w_set ?_ | refine v_call ?_ | refine a_nil ?_ | refine a_cons ?_) | (with_reducible refine v_vx ?_; refine ex_v rfl ?_) | fail))
  refine wp_imp (sign_ p2 (by omega)) ?_
  rintro _ m3 ⟨p3, c3, g, rfl, hg⟩
  have k1 := h.cut none (some at_)
  have k2 := h.cut (some at_) none
  have k3 := h.cut (some (at_ + 1)) none
  have a1 := k1.app hg
  have l1 := k1.len
  have l2 := k2.len
  have l3 := k3.len
  have l4 := hg.len
  have l5 := a1.len
  (repeat' (first | (with_reducible first | refine w_seq ?_ | refine w_set ?_ | refine v_op ?_ | refine a_cons ?_ | refine v_lst ?_ | refine v_sl ?_ | refine o_partN ?_ | refine o_part ?_ | refine ex_part ?_) | (with_reducible refine v_vx ?_; refine ex_v rfl ?_) | fail))
  refine q_slS (by omega) ?_
  (repeat' (first | (with_reducible refine v_vx ?_; refine ex_v rfl ?_) | fail))
  refine q_addS (by omega) ?_
  (repeat' (first | (with_reducible first | refine v_sl ?_ | refine o_partN ?_ | refine o_part ?_ | refine ex_part ?_) | (with_reducible refine v_vx ?_; refine ex_v rfl ?_) | fail))
  refine q_slS (by omega) ?_
  skip
  refine q_addS (by omega) ?_
  (repeat' (first | (with_reducible first | refine v_op ?_ | refine a_cons ?_ | refine v_sl ?_ | refine o_partN ?_ | refine o_part ?_ | refine ex_part ?_) | (with_reducible refine v_vx ?_; refine ex_v rfl ?_) | fail))
  refine q_slS (by omega) ?_
  (repeat' (first | (with_reducible first | refine v_c ?_ | refine v_op ?_ | refine v_sl ?_ | refine o_partN ?_ | refine o_part ?_ | refine q_add ?_ | refine ex_part ?_) | (with_reducible refine v_vx ?_; refine ex_v rfl ?_) | fail))
  refine q_slS (by omega) ?_
  skip
  refine q_addS (by omega) ?_
  (repeat' (first | (with_reducible first | refine v_op ?_ | refine a_cons ?_ | refine v_sl ?_ | refine o_partN ?_ | refine o_part ?_ | refine ex_part ?_) | (with_reducible refine v_vx ?_; refine ex_v rfl ?_) | fail))
  refine q_slS (by omega) ?_
  (repeat' (first | (with_reducible refine v_vx ?_; refine ex_v rfl ?_) | fail))
  refine q_addS (by omega) ?_
  (repeat' (first | (with_reducible first | refine v_c ?_ | refine v_op ?_ | refine v_sl ?_ | refine o_partN ?_ | refine o_part ?_ | refine q_add ?_ | refine ex_part ?_) | (with_reducible refine v_vx ?_; refine ex_v rfl ?_) | fail))
  refine q_slS (by omega) ?_
  skip
  refine q_addS (by omega) ?_
  (repeat' (first | (with_reducible first | refine w_ret ?_ | refine v_op ?_ | refine a_nil ?_) | (with_reducible refine v_vx ?_; refine ex_v rfl ?_) | (with_reducible refine len_ok (by simp [sizeLine_eq]) ?_) | fail))
  refine q_ixAllL (P := fun z => ∃ u : Str, z = .str u ∧ St 200 u) w0 (by simpa using w1) ?_ ?_
  · simp only [List.mem_cons, List.not_mem_nil, or_false]
    rintro z (rfl | rfl | rfl | rfl)
    · exact ⟨_, rfl, h.mono (by omega)⟩
    · exact ⟨_, rfl, (a1.app k2).mono (by omega)⟩
    · exact ⟨_, rfl, (k1.app k3).mono (by omega)⟩
    · exact ⟨_, rfl, (a1.app k3).mono (by omega)⟩
  rintro _ ⟨u, rfl, hu⟩
  exact ⟨p3.mono (by omega), c2.trans c3, u, rfl, hu⟩
theorem st_lit {s : Str} {n : Nat} (h : (PyData.strOk s && decide (s.length ≤ n)) = true) : St n s := by
  rw [Bool.and_eq_true, decide_eq_true_eq] at h
  exact ⟨h.1, h.2⟩
theorem text_ {t : Nat} {m : Mem} (p : PM t m) (ht : t + 1000 < 2 ^ 31) : wp (g__law_text [.ref 0] m) (fun v m' => PM (t + 50) m' ∧ Ch m m' ∧ ∃ s, v = .str s ∧ St 60 s) noX := by
  have c0 := Ch.refl m
  refine w_body rfl ?_
  unfold m__law_text
  (repeat' (first | (with_reducible first | refine w_seq ?_ | refine w_set ?_ | refine v_c ?_ | refine v_call ?_ | refine a_nil ?_ | refine a_cons ?_) | (with_reducible refine v_vx ?_; refine ex_v rfl ?_) | fail))
  (refine draw_ (by assumption) (by assumption) (by omega) (by decide) (by decide) ?_; intro d m' p' c' lo' hi')
  (repeat' (first | (with_reducible first | refine w_seq ?_ | refine w_if ?_ | refine v_c ?_ | refine v_op ?_ | refine t_t ?_ | refine ex_bl ?_ | refine q_ei ?_) | (with_reducible refine v_vx ?_; refine ex_v rfl ?_) | fail))
  refine pick_d (fun h7 => ?_) (fun h7 => ?_)
  · (repeat' (first | (with_reducible first | refine w_seq ?_ | refine w_set ?_ | refine w_ret ?_ | refine v_c ?_ | refine v_op ?_ | refine v_call ?_ | refine a_nil ?_ | refine a_cons ?_ | refine v_lst ?_) | (with_reducible refine v_vx ?_; refine ex_v rfl ?_) | (with_reducible refine len_ok (by simp [sizeLine_eq]) ?_) | fail))
    (refine draw_ (by assumption) (by assumption) (by omega) (by decide) (by decide) ?_; intro d m' p' c' lo' hi')
    skip
    refine q_ixAllL (P := fun z => ∃ s : Str, z = .str s ∧ St 60 s) lo' (by simpa using hi') ?_ ?_
    · simp only [List.mem_cons, List.not_mem_nil, or_false]
      rintro z (rfl | rfl | rfl | rfl | rfl | rfl | rfl | rfl | rfl | rfl | rfl | rfl | rfl | rfl) <;> exact ⟨_, rfl, st_lit (by decide +kernel)⟩
    · rintro _ ⟨s, rfl, h⟩
      exact ⟨p'.mono (by omega), c', s, rfl, h⟩
  · (repeat' (first | (with_reducible first | refine w_seq ?_ | refine w_set ?_ | refine w_skip ?_ | refine v_c ?_ | refine v_op ?_ | refine v_call ?_ | refine a_nil ?_ | refine a_cons ?_ | refine v_lst ?_) | (with_reducible refine v_vx ?_; refine ex_v rfl ?_) | (with_reducible refine len_ok (by simp [sizeLine_eq]) ?_) | fail))
    (refine draw_ (by assumption) (by assumption) (by omega) (by decide) (by decide) ?_; intro d m' p' c' lo' hi')
    skip
    refine q_ixAllL (P := fun z => ∃ i : Int, z = .int i ∧ 0 ≤ i ∧ i ≤ 40) lo' (by simpa using hi') ?_ ?_
    · simp only [List.mem_cons, List.not_mem_nil, or_false]
      rintro z (rfl | rfl | rfl | rfl | rfl | rfl | rfl) <;> exact ⟨_, rfl, by decide, by decide⟩
    rintro _ ⟨n, rfl, n0, n1⟩
    (repeat' (first | (with_reducible first | refine w_seq ?_ | refine w_set ?_ | refine v_c ?_ | refine a_nil ?_ | refine a_cons ?_ | refine i_range ?_ | refine v_lc ?_ | refine v_m_join1 ?_ | refine ok_hasS ?_) | (with_reducible refine v_vx ?_; refine ex_v rfl ?_) | fail))
    refine i_rng n0 (by omega) ?_
    refine v_loopC (I := fun ds acc m2 => ∃ ts : List Str, acc = ts.map D.str ∧ (∀ t ∈ ts, ∃ c, t = ⟨#[c]⟩ ∧ c < 0x110000) ∧ ts.length + ds.length ≤ 40 ∧ PM (t + 2 + ts.length) m2 ∧ Ch m m2) ?_ ?_ ?_
    · refine ⟨[], rfl, by simp, ?_, p'.mono (by omega), c'⟩
      unfold upto
      simp
      omega
    · rintro acc m2 ⟨ts, rfl, hts, hl, p2, c2⟩
      have hl : ts.length ≤ 40 := by simpa using hl
      refine q_joinL ?_ ?_
      · have e : (Str.ofString "").length = 0 := by decide +kernel
        rw [e, sum_one ts hts]
        omega
      have hj := st_join hts hl
      have hs := hj.len
      have hz := sizeLine_eq
      generalize Txt.join "" ts = s at hj hs
      (repeat' (first | (with_reducible first | refine w_seq ?_ | refine w_set ?_ | refine v_c ?_ | refine v_op ?_ | refine v_call ?_ | refine a_nil ?_ | refine a_cons ?_ | refine v_lst ?_) | (with_reducible refine v_vx ?_; refine ex_v rfl ?_) | (with_reducible refine len_ok (by simp [sizeLine_eq]) ?_) | fail))
      refine draw_ p2 c2 (by omega) (by decide) (by decide) ?_
      intro d m3 p3 c3 lo3 hi3
      skip
      refine q_ixAllL (P := fun z => ∃ s : Str, z = .str s ∧ St 2 s) lo3 (by simpa using hi3) ?_ ?_
      · simp only [List.mem_cons, List.not_mem_nil, or_false]
        rintro z (rfl | rfl | rfl | rfl | rfl | rfl | rfl | rfl | rfl) <;> exact ⟨_, rfl, st_lit (by decide +kernel)⟩
      rintro _ ⟨u, rfl, hu⟩
      (repeat' (first | (with_reducible first | refine w_ret ?_ | refine v_op ?_) | (with_reducible refine v_vx ?_; refine ex_v rfl ?_) | fail))
      refine q_addS (by have := hu.len; omega) ?_
      exact ⟨p3.mono (by omega), c3, _, rfl, (hu.app hj).mono (by omega)⟩
    · rintro d ds acc m2 ⟨ts, rfl, hts, hl, p2, c2⟩
      refine ⟨_, rfl, ?_⟩
      simp only [List.length_cons] at hl
      (repeat' (first | (with_reducible first | refine v_c ?_ | refine v_op ?_ | refine v_call ?_ | refine a_nil ?_ | refine a_cons ?_ | refine t_yes ?_) | (with_reducible refine v_vx ?_; refine ex_v rfl ?_) | (with_reducible refine pick_t (by decide +kernel) ?_) | fail))
      refine draw_ p2 c2 (by omega) (by omega) (by decide) ?_
      intro d m3 p3 c3 lo3 hi3
      skip
      refine q_ixSt (by decide +kernel) lo3 (by have e : (Str.ofString "0123456789").length = 10 := by decide +kernel
                                                rw [e]; exact hi3) ?_
      intro c hc
      have cps : (Str.ofString "0123456789").cps.toList.all (fun c => decide (c < 0x110000)) = true := by decide +kernel
      refine ⟨by rw [List.length_map, sizeLine_eq]; omega, ts ++ [⟨#[c]⟩], by simp, ?_, by simp; omega, p3.mono (by simp; omega), c3⟩
      intro u hu
      rcases List.mem_append.mp hu with q | q
      · exact hts u q
      · rw [List.mem_singleton.mp q]
        exact ⟨c, rfl, of_decide_eq_true (List.all_eq_true.mp cps c hc)⟩
theorem read_sh (d : D) : Sh (.lst (readD d).toList) := by
  have num : ∀ (w : Str) (i : Int), BG.okS w = true → i.natAbs < 10 ^ 30 → Sh (.lst [D.tup [.str w, .int i]]) := fun w i hw hi =>
    (BG.Fac.lst (BG.fac1 (BG.Fac.tup (BG.FacL.cons (BG.tag_ok (k := 0) hw) (BG.fac1 (BG.fac_int hi)))))).sh (by omega) (by omega)
  have nil : Sh (.lst []) := (BG.Fac.lst BG.FacL.nil).sh (by omega) (by omega)
  unfold readD
  split
  · rename_i s
    unfold readS
    split
    · exact (BG.Fac.lst (BG.fac1 (BG.Fac.tup (BG.fac1 (BG.tag_ok (k := 0) (by decide +kernel)))))).sh (by omega) (by omega)
    · split
      · split
        · rename_i k
          exact num "giver" _ (by decide +kernel) (okF_int k.1).2.2
        · exact nil
      · split
        · rename_i k
          exact num "number" _ (by decide +kernel) (okF_int k).2.2
        · exact nil
  · exact nil
theorem law_true : ∀ ns : List Int, ns.length ≤ 63 → ∃ m', g_law [.scr ns] Ev.mem0 = .ok (.bl true) m' := by
  intro xs hn
  suffices h : wp (g_law [.scr xs] Ev.mem0) (fun v _ => v = .bl true) noX by
    obtain ⟨a, m, e, h⟩ := wp_det h
    exact ⟨m, by rw [e, h]⟩
  refine w_body rfl ?_
  unfold m_law
  (repeat' (first | (with_reducible first | refine w_seq ?_ | refine w_set ?_ | refine v_call ?_ | refine a_nil ?_ | refine a_cons ?_) | (with_reducible refine v_vx ?_; refine ex_v rfl ?_) | fail))
  refine wp_imp (pen_ xs hn) ?_
  rintro v m ⟨rfl, p⟩
  (repeat' (first | (with_reducible first | refine w_seq ?_ | refine w_set ?_ | refine w_for ?_ | refine v_c ?_ | refine v_op ?_ | refine a_nil ?_ | refine a_cons ?_ | refine v_tup ?_ | refine v_lst ?_ | refine i_range ?_ | refine p_nil ?_ | refine p_cons ?_ | refine v_dict ?_) | (with_reducible refine len_ok (by simp [sizeLine_eq]) ?_) | (with_reducible refine i_pow (by decide) (by decide) (by decide) ?_) | (with_reducible refine i_rng (by decide) (by decide) ?_) | ((with_reducible refine dictP_id ?_); (refine ex_dict (by repeat (first | exact DK.nil | apply DK.s | apply DK.i)) (by decide +kernel) (by decide) ?_)) | fail))
  refine w_loop (I := fun ds s m1 => ∃ (a3 a4 a5 : Option D), s = [some (.scr xs), some (.ref 0), some (.lst oddL), a3, a4, a5] ∧ PM (100 * (12 - ds.length)) m1 ∧ ds.length ≤ 12) ?_ ?_ ?_
  · exact ⟨none, none, none, rfl, p, by decide⟩
  · rintro s m1 ⟨a3, a4, a5, rfl, p1, _⟩
    (repeat' (first | (with_reducible first | refine w_ret ?_ | refine v_c ?_) | fail))
    rfl
  · rintro dd ds s m1 ⟨a3, a4, a5, rfl, p1, hl⟩
    have hl : ds.length < 12 := hl
    have p1 : PM (100 * (11 - ds.length)) m1 := p1.mono (by simp only [List.length_cons]; omega)
    refine ⟨_, rfl, ?_⟩
    (repeat' (first | (with_reducible first | refine w_seq ?_ | refine w_set ?_ | refine v_call ?_ | refine a_nil ?_ | refine a_cons ?_) | (with_reducible refine v_vx ?_; refine ex_v rfl ?_) | fail))
    refine wp_imp (text_ p1 (by omega)) ?_
    rintro _ m2 ⟨p2, c2, w, rfl, hw⟩
    (repeat' (first | (with_reducible first | refine w_for ?_ | refine v_call ?_ | refine a_nil ?_ | refine a_cons ?_ | refine v_tup ?_ | refine i_iter ?_) | (with_reducible refine v_vx ?_; refine ex_v rfl ?_) | fail))
    refine wp_imp (bent_ p2 (by omega) hw) ?_
    rintro _ m3 ⟨p3, c3, u1, rfl, hu1⟩
    (repeat' (first | (with_reducible first | refine v_call ?_ | refine a_nil ?_ | refine a_cons ?_) | (with_reducible refine v_vx ?_; refine ex_v rfl ?_) | fail))
    refine wp_imp (bent_ p3 (by omega) hw) ?_
    rintro _ m4 ⟨p4, c4, u2, rfl, hu2⟩
    (repeat' (first | (with_reducible first | refine v_c ?_ | refine v_op ?_ | refine v_call ?_ | refine a_nil ?_ | refine a_cons ?_) | (with_reducible refine v_vx ?_; refine ex_v rfl ?_) | fail))
    refine draw_ p4 (Ch.refl m4) (by omega) (by decide) (by decide) ?_
    intro d4 m5 p5 c5 lo5 hi5
    skip
    refine q_ixAllL (P := Tg) lo5 (by simpa [oddL] using hi5) odd_tg ?_
    intro o ho
    have tg : ∀ {n : Nat} {s : Str}, St n s → n ≤ 200 → Tg (.str s) := fun h hn => ⟨rfl, fun s e => by cases e; exact h.mono hn⟩
    (repeat' (first | (with_reducible first | refine a_nil ?_ | refine a_cons ?_ | refine q_itT ?_) | (with_reducible refine v_vx ?_; refine ex_v rfl ?_) | (with_reducible refine len_ok (by simp [sizeLine_eq]) ?_) | fail))
    refine w_loop (I := fun es s m6 => ∃ a5 : Option D, s = [some (.scr xs), some (.ref 0), some (.lst oddL), some dd, some (.str w), a5] ∧ PM (100 * (12 - ds.length)) m6 ∧ ∀ x ∈ es, Tg x) ?_ ?_ ?_
    · refine ⟨_, rfl, p5.mono (by omega), ?_⟩
      simp only [List.mem_cons, List.not_mem_nil, or_false]
      rintro z (rfl | rfl | rfl | rfl | rfl)
      · exact tg hw (by omega)
      · exact tg hu1 (by omega)
      · exact tg hu2 (by omega)
      · exact ho
      · exact tg hw (by omega)
    · rintro s m6 ⟨a5, rfl, p6, _⟩
      exact ⟨_, _, _, rfl, p6, by omega⟩
    · rintro x ys s m6 ⟨a5, rfl, p6, hx⟩
      have h1 := hx x (List.mem_cons_self ..)
      refine ⟨_, rfl, ?_⟩
      (repeat' (first | (with_reducible first | refine w_if ?_ | refine v_op ?_ | refine v_cb ?_ | refine v_call ?_ | refine a_nil ?_ | refine a_cons ?_ | refine t_t ?_) | (with_reducible refine v_vx ?_; refine ex_v rfl ?_) | fail))
      refine wp_imp (heard_ h1 p6) ?_
      rintro _ m7 ⟨p7, c7, rfl⟩
      (repeat' (first | (with_reducible first | refine a_nil ?_) | fail))
      refine q_repr (read_sh x) ?_
      (repeat' (first | (with_reducible first | refine v_cb ?_ | refine v_call ?_ | refine a_nil ?_ | refine a_cons ?_) | (with_reducible refine v_vx ?_; refine ex_v rfl ?_) | fail))
      refine wp_imp (due_ h1 m7) ?_
      rintro _ m7 ⟨rfl, rfl⟩
      (repeat' (first | (with_reducible first | refine a_nil ?_) | fail))
      refine q_repr (read_sh x) ?_
      (repeat' (first | (with_reducible first | refine ex_bl ?_ | refine q_ns ?_) | fail))
      refine pick_f (by simp) ?_
      (repeat' (first | (with_reducible first | refine w_skip ?_) | fail))
      exact ⟨_, rfl, p7, fun y hy => hx y (List.mem_cons_of_mem _ hy)⟩
end K04

open PySem PySem.W PyProof.Rows
set_option maxHeartbeats 0 in
theorem PySem.Challenge.cw_handedon_k04_texts_of_no_worth_holds : PySem.Challenge.rw_handedon_k04_texts_of_no_worth.Holds := by
  w_on; o_law; k_head; (case hw => w_witness2)
  k_fill
  refine Ev.walkG (l := PySem.Challenge.rw_handedon_k04_texts_of_no_worth) (n := 63) (k := 5) (x := "_law_script") (g := K04.g_law) rfl (by decide) rfl ⟨rfl, by decide, by decide⟩ (fun w h Y => PySem.W.kIn_of Y) ?F K04.law_true
  case F =>
    intro w mg fa h KX G hmg
    refine' K04.all_mk KX G hmg ?a0 ?l0 ?c0 ?k0 ?a1 ?l1 ?c1 ?k1 ?a2 ?l2 ?c2 ?k2 ?a3 ?l3 ?c3 ?k3 ?a4 ?l4 ?c4 ?k4 ?a5 ?l5 ?c5 ?k5 ?a6 ?l6 ?c6 ?k6 ?a7 ?l7 ?c7 ?k7 ?a8 ?l8 ?c8 ?k8 ?a9 ?l9 ?c9 ?k9 ?a10 ?l10 ?c10 ?k10 ?a11 ?l11 ?c11 ?k11 ?a12 ?l12 ?c12 ?k12 ?z_list ?z_len ?z_abs ?z_range ?z_int ?z_all ?z_isinstance ?z_bool ?z_str ?z_ValueError ?z_repr ?q_MOST_FIGURES ?q_FIGURES ?q_NONE ?u_NONE ?v_NONE ?w_NONE ?q_MOST_GIVERS ?ga_NoText ?ga_GiverError ?ga_Full ?ga_NoAsk ?ga_NoBook ?ga_NoCode ?ga_NoGiver ?ga_NoKept ?ga_NoMost ?ga_NoRow ?ga_NoRule ?ga_NoWorth ?xL_NoText ?rv_NoText ?sa_NoText ?ga_NoText_ ?gg_NoText ?no_NoText ?in_NoText ?ti_NoText ?li_NoText ?co_NoText ?kC_NoText ?r1_NoText ?r2_NoText ?hd_NoText ?sf_NoText ?hc_NoText ?h_get ?h_takes ?hm_NoText ?r1_GiverError ?hd_GiverError ?r2_GiverError ?s_NoText_GiverError ?s_NoText_ValueError ?hd_NoWorth ?r2_NoWorth ?s_NoText_NoWorth ?hd_NoRule ?r2_NoRule ?s_NoText_NoRule ?hd_NoRow ?r2_NoRow ?s_NoText_NoRow ?hd_NoMost ?r2_NoMost ?s_NoText_NoMost ?hd_NoKept ?r2_NoKept ?s_NoText_NoKept ?hd_NoGiver ?r2_NoGiver ?s_NoText_NoGiver ?hd_NoCode ?r2_NoCode ?s_NoText_NoCode ?hd_NoBook ?r2_NoBook ?s_NoText_NoBook ?hd_NoAsk ?r2_NoAsk ?s_NoText_NoAsk ?hd_Full ?r2_Full ?s_NoText_Full
    (case a0 => k_is); (case l0 => k_is); (case c0 => k_is); (case k0 => k_is); (case a1 => k_is); (case l1 => k_is); (case c1 => k_is); (case k1 => k_is); (case a2 => k_is); (case l2 => k_is); (case c2 => k_is); (case k2 => k_is); (case a3 => k_is); (case l3 => k_is); (case c3 => k_is); (case k3 => k_is); (case a4 => k_is); (case l4 => k_is); (case c4 => k_is); (case k4 => k_is); (case a5 => k_is); (case l5 => k_is); (case c5 => k_is); (case k5 => k_is); (case a6 => k_is); (case l6 => k_is); (case c6 => k_is); (case k6 => k_is); (case a7 => k_is); (case l7 => k_is); (case c7 => k_is); (case k7 => k_is); (case a8 => k_is); (case l8 => k_is); (case c8 => k_is); (case k8 => k_is); (case a9 => k_is); (case l9 => k_is); (case c9 => k_is); (case k9 => k_is); (case a10 => k_is); (case l10 => k_is); (case c10 => k_is); (case k10 => k_is); (case a11 => k_is); (case l11 => k_is); (case c11 => k_is); (case k11 => k_is); (case a12 => k_is); (case l12 => k_is); (case c12 => k_is); (case k12 => k_is); (case z_list => k_is); (case z_len => k_is); (case z_abs => k_is); (case z_range => k_is); (case z_int => k_is); (case z_all => k_is); (case z_isinstance => k_is); (case z_bool => k_is); (case z_str => k_is); (case z_ValueError => k_is); (case z_repr => k_is); (case q_MOST_FIGURES => k_is); (case q_FIGURES => k_is); (case q_NONE => k_is); (case u_NONE => k_is); (case v_NONE => first | k_is | decide +kernel); (case w_NONE => decide); (case q_MOST_GIVERS => k_is); (case ga_NoText => k_is); (case ga_GiverError => k_is); (case ga_Full => k_is); (case ga_NoAsk => k_is); (case ga_NoBook => k_is); (case ga_NoCode => k_is); (case ga_NoGiver => k_is); (case ga_NoKept => k_is); (case ga_NoMost => k_is); (case ga_NoRow => k_is); (case ga_NoRule => k_is); (case ga_NoWorth => k_is); (case xL_NoText => k_is); (case rv_NoText => decide +kernel); (case sa_NoText => k_is); (case ga_NoText_ => k_is); (case gg_NoText => k_is); (case no_NoText => k_is); (case in_NoText => k_is); (case ti_NoText => k_is); (case li_NoText => k_is); (case co_NoText => k_is); (case kC_NoText => k_is); (case r1_NoText => k_is); (case r2_NoText => k_is); (case hd_NoText => k_is); (case sf_NoText => first | rfl | k_is); (case hc_NoText => k_is); (case h_get => k_is); (case h_takes => k_is); (case hm_NoText => k_is); (case r1_GiverError => k_is); (case hd_GiverError => k_is); (case r2_GiverError => k_is); (case s_NoText_GiverError => k_is); (case s_NoText_ValueError => k_is); (case hd_NoWorth => k_is); (case r2_NoWorth => k_is); (case s_NoText_NoWorth => k_is); (case hd_NoRule => k_is); (case r2_NoRule => k_is); (case s_NoText_NoRule => k_is); (case hd_NoRow => k_is); (case r2_NoRow => k_is); (case s_NoText_NoRow => k_is); (case hd_NoMost => k_is); (case r2_NoMost => k_is); (case s_NoText_NoMost => k_is); (case hd_NoKept => k_is); (case r2_NoKept => k_is); (case s_NoText_NoKept => k_is); (case hd_NoGiver => k_is); (case r2_NoGiver => k_is); (case s_NoText_NoGiver => k_is); (case hd_NoCode => k_is); (case r2_NoCode => k_is); (case s_NoText_NoCode => k_is); (case hd_NoBook => k_is); (case r2_NoBook => k_is); (case s_NoText_NoBook => k_is); (case hd_NoAsk => k_is); (case r2_NoAsk => k_is); (case s_NoText_NoAsk => k_is); (case hd_Full => k_is); (case r2_Full => k_is); (case s_NoText_Full => k_is)
