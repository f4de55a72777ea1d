import PyProof.Rows.All
import Wide.All
import OpenK.AllK
import Wide.FinOn
import PyProof.EqAt
import PyProof.EqKinds
import PyProof.TupleCall
import HandS.ForMost
import HandS.ForExc
import HandS.ExcInit
import HandS.ExcField
import HandS.TryMany
import HandS.Flow
import HandS.Wide
import HandS.Gcd
import HandS.IsInst
import HandS.Style
import HandS.Defaults
import HandS.Walk
import HandS.Zip
import HandS.More
import HandS.Dict
import HandS.WordsExc
import KE.KStateDown
import HandS.Head0
import HandS.Head1
import HandS.Head2
import HandS.Head3
import HandS.HeadEnd
import HandS.HeadHook1
import PySem.Challenge.RW_quasifloors_k02_whole_signs_and_floors
import Flt.RightSqrt
set_option Elab.async false
set_option linter.all false
set_option maxRecDepth 100000
set_option maxHeartbeats 4000000
/-! EV, part 1: data, the store of mutable lists, results; how they stand to the layer's values and heap. -/
namespace EV
open PySem PySem.Spec PyProof.Rows L2

abbrev D := PyData
/-- where the mutable lists stand; lists that are being made -/
structure Mp where
  l : List (Option Addr)
  hd : List Addr
abbrev Sto := List (Option (List D))
/-- a mutable list's address -/
def Lv (m : Mp) (a : Addr) : Prop := some a ∈ m.l ∨ a ∈ m.hd
def Mp.snoc (m : Mp) (p : Addr) : Mp := ⟨m.l ++ [some p], m.hd⟩
def Mp.clr (m : Mp) (i : Nat) : Mp := ⟨m.l.set i none, m.hd⟩
def Mp.cut (m : Mp) (n : Nat) : Mp := ⟨m.l.take n, m.hd⟩
/-- a written tuple -/
def KT (K : PySem.W.Frag) (a : Addr) (xs : List V) : Prop :=
  ∃ (o : Obj) (its : Array Value) (n : Nat), K.lookup a = some o ∧ o.cls = .type "tuple" ∧ o.data = .seq its n ∧ its.size ≤ sizeLine ∧ Vals xs its.toList
mutual
/-- the value v is the data d; its lists are not among the mutable ones -/
def DV (K : PySem.W.Frag) (L : Addr → Prop) (H : Hp) : D → V → Prop
  | .none, v => v = .non
  | .bool b, v => v = .bl b
  | .int i, v => v = .int i
  | .str s, v => v = .str s
  | .tuple ds, v => ∃ a vs, v = .ref a ∧ (KT K a vs ∨ (¬ L a ∧ Rd H a (.tup vs))) ∧ DVs K L H ds vs
  | .list ds, v => ∃ a vs, v = .ref a ∧ ¬ L a ∧ H a = some (.lst vs) ∧ DVs K L H ds vs
  | .dict _, _ => False
def DVs (K : PySem.W.Frag) (L : Addr → Prop) (H : Hp) : List D → List V → Prop
  | [], vs => vs = []
  | d :: ds, vs => ∃ v r, vs = v :: r ∧ DV K L H d v ∧ DVs K L H ds r
end
/-- what is not mutable stays, and stays so -/
def Kp (L : Addr → Prop) (H : Hp) (L' : Addr → Prop) (H' : Hp) : Prop := ∀ a o, ¬ L a → H a = some o → ¬ L' a ∧ H' a = some o
theorem Kp.refl {L : Addr → Prop} {H : Hp} : Kp L H L H := fun _ _ h e => ⟨h, e⟩
theorem Kp.trans {L L1 L2 : Addr → Prop} {H H1 H2 : Hp} (h : Kp L H L1 H1) (h' : Kp L1 H1 L2 H2) : Kp L H L2 H2 := fun a o n e =>
  let ⟨n1, e1⟩ := h a o n e
  h' a o n1 e1
section
variable {K : PySem.W.Frag} {L L' : Addr → Prop} {H H' : Hp}
theorem Kp.rd (k : Kp L H L' H') {a : Addr} {o : HO} (n : ¬ L a) (r : Rd H a o) : ¬ L' a ∧ Rd H' a o := by
  rcases r with r | ⟨u, r⟩
  · obtain ⟨n', e⟩ := k a _ n r
    exact ⟨n', .inl e⟩
  · obtain ⟨n', e⟩ := k a _ n r
    exact ⟨n', .inr ⟨u, e⟩⟩
mutual
theorem DV.keep (k : Kp L H L' H') : ∀ (d : D) (v : V), DV K L H d v → DV K L' H' d v
  | .none, _, h => h
  | .bool _, _, h => h
  | .int _, _, h => h
  | .str _, _, h => h
  | .tuple ds, v, h => by
    obtain ⟨a, vs, e, t, r⟩ := h
    refine ⟨a, vs, e, ?_, DVs.keep k ds vs r⟩
    rcases t with t | ⟨n, t⟩
    · exact .inl t
    · exact .inr (k.rd n t)
  | .list ds, v, h => by
    obtain ⟨a, vs, e, n, t, r⟩ := h
    obtain ⟨n', t'⟩ := k a _ n t
    exact ⟨a, vs, e, n', t', DVs.keep k ds vs r⟩
  | .dict _, _, h => h.elim
theorem DVs.keep (k : Kp L H L' H') : ∀ (ds : List D) (vs : List V), DVs K L H ds vs → DVs K L' H' ds vs
  | [], _, h => h
  | d :: ds, vs, h => by
    obtain ⟨v, r, e, h1, h2⟩ := h
    exact ⟨v, r, e, DV.keep k d v h1, DVs.keep k ds r h2⟩
end
theorem DVs.len : ∀ {ds : List D} {vs : List V}, DVs K L H ds vs → ds.length = vs.length
  | [], _, h => by cases h; rfl
  | d :: ds, vs, h => by
    obtain ⟨v, r, e, _, h2⟩ := h
    subst e
    simp [DVs.len h2]
theorem DVs.get : ∀ {ds : List D} {vs : List V} {i : Nat} {d : D}, DVs K L H ds vs → ds[i]? = some d → ∃ v, vs[i]? = some v ∧ DV K L H d v
  | [], _, _, _, _, e => by simp at e
  | d :: ds, vs, i, x, h, e => by
    obtain ⟨v, r, q, h1, h2⟩ := h
    subst q
    cases i with
    | zero =>
      simp at e
      subst e
      exact ⟨v, rfl, h1⟩
    | succ i =>
      simp at e
      obtain ⟨w, e1, e2⟩ := DVs.get h2 e
      exact ⟨w, by simpa using e1, e2⟩
theorem DVs.get' : ∀ {ds : List D} {vs : List V} {i : Nat} {v : V}, DVs K L H ds vs → vs[i]? = some v → ∃ d, ds[i]? = some d ∧ DV K L H d v
  | [], _, _, _, h, e => by cases h; simp at e
  | d :: ds, vs, i, x, h, e => by
    obtain ⟨v, r, q, h1, h2⟩ := h
    subst q
    cases i with
    | zero =>
      simp at e
      subst e
      exact ⟨d, rfl, h1⟩
    | succ i =>
      simp at e
      obtain ⟨w, e1, e2⟩ := DVs.get' h2 e
      exact ⟨w, by simpa using e1, e2⟩
theorem DVs.append : ∀ {ds es : List D} {vs us : List V}, DVs K L H ds vs → DVs K L H es us → DVs K L H (ds ++ es) (vs ++ us)
  | [], _, _, _, h, h' => by cases h; exact h'
  | d :: ds, es, vs, us, h, h' => by
    obtain ⟨v, r, q, h1, h2⟩ := h
    subst q
    exact ⟨v, r ++ us, rfl, h1, DVs.append h2 h'⟩
theorem DVs.take : ∀ {ds : List D} {vs : List V} (n : Nat), DVs K L H ds vs → DVs K L H (ds.take n) (vs.take n)
  | [], _, n, h => by cases h; simp [DVs]
  | d :: ds, vs, 0, h => by simp [DVs]
  | d :: ds, vs, n + 1, h => by
    obtain ⟨v, r, q, h1, h2⟩ := h
    subst q
    exact ⟨v, r.take n, rfl, h1, DVs.take n h2⟩
theorem DVs.drop : ∀ {ds : List D} {vs : List V} (n : Nat), DVs K L H ds vs → DVs K L H (ds.drop n) (vs.drop n)
  | [], _, n, h => by cases h; simp [DVs]
  | d :: ds, vs, 0, h => h
  | d :: ds, vs, n + 1, h => by
    obtain ⟨v, r, q, h1, h2⟩ := h
    subst q
    exact DVs.drop n h2
theorem DVs.snoc {ds : List D} {vs : List V} {d : D} {v : V} (h : DVs K L H ds vs) (h' : DV K L H d v) : DVs K L H (ds ++ [d]) (vs ++ [v]) := h.append ⟨v, [], rfl, h', rfl⟩
theorem DVs.set : ∀ {ds : List D} {vs : List V} {d : D} {v : V} (i : Nat), DVs K L H ds vs → DV K L H d v → DVs K L H (ds.set i d) (vs.set i v)
  | [], _, _, _, _, h, _ => by cases h; exact rfl
  | d :: ds, vs, x, w, i, h, h' => by
    obtain ⟨v, r, q, h1, h2⟩ := h
    subst q
    cases i with
    | zero => exact ⟨w, r, rfl, h', h2⟩
    | succ i => exact ⟨v, r.set i w, rfl, h1, DVs.set i h2 h'⟩
theorem DVs.dropLast {ds : List D} {vs : List V} (h : DVs K L H ds vs) : DVs K L H ds.dropLast vs.dropLast := by
  rw [List.dropLast_eq_take, List.dropLast_eq_take, ← h.len]
  exact h.take _
theorem DVs.reverse : ∀ {ds : List D} {vs : List V}, DVs K L H ds vs → DVs K L H ds.reverse vs.reverse
  | [], _, h => by cases h; exact rfl
  | d :: ds, vs, h => by
    obtain ⟨v, r, q, h1, h2⟩ := h
    subst q
    rw [List.reverse_cons, List.reverse_cons]
    exact DVs.snoc (DVs.reverse h2) h1
theorem DVs.ints : ∀ {ns : List Int}, DVs K L H (ns.map .int) (ns.map .int)
  | [] => rfl
  | n :: ns => ⟨_, _, rfl, rfl, DVs.ints⟩
theorem dv_none : DV K L H .none .non := by simp only [DV]
theorem dv_bool {b : Bool} : DV K L H (.bool b) (.bl b) := by simp only [DV]
theorem dv_int {i : Int} : DV K L H (.int i) (.int i) := by simp only [DV]
theorem dv_str {s : Str} : DV K L H (.str s) (.str s) := by simp only [DV]
theorem dv_tup {a : Addr} {ds : List D} {vs : List V} (n : ¬ L a) (e : H a = some (.tup vs)) (h : DVs K L H ds vs) : DV K L H (.tuple ds) (.ref a) := by
  simp only [DV]
  exact ⟨a, vs, rfl, .inr ⟨n, .inl e⟩, h⟩
theorem dv_lst {a : Addr} {ds : List D} {vs : List V} (n : ¬ L a) (e : H a = some (.lst vs)) (h : DVs K L H ds vs) : DV K L H (.list ds) (.ref a) := by
  simp only [DV]
  exact ⟨a, vs, rfl, n, e, h⟩
theorem dv_tup_inv {ds : List D} {v : V} (h : DV K L H (.tuple ds) v) : ∃ a vs, v = .ref a ∧ SqT K H a vs ∧ DVs K L H ds vs := by
  simp only [DV] at h
  obtain ⟨a, vs, e, t, r⟩ := h
  refine ⟨a, vs, e, ?_, r⟩
  rcases t with t | ⟨_, t⟩
  · exact .inr t
  · exact .inl t
theorem dv_lst_inv {ds : List D} {v : V} (h : DV K L H (.list ds) v) : ∃ a vs, v = .ref a ∧ ¬ L a ∧ H a = some (.lst vs) ∧ DVs K L H ds vs := by
  simp only [DV] at h
  exact h
mutual
theorem DV.dp : ∀ (d : D) (v : V), DV K L H d v → Dp K H v d
  | .none, _, h => by simp only [DV] at h; subst h; exact .non
  | .bool _, _, h => by simp only [DV] at h; subst h; exact .bl _
  | .int _, _, h => by simp only [DV] at h; subst h; exact .int _
  | .str _, _, h => by simp only [DV] at h; subst h; exact .str _
  | .tuple ds, v, h => by
    simp only [DV] at h
    obtain ⟨a, vs, e, t, r⟩ := h
    subst e
    refine .tup (xs := vs) ?_ (DVs.dp ds vs r)
    rcases t with t | ⟨_, t⟩
    · exact .inr t
    · exact .inl t
  | .list ds, v, h => by
    simp only [DV] at h
    obtain ⟨a, vs, e, n, t, r⟩ := h
    subst e
    exact .lst (SqL.of t) (DVs.dp ds vs r)
  | .dict _, _, h => by simp only [DV] at h
theorem DVs.dp : ∀ (ds : List D) (vs : List V), DVs K L H ds vs → DpAll K H vs ds
  | [], _, h => by simp only [DVs] at h; subst h; exact .nil
  | d :: ds, vs, h => by
    simp only [DVs] at h
    obtain ⟨v, r, e, h1, h2⟩ := h
    subst e
    exact .cons (DV.dp d v h1) (DVs.dp ds r h2)
end
end

/-- what an expression gives: data, a mutable list, the script, a caught exception -/
inductive R where
  | v (d : D) | r (i : Nat) | s (l : List Int) | x (c : Str) (d : D)
/-- the exception that is being handled: its address, its class, its dict -/
abbrev Cur := Option (Addr × Str × Addr)
def RV (K : PySem.W.Frag) (cur : Cur) (m : Mp) (H : Hp) : R → V → Prop
  | .v d, u => DV K (Lv m) H d u
  | .r i, u => ∃ a, u = .ref a ∧ (m.l[i]? = some (some a) ∨ m.l[i]? = some none)
  | .s l, u => ∃ a, u = .ref a ∧ ((¬ Lv m a ∧ Rd H a (.lst (l.map .int))) ∨ ∃ (o : Obj) (its : Array Value) (n : Nat), K.lookup a = some o ∧ o.cls = .type "list" ∧ o.dict = none ∧ o.data = .seq its n ∧ its.size ≤ sizeLine ∧ Vals (l.map .int) its.toList)
  | .x c d, u => ∃ a dd w, cur = some (a, c, dd) ∧ u = .ref a ∧ ¬ Lv m dd ∧ H dd = some (.xd [(("value" : Str), w)]) ∧ DV K (Lv m) H d w
structure Sim (K : PySem.W.Frag) (m : Mp) (S : Sto) (H : Hp) : Prop where
  len : m.l.length = S.length
  inj : ∀ (i j : Nat) a, m.l[i]? = some (some a) → m.l[j]? = some (some a) → i = j
  dead : ∀ i : Nat, S[i]? = some none → m.l[i]? = some none
  hid : ∀ a ∈ m.hd, some a ∉ m.l ∧ H a ≠ none
  live : ∀ (i : Nat) l, S[i]? = some (some l) → ∃ a vs, m.l[i]? = some (some a) ∧ H a = some (.lst vs) ∧ DVs K (Lv m) H l vs
structure Ext (m : Mp) (H : Hp) (m' : Mp) (H' : Hp) : Prop where
  keep : Kp (Lv m) H (Lv m') H'
  hd : ∀ a ∈ m.hd, a ∈ m'.hd
  hid : ∀ a ∈ m.hd, H' a = H a
  refs : ∀ (i : Nat) a, m.l[i]? = some (some a) → m'.l[i]? = some (some a) ∨ m'.l[i]? = some none
  dead : ∀ i : Nat, m.l[i]? = some none → m'.l[i]? = some none
theorem Ext.refl {m : Mp} {H : Hp} : Ext m H m H := ⟨Kp.refl, fun _ h => h, fun _ _ => rfl, fun _ _ h => .inl h, fun _ h => h⟩
theorem Ext.trans {m m1 m2 : Mp} {H H1 H2 : Hp} (h : Ext m H m1 H1) (h' : Ext m1 H1 m2 H2) : Ext m H m2 H2 := by
  refine ⟨h.keep.trans h'.keep, fun a ha => h'.hd a (h.hd a ha), fun a ha => (h'.hid a (h.hd a ha)).trans (h.hid a ha), fun i a e => ?_, fun i e => h'.dead i (h.dead i e)⟩
  rcases h.refs i a e with e1 | e1
  · exact h'.refs i a e1
  · exact .inr (h'.dead i e1)
section
variable {K : PySem.W.Frag} {cur : Cur} {m m' : Mp} {H H' : Hp}
theorem RV.ext (x : Ext m H m' H') : ∀ {r : R} {v : V}, RV K cur m H r v → RV K cur m' H' r v
  | .v d, v, h => DV.keep x.keep d v h
  | .r i, v, h => by
    obtain ⟨a, e, q⟩ := h
    refine ⟨a, e, ?_⟩
    rcases q with q | q
    · exact x.refs i a q
    · exact .inr (x.dead i q)
  | .s l, v, h => by
    obtain ⟨a, e, q⟩ := h
    refine ⟨a, e, ?_⟩
    rcases q with ⟨n, q⟩ | q
    · exact .inl (x.keep.rd n q)
    · exact .inr q
  | .x c d, v, h => by
    obtain ⟨a, dd, w, e1, e2, n, e3, q⟩ := h
    obtain ⟨n', e3'⟩ := x.keep dd _ n e3
    exact ⟨a, dd, w, e1, e2, n', e3', DV.keep x.keep d w q⟩
end
abbrev Rho := List (Option R)
structure LV (K : PySem.W.Frag) (cur : Cur) (m : Mp) (H : Hp) (ρ : Rho) (σ : L2.St) : Prop where
  len : ρ.length = σ.length
  at_ : ∀ (i : Nat) r, ρ[i]? = some (some r) → ∃ v, σ[i]? = some (some v) ∧ RV K cur m H r v
theorem LV.ext {K : PySem.W.Frag} {cur : Cur} {m m' : Mp} {H H' : Hp} {ρ : Rho} {σ : L2.St} (h : LV K cur m H ρ σ) (x : Ext m H m' H') : LV K cur m' H' ρ σ :=
  ⟨h.len, fun i r e => let ⟨v, e1, q⟩ := h.at_ i r e; ⟨v, e1, q.ext x⟩⟩
theorem LV.set {K : PySem.W.Frag} {cur : Cur} {m : Mp} {H : Hp} {ρ : Rho} {σ : L2.St} {r : R} {v : V} (h : LV K cur m H ρ σ) (i : Nat) (q : RV K cur m H r v) : LV K cur m H (ρ.set i (some r)) (σ.set i (some v)) := by
  refine ⟨by simp [h.len], fun j x e => ?_⟩
  by_cases hj : i = j
  · subst hj
    by_cases hi : i < ρ.length
    · rw [List.getElem?_set_self hi] at e
      cases e
      exact ⟨v, List.getElem?_set_self (by rw [← h.len]; exact hi), q⟩
    · rw [List.getElem?_eq_none (by simpa using hi)] at e
      cases e
  · rw [List.getElem?_set_ne hj] at e
    obtain ⟨w, e1, e2⟩ := h.at_ j x e
    exact ⟨w, by rw [List.getElem?_set_ne hj]; exact e1, e2⟩
/-- what an evaluation comes to -/
inductive Res (α : Type) where
  | ok (a : α) (S : Sto) | ex (c : Str) (d : D) (S : Sto) | no
def Res.bind {α β : Type} (x : Res α) (f : α → Sto → Res β) : Res β := match x with
  | .ok a S => f a S
  | .ex c d S => .ex c d S
  | .no => .no
@[simp] theorem Res.bind_ok {α β : Type} {a : α} {S : Sto} {f : α → Sto → Res β} : (Res.ok a S).bind f = f a S := rfl
@[simp] theorem Res.bind_ex {α β : Type} {c : Str} {d : D} {S : Sto} {f : α → Sto → Res β} : (Res.ex c d S : Res α).bind f = .ex c d S := rfl
@[simp] theorem Res.bind_no {α β : Type} {f : α → Sto → Res β} : (Res.no : Res α).bind f = .no := rfl
def RVs (K : PySem.W.Frag) (cur : Cur) (m : Mp) (H : Hp) : List R → List V → Prop := Paired (RV K cur m H)
theorem RVs.ext {K : PySem.W.Frag} {cur : Cur} {m m' : Mp} {H H' : Hp} {rs : List R} {vs : List V} (h : RVs K cur m H rs vs) (x : Ext m H m' H') : RVs K cur m' H' rs vs := Paired.mapP h fun _ _ q => q.ext x

/-! ### steps of the store -/
section
variable {K : PySem.W.Frag} {m : Mp} {S : Sto} {H : Hp}
theorem Sim.at_ (s : Sim K m S H) {i : Nat} {l : List D} {a : Addr} (e : S[i]? = some (some l)) (q : m.l[i]? = some (some a) ∨ m.l[i]? = some none) : m.l[i]? = some (some a) ∧ ∃ vs, H a = some (.lst vs) ∧ DVs K (Lv m) H l vs := by
  obtain ⟨b, vs, e1, e2, e3⟩ := s.live i l e
  rcases q with q | q
  · rw [e1] at q
    cases q
    exact ⟨e1, vs, e2, e3⟩
  · rw [e1] at q
    cases q
theorem Sim.lst (s : Sim K m S H) {a : Addr} (h : some a ∈ m.l) : ∃ vs, H a = some (.lst vs) := by
  obtain ⟨i, hi, e⟩ := List.getElem_of_mem h
  have e0 : m.l[i]? = some (some a) := by rw [List.getElem?_eq_getElem hi, e]
  have hS : i < S.length := by rw [← s.len]; exact hi
  cases q : S[i] with
  | none =>
    have := s.dead i (by rw [List.getElem?_eq_getElem hS, q])
    rw [e0] at this
    cases this
  | some l =>
    obtain ⟨b, vs, e1, e2, _⟩ := s.live i l (by rw [List.getElem?_eq_getElem hS, q])
    rw [e0] at e1
    cases e1
    exact ⟨vs, e2⟩
theorem Sim.fresh (s : Sim K m S H) {p : Addr} (h : H p = none) : ¬ Lv m p := fun z => by
  rcases z with z | z
  · obtain ⟨vs, e⟩ := s.lst z
    rw [h] at e
    cases e
  · exact (s.hid p z).2 h
/-- a new object that is not a mutable list -/
theorem Ext.new (s : Sim K m S H) {p : Addr} {o : HO} (h : H p = none) : Ext m H m (upd H p o) :=
  ⟨fun a u n e => ⟨n, by rw [upd_ne (ne_of_none e h)]; exact e⟩, fun _ h => h, fun a ha => upd_ne fun z => (s.hid a ha).2 (z ▸ h), fun _ _ h => .inl h, fun _ h => h⟩
theorem Sim.ext (s : Sim K m S H) {H' : Hp} (x : Ext m H m H') (k : ∀ a vs, some a ∈ m.l → H a = some (.lst vs) → H' a = some (.lst vs)) : Sim K m S H' :=
  ⟨s.len, s.inj, s.dead, fun a ha => ⟨(s.hid a ha).1, by rw [x.hid a ha]; exact (s.hid a ha).2⟩, fun i l e => by
    obtain ⟨a, vs, e1, e2, e3⟩ := s.live i l e
    exact ⟨a, vs, e1, k a vs (List.mem_of_getElem? e1) e2, DVs.keep x.keep l vs e3⟩⟩
theorem Sim.new (s : Sim K m S H) {p : Addr} {o : HO} (h : H p = none) : Sim K m S (upd H p o) :=
  s.ext (.new s h) fun a vs z e => by rw [upd_ne (ne_of_none e h)]; exact e
/-- a new mutable list -/
theorem lv_snoc {a p : Addr} : Lv (m.snoc p) a ↔ Lv m a ∨ a = p := by
  unfold Lv Mp.snoc
  simp only [List.mem_append, List.mem_singleton, Option.some.injEq]
  constructor
  · rintro ((h | h) | h)
    · exact .inl (.inl h)
    · exact .inr h
    · exact .inl (.inr h)
  · rintro ((h | h) | h)
    · exact .inl (.inl h)
    · exact .inr h
    · exact .inl (.inr h)
theorem Ext.newR (s : Sim K m S H) {p : Addr} {o : HO} (h : H p = none) : Ext m H (m.snoc p) (upd H p o) := by
  refine ⟨fun a u n e => ⟨fun z => ?_, by rw [upd_ne (ne_of_none e h)]; exact e⟩, fun _ h => h, fun a ha => upd_ne fun z => (s.hid a ha).2 (z ▸ h), fun i a e => .inl ?_, fun i e => ?_⟩
  · rcases lv_snoc.mp z with z | z
    · exact n z
    · subst z
      rw [h] at e
      cases e
  · show (m.l ++ [some p])[i]? = _
    rw [List.getElem?_append_left (by exact (List.getElem?_eq_some_iff.mp e).1)]
    exact e
  · show (m.l ++ [some p])[i]? = _
    rw [List.getElem?_append_left (by exact (List.getElem?_eq_some_iff.mp e).1)]
    exact e
theorem snoc_get {α : Type} {l : List α} {x y : α} {i : Nat} (h : (l ++ [x])[i]? = some y) : (i < l.length ∧ l[i]? = some y) ∨ (i = l.length ∧ x = y) := by
  by_cases hi : i < l.length
  · rw [List.getElem?_append_left hi] at h
    exact .inl ⟨hi, h⟩
  · rw [List.getElem?_append_right (by omega)] at h
    cases hz : i - l.length with
    | zero =>
      rw [hz] at h
      exact .inr ⟨by omega, Option.some.inj h⟩
    | succ k => rw [hz] at h; simp at h
theorem Sim.newR (s : Sim K m S H) {p : Addr} {l : List D} {vs : List V} (h : H p = none) (q : DVs K (Lv m) H l vs) : Sim K (m.snoc p) (S ++ [some l]) (upd H p (.lst vs)) := by
  have x := Ext.newR (o := .lst vs) s h
  refine ⟨by simp [Mp.snoc, s.len], fun i j a h1 h2 => ?_, fun i e => ?_, fun a ha => ⟨fun z => ?_, ?_⟩, fun i l' e => ?_⟩
  · rcases snoc_get h1 with ⟨_, q1⟩ | ⟨r1, q1⟩
    · rcases snoc_get h2 with ⟨_, q2⟩ | ⟨r2, q2⟩
      · exact s.inj i j a q1 q2
      · cases q2
        exact absurd (.inl (List.mem_of_getElem? q1)) (s.fresh h)
    · cases q1
      rcases snoc_get h2 with ⟨_, q2⟩ | ⟨r2, q2⟩
      · exact absurd (.inl (List.mem_of_getElem? q2)) (s.fresh h)
      · rw [r1, r2]
  · rcases snoc_get e with ⟨hi, q⟩ | ⟨_, q⟩
    · show (m.l ++ [some p])[i]? = _
      rw [List.getElem?_append_left (by rw [s.len]; exact hi)]
      exact s.dead i q
    · cases q
  · rcases List.mem_append.mp (show some a ∈ m.l ++ [some p] from z) with z | z
    · exact (s.hid a ha).1 z
    · have : a = p := by simpa using z
      subst this
      exact (s.hid a ha).2 h
  · rw [x.hid a ha]
    exact (s.hid a ha).2
  · rcases snoc_get e with ⟨hi, q'⟩ | ⟨hi, q'⟩
    · obtain ⟨a, us, e1, e2, e3⟩ := s.live i l' q'
      refine ⟨a, us, ?_, ?_, DVs.keep x.keep l' us e3⟩
      · show (m.l ++ [some p])[i]? = _
        rw [List.getElem?_append_left (by rw [s.len]; exact hi)]
        exact e1
      · rw [upd_ne (ne_of_none e2 h)]
        exact e2
    · cases q'
      subst hi
      refine ⟨p, vs, ?_, upd_same, DVs.keep x.keep _ _ q⟩
      show (m.l ++ [some p])[S.length]? = _
      rw [List.getElem?_append_right (by rw [s.len]; omega), s.len]
      simp
/-- a mutable list is let be: from now on it is data -/
theorem lv_clr {i : Nat} {a : Addr} (h : Lv (m.clr i) a) : Lv m a := by
  rcases h with h | h
  · rcases List.mem_or_eq_of_mem_set (show some a ∈ m.l.set i none from h) with h | h
    · exact .inl h
    · cases h
  · exact .inr h
theorem set_get {α : Type} {l : List α} {x y : α} {i j : Nat} (h : (l.set i x)[j]? = some y) : (i = j ∧ x = y ∧ j < l.length) ∨ (i ≠ j ∧ l[j]? = some y) := by
  by_cases hj : i = j
  · subst hj
    by_cases hl : i < l.length
    · rw [List.getElem?_set_self hl] at h
      exact .inl ⟨rfl, Option.some.inj h, hl⟩
    · rw [List.getElem?_eq_none (by simpa using hl)] at h
      cases h
  · rw [List.getElem?_set_ne hj] at h
    exact .inr ⟨hj, h⟩
theorem Ext.freeze {i : Nat} : Ext m H (m.clr i) H := by
  refine ⟨fun a o n e => ⟨fun z => n (lv_clr z), e⟩, fun _ h => h, fun _ _ => rfl, fun j a e => ?_, fun j e => ?_⟩
  · show (m.l.set i none)[j]? = _ ∨ (m.l.set i none)[j]? = _
    by_cases hj : i = j
    · subst hj
      exact .inr (List.getElem?_set_self (List.getElem?_eq_some_iff.mp e).1)
    · rw [List.getElem?_set_ne hj]
      exact .inl e
  · show (m.l.set i none)[j]? = _
    by_cases hj : i = j
    · subst hj
      exact List.getElem?_set_self (List.getElem?_eq_some_iff.mp e).1
    · rw [List.getElem?_set_ne hj]
      exact e
theorem Sim.freeze (s : Sim K m S H) {i : Nat} : Sim K (m.clr i) (S.set i none) H := by
  have x : Ext m H (m.clr i) H := Ext.freeze
  refine ⟨by simp [Mp.clr, s.len], fun j k a h1 h2 => ?_, fun j e => ?_, fun a ha => ⟨fun z => ?_, (s.hid a ha).2⟩, fun j l e => ?_⟩
  · rcases set_get h1 with ⟨_, h1, _⟩ | ⟨_, h1⟩
    · cases h1
    · rcases set_get h2 with ⟨_, h2, _⟩ | ⟨_, h2⟩
      · cases h2
      · exact s.inj j k a h1 h2
  · show (m.l.set i none)[j]? = _
    rcases set_get e with ⟨rfl, _, hl⟩ | ⟨hj, e⟩
    · exact List.getElem?_set_self (by rw [s.len]; exact hl)
    · rw [List.getElem?_set_ne hj]
      exact s.dead j e
  · rcases List.mem_or_eq_of_mem_set (show some a ∈ m.l.set i none from z) with z | z
    · exact (s.hid a ha).1 z
    · cases z
  · rcases set_get e with ⟨rfl, e, _⟩ | ⟨hj, e⟩
    · cases e
    · obtain ⟨a, vs, e1, e2, e3⟩ := s.live j l e
      exact ⟨a, vs, by show (m.l.set i none)[j]? = _; rw [List.getElem?_set_ne hj]; exact e1, e2, DVs.keep x.keep l vs e3⟩
theorem frozen_dv (s : Sim K m S H) {i : Nat} {l : List D} {a : Addr} (e : S[i]? = some (some l)) (q : m.l[i]? = some (some a) ∨ m.l[i]? = some none) : DV K (Lv (m.clr i)) H (.list l) (.ref a) := by
  obtain ⟨e1, vs, e2, e3⟩ := s.at_ e q
  have x : Ext m H (m.clr i) H := Ext.freeze
  refine dv_lst (fun z => ?_) e2 (DVs.keep x.keep l vs e3)
  rcases z with z | z
  · obtain ⟨j, hj, ej⟩ := List.getElem_of_mem z
    have ej' : (m.l.set i none)[j]? = some (some a) := by rw [← ej]; exact List.getElem?_eq_getElem hj
    rcases set_get ej' with ⟨_, h, _⟩ | ⟨hij, h⟩
    · cases h
    · exact hij (s.inj i j a e1 h)
  · exact (s.hid a z).1 (List.mem_of_getElem? e1)
/-- a mutable list is written -/
theorem Ext.write (s : Sim K m S H) {i : Nat} {a : Addr} {o : HO} (e : m.l[i]? = some (some a)) : Ext m H m (upd H a o) :=
  ⟨fun b u n e' => ⟨n, by
    rw [upd_ne]
    · exact e'
    · intro z
      subst z
      exact n (.inl (List.mem_of_getElem? e))⟩, fun _ h => h, fun b hb => upd_ne fun z => (s.hid b hb).1 (z ▸ List.mem_of_getElem? e), fun _ _ h => .inl h, fun _ h => h⟩
theorem Sim.write (s : Sim K m S H) {i : Nat} {a : Addr} {l : List D} {vs : List V} (e : m.l[i]? = some (some a)) (q : DVs K (Lv m) H l vs) : Sim K m (S.set i (some l)) (upd H a (.lst vs)) := by
  have x : Ext m H m (upd H a (.lst vs)) := Ext.write s e
  refine ⟨by simp [s.len], s.inj, fun j e' => ?_, fun b hb => ⟨(s.hid b hb).1, by rw [x.hid b hb]; exact (s.hid b hb).2⟩, fun j l' e' => ?_⟩
  · rcases set_get e' with ⟨_, e', _⟩ | ⟨_, e'⟩
    · cases e'
    · exact s.dead j e'
  · rcases set_get e' with ⟨rfl, e', _⟩ | ⟨hj, e'⟩
    · cases e'
      exact ⟨a, vs, e, upd_same, DVs.keep x.keep _ _ q⟩
    · obtain ⟨b, us, e1, e2, e3⟩ := s.live j l' e'
      refine ⟨b, us, e1, ?_, DVs.keep x.keep _ _ e3⟩
      rw [upd_ne]
      · exact e2
      · intro z
        subst z
        exact hj (s.inj i j b e e1)
/-- back at a call's end: the lists that were made in it are forgotten -/
theorem Ext.cut {m m' : Mp} {H H' : Hp} (x : Ext m H m' H') : Ext m H (m'.cut m.l.length) H' := by
  have hz : ∀ (i : Nat) o, m.l[i]? = some o → i < m.l.length := fun i o e => (List.getElem?_eq_some_iff.mp e).1
  refine ⟨fun a o n e => ?_, x.hd, x.hid, fun i a e => ?_, fun i e => ?_⟩
  · obtain ⟨n', e'⟩ := x.keep a o n e
    refine ⟨fun z => n' ?_, e'⟩
    rcases z with z | z
    · exact .inl (List.mem_of_mem_take z)
    · exact .inr z
  · show (m'.l.take _)[i]? = _ ∨ (m'.l.take _)[i]? = _
    rw [List.getElem?_take_of_lt (hz _ _ e)]
    exact x.refs i a e
  · show (m'.l.take _)[i]? = _
    rw [List.getElem?_take_of_lt (hz _ _ e)]
    exact x.dead i e
theorem Kp.cut {m : Mp} {H : Hp} {n : Nat} : Kp (Lv m) H (Lv (m.cut n)) H := fun a o h e => ⟨fun z => h (by
  rcases z with z | z
  · exact .inl (List.mem_of_mem_take z)
  · exact .inr z), e⟩
theorem take_get {α : Type} {l : List α} {n i : Nat} {y : α} (h : (l.take n)[i]? = some y) : i < n ∧ l[i]? = some y := by
  by_cases hk : i < n
  · rw [List.getElem?_take_of_lt hk] at h
    exact ⟨hk, h⟩
  · rw [List.getElem?_eq_none (by simp; omega)] at h
    cases h
theorem Sim.cut (s : Sim K m S H) (n : Nat) : Sim K (m.cut n) (S.take n) H := by
  refine ⟨by simp [Mp.cut, s.len], fun i j a h1 h2 => s.inj i j a (take_get h1).2 (take_get h2).2, fun i e => ?_, fun a ha => ⟨fun z => (s.hid a ha).1 (List.mem_of_mem_take z), (s.hid a ha).2⟩, fun i l e => ?_⟩
  · obtain ⟨hk, e⟩ := take_get e
    show (m.l.take n)[i]? = _
    rw [List.getElem?_take_of_lt hk]
    exact s.dead i e
  · obtain ⟨hk, e⟩ := take_get e
    obtain ⟨a, vs, e1, e2, e3⟩ := s.live i l e
    exact ⟨a, vs, by show (m.l.take n)[i]? = _; rw [List.getElem?_take_of_lt hk]; exact e1, e2, DVs.keep Kp.cut l vs e3⟩
/-- a list that is being made -/
def Mp.hide (m : Mp) (p : Addr) : Mp := ⟨m.l, p :: m.hd⟩
theorem lv_hide {a p : Addr} : Lv (m.hide p) a ↔ Lv m a ∨ a = p := by
  unfold Lv Mp.hide
  simp only [List.mem_cons]
  constructor
  · rintro (h | h | h)
    · exact .inl (.inl h)
    · exact .inr h
    · exact .inl (.inr h)
  · rintro ((h | h) | h)
    · exact .inl h
    · exact .inr (.inr h)
    · exact .inr (.inl h)
theorem Kp.hide (s : Sim K m S H) {p : Addr} {o : HO} (h : H p = none) : Kp (Lv m) H (Lv (m.hide p)) (upd H p o) := fun a u n e => ⟨fun z => (lv_hide.mp z).elim n fun z => ne_of_none e h z, by rw [upd_ne (ne_of_none e h)]; exact e⟩
theorem Sim.hide (s : Sim K m S H) {p : Addr} {o : HO} (h : H p = none) : Sim K (m.hide p) S (upd H p o) := by
  have k := Kp.hide (o := o) s h
  refine ⟨s.len, s.inj, s.dead, fun a ha => ?_, fun i l e => ?_⟩
  · rcases List.mem_cons.mp (show a ∈ p :: m.hd from ha) with z | z
    · subst z
      exact ⟨fun y => s.fresh h (.inl y), by rw [upd_same]; simp⟩
    · refine ⟨(s.hid a z).1, ?_⟩
      rw [upd_ne (fun y => (s.hid a z).2 (by rw [y]; exact h))]
      exact (s.hid a z).2
  · obtain ⟨a, vs, e1, e2, e3⟩ := s.live i l e
    exact ⟨a, vs, e1, by rw [upd_ne (ne_of_none e2 h)]; exact e2, DVs.keep k l vs e3⟩
/-- the list that is being made grows -/
theorem Kp.grow {p : Addr} {o : HO} (hp : Lv m p) : Kp (Lv m) H (Lv m) (upd H p o) := fun a u n e => ⟨n, by rw [upd_ne (fun z => n (by rw [z]; exact hp))]; exact e⟩
theorem Sim.grow (s : Sim K m S H) {p : Addr} {o : HO} (hp : p ∈ m.hd) : Sim K m S (upd H p o) := by
  refine ⟨s.len, s.inj, s.dead, fun a ha => ⟨(s.hid a ha).1, ?_⟩, fun i l e => ?_⟩
  · by_cases z : a = p
    · subst z
      rw [upd_same]
      simp
    · rw [upd_ne z]
      exact (s.hid a ha).2
  · obtain ⟨a, vs, e1, e2, e3⟩ := s.live i l e
    exact ⟨a, vs, e1, by rw [upd_ne (fun z => (s.hid p hp).1 (by rw [← z]; exact List.mem_of_getElem? e1))]; exact e2, DVs.keep (Kp.grow (.inr hp)) l vs e3⟩
end
end EV

set_option Elab.async false
set_option linter.all false
set_option maxRecDepth 100000
set_option maxHeartbeats 4000000
/-! EV, part 2: the compact syntax and its evaluator. -/
namespace EV
open PySem PySem.Spec PyProof.Rows L2

/-! ### the compact syntax -/
mutual
inductive Pt where
  | nm (i : Nat) | tp (ps : Pts)
inductive Pts where
  | nil | cons (p : Pt) (ps : Pts)
end
mutual
inductive Ex where
  /-- a slot; a module's constant; a literal -/
  | loc (i : Nat) | gl (x : Str) | lit (d : D)
  | op (o : Operator) (a b : Ex) | neg (a : Ex) | not (a : Ex)
  | cmp (o : CmpOp) (a b : Ex) | chain (o o2 : CmpOp) (a b c : Ex)
  | bop (o : BoolOp) (es : Exs) | ite (c a b : Ex)
  | tup (es : Exs) | lst (mu : Bool) (es : Exs)
  | ix (a i : Ex) | slc (a : Ex) (lo hi : Exo) | rev (a : Ex)
  | call (f : Str) (es : Exs) (ks : List Str) (kes : Exs)
  | bi (b : String) (es : Exs)
  | isi (a : Ex) (tup : Bool) (tys : List String)
  | mth (m : String) (o : Ex) (es : Exs)
  | lc (mu : Bool) (own : List (Str × Nat)) (p : Pt) (it : Itx) (c : Exo) (e : Ex)
  | gix (x : Str) (i : Ex) | dix (ks : List Key) (vs : Exs) (i : Ex)
  | fld (a : Ex) (f : Str)
inductive Exs where
  | nil | cons (e : Ex) (es : Exs)
inductive Exo where
  | no | so (e : Ex)
inductive Itx where
  | seq (e : Ex) | rng1 (a : Ex) | rng2 (a b : Ex) | enum (e : Ex) | zip (a b : Ex)
end
mutual
inductive T where
  | asg (p : Pt) (e : Ex)
  | par2 (i j : Nat) (a b : Ex)
  | par3 (i j k : Nat) (a b c : Ex)
  | set (o i e : Ex)
  | aug (i : Nat) (o : Operator) (e : Ex)
  | ex (e : Ex)
  | iff (c : Ex) (a b : Ts)
  | for_ (p : Pt) (it : Itx) (b : Ts)
  | wh (c : Ex) (b : Ts)
  | ret (e : Ex) | retN
  | rai (c : Str) (e : Ex)
  | try_ (b : Ts) (hs : Hs)
  | pas | brk | cnt
  | frz (i : Nat)
inductive Ts where
  | nil | cons (t : T) (ts : Ts)
inductive Hs where
  | nil | cons (c : Str) (nm : Option Nat) (b : Ts) (hs : Hs)
end
/-- a def: parameters, slots, body; does it hand back a mutable list; the forms (positional values, keywords) in which it is called -/
structure Df where
  ps : List Str
  N : List Str
  body : Ts
  mu : Bool
  forms : List (Nat × List Str)
/-- a program: its defs, the module's constants and dicts, which exception class is caught by which name -/
structure Pg where
  defs : List (Str × Df)
  glob : List (Str × D)
  dict : List (Str × List (Int × D))
  subs : List (Str × List Str)
  /-- the built-in functions that are used; the names that are imported, of which built-in functions -/
  bis : List Str
  imps : List (Str × String)

/-! ### operations on data -/
def mulOk (a b : Int) : Bool := decide (a.natAbs.log2 + b.natAbs.log2 < 134000000)
/-- a // b goes by the machine's own road -/
def divOk (a b : Int) : Bool := decide (b ≠ 0) && (decide (b.natAbs.log2 < 9000) || decide (a.natAbs.log2 < b.natAbs.log2 + 4400))
def opD : Operator → D → D → Option D
  | .Add, .int a, .int b => some (.int (a + b))
  | .Sub, .int a, .int b => some (.int (a - b))
  | .Mult, .int a, .int b => if mulOk a b then some (.int (a * b)) else none
  | .FloorDiv, .int a, .int b => if divOk a b then some (.int (a.fdiv b)) else none
  | .Mod, .int a, .int b => if b ≠ 0 then some (.int (a.fmod b)) else none
  | .Pow, .int a, .int b => if 0 ≤ b ∧ ((Builtin.Int.intBits a : Nat) : Int) * b ≤ 2 ^ 27 then some (.int (a ^ b.toNat)) else none
  | .Add, .str a, .str b => if a.length + b.length ≤ sizeLine then some (.str (a ++ b)) else none
  | .Add, .tuple a, .tuple b => if a ≠ [] ∧ a.length + b.length ≤ sizeLine then some (.tuple (a ++ b)) else none
  | .Add, .list a, .list b => if a.length + b.length ≤ sizeLine then some (.list (a ++ b)) else none
  | .Mult, .list a, .int k => if -(2 ^ 63) ≤ k ∧ k < 2 ^ 63 ∧ a.length * k.toNat ≤ sizeLine then some (.list (List.replicate k.toNat a).flatten) else none
  | _, _, _ => none
def truthD : D → Option Bool
  | .none => some false
  | .bool b => some b
  | .int i => some (i != 0)
  | .str s => if s.length ≤ sizeLine then some ((s.length : Int) != 0) else none
  | .tuple ds => some (!ds.isEmpty)
  | .list ds => some (!ds.isEmpty)
  | _ => none
def flatD : D → Bool
  | .none | .bool _ | .int _ | .str _ => true
  | _ => false
def isNoneD : D → Bool
  | .none => true
  | _ => false
def cmpD : CmpOp → D → D → Option Bool
  | .Lt, .int a, .int b => some (decide (a < b))
  | .LtE, .int a, .int b => some (decide (a ≤ b))
  | .Gt, .int a, .int b => some (decide (b < a))
  | .GtE, .int a, .int b => some (decide (b ≤ a))
  | .Eq, a, b => if SeqAt.shaped a = true ∧ SeqAt.shaped b = true then some (PyData.eqv a b) else none
  | .NotEq, a, b => if SeqAt.shaped a = true ∧ SeqAt.shaped b = true then some (!PyData.eqv a b) else none
  | .Is, a, .none => some (isNoneD a)
  | .IsNot, a, .none => some (!isNoneD a)
  | .Is, .bool a, .bool b => some (decide (a = b))
  | .In, a, .tuple bs => if flatD a = true ∧ bs.all flatD = true then some (bs.any fun b => PyData.eqv b a) else none
  | .NotIn, a, .tuple bs => if flatD a = true ∧ bs.all flatD = true then some (!bs.any fun b => PyData.eqv b a) else none
  | .In, a, .list bs => if flatD a = true ∧ bs.all flatD = true then some (bs.any fun b => PyData.eqv b a) else none
  | .NotIn, a, .list bs => if flatD a = true ∧ bs.all flatD = true then some (!bs.any fun b => PyData.eqv b a) else none
  | _, _, _ => none
def tyD : D → Option String
  | .none => some "NoneType"
  | .bool _ => some "bool"
  | .int _ => some "int"
  | .str _ => some "str"
  | .tuple _ => some "tuple"
  | .list _ => some "list"
  | .dict _ => none
def isiB (t a : String) : Bool := t == a || (t == "bool" && a == "int")
def isiD (t : String) (tys : List String) : Option Bool := if tys.all (fun a => ["int", "bool", "str", "tuple", "list"].contains a) = true then some (tys.any (isiB t)) else none

/-! ### values of expressions -/
/-- a value as data: a mutable list is let be -/
def toD (S : Sto) : R → Option (D × Sto)
  | .v d => some (d, S)
  | .r i => match S[i]? with
    | some (some l) => some (.list l, S.set i none)
    | _ => none
  | _ => none
def toDs : List R → Sto → Option (List D × Sto)
  | [], S => some ([], S)
  | r :: rs, S => match toD S r with
    | some (d, S1) => match toDs rs S1 with
      | some (ds, S2) => some (d :: ds, S2)
      | none => none
    | none => none
/-- a value as it may be read -/
def rdD (S : Sto) : R → Option D
  | .v d => some d
  | .r i => match S[i]? with
    | some (some l) => some (.list l)
    | _ => none
  | .s l => some (.list (l.map .int))
  | _ => none
def resD (S : Sto) : Option D → Res R
  | some d => .ok (.v d) S
  | none => .no
def resB (S : Sto) : Option Bool → Res Bool
  | some d => .ok d S
  | none => .no
/-- a new list -/
def newL (mu : Bool) (l : List D) (S : Sto) : Res R := if l.length ≤ sizeLine then (if mu then .ok (.r S.length) (S ++ [some l]) else .ok (.v (.list l)) S) else .no
def truthR (r : R) (S : Sto) : Res Bool := match rdD S r with
  | some d => resB S (truthD d)
  | none => .no
def rdX (S : Sto) : R → Option D
  | .v d => some d
  | .r i => match S[i]? with
    | some (some l) => some (.list l)
    | _ => none
  | _ => none
def opR (o : Operator) (x y : R) (S : Sto) : Res R := match rdX S x, rdX S y with
  | some a, some b => resD S (opD o a b)
  | _, _ => .no
def cmpR (o : CmpOp) (x y : R) (S : Sto) : Res R := match rdD S x, rdD S y with
  | some a, some b => match cmpD o a b with
    | some k => .ok (.v (.bool k)) S
    | none => .no
  | _, _ => .no
def ixR (x y : R) (S : Sto) : Res R := match rdD S x, y with
  | some (.tuple ds), .v (.int i) => resD S (atI ds i)
  | some (.list ds), .v (.int i) => resD S (atI ds i)
  | some (.str s), .v (.int i) => if s.length ≤ sizeLine then (match atI s.cps.toList i with
    | some c => .ok (.v (.str ⟨#[c]⟩)) S
    | none => .no) else .no
  | _, _ => .no
def cutD (ds : List D) (lo hi : Option Int) : List D := (ds.drop (HT.sIx ds.length 0 lo)).take (HT.sIx ds.length ds.length hi - HT.sIx ds.length 0 lo)
def slcR (x : R) (lo hi : Option Int) (S : Sto) : Res R := match rdD S x with
  | some (.tuple ds) => if ¬ (HT.sIx ds.length 0 lo = 0 ∧ HT.sIx ds.length ds.length hi = ds.length) then .ok (.v (.tuple (cutD ds lo hi))) S else .no
  | some (.list ds) => .ok (.v (.list (cutD ds lo hi))) S
  | _ => .no
def revR (x : R) (S : Sto) : Res R := match rdD S x with
  | some (.list ds) => .ok (.v (.list ds.reverse)) S
  | _ => .no
def boolsOf : List D → Option (List Bool)
  | [] => some []
  | .bool b :: r => (boolsOf r).map (b :: ·)
  | _ => none
def intsOf : List D → Option (List Int)
  | [] => some []
  | .int b :: r => (intsOf r).map (b :: ·)
  | _ => none
def maxI : List Int → Int
  | [] => 0
  | [i] => i
  | i :: r => max i (maxI r)
def minI : List Int → Int
  | [] => 0
  | [i] => i
  | i :: r => min i (minI r)
/-- a built-in function of the values -/
def biNm (b : String) : String := if b = "mlist" then "list" else b
def biR (b : String) (rs : List R) (S : Sto) : Res R := match b, rs with
  | "len", [x] => match rdD S x with
    | some (.tuple ds) => .ok (.v (.int ds.length)) S
    | some (.list ds) => .ok (.v (.int ds.length)) S
    | some (.str s) => if s.length ≤ sizeLine then .ok (.v (.int s.length)) S else .no
    | _ => .no
  | "abs", [.v (.int i)] => .ok (.v (.int (if i < 0 then -i else i))) S
  | "max", [.v (.int i), .v (.int j)] => .ok (.v (.int (if j > i then j else i))) S
  | "min", [.v (.int i), .v (.int j)] => .ok (.v (.int (if j < i then j else i))) S
  | "int", [.v (.int i)] => .ok (.v (.int i)) S
  | "int", [.v (.bool k)] => .ok (.v (.int (if k then 1 else 0))) S
  | "gcd", [.v (.int i), .v (.int j)] => .ok (.v (.int (Nat.gcd i.natAbs j.natAbs : Nat))) S
  | "max", [x] => match rdD S x with
    | some (.list ds) => match intsOf ds with
      | some is => if is ≠ [] then .ok (.v (.int (maxI is))) S else .no
      | none => .no
    | _ => .no
  | "min", [x] => match rdD S x with
    | some (.list ds) => match intsOf ds with
      | some is => if is ≠ [] then .ok (.v (.int (minI is))) S else .no
      | none => .no
    | _ => .no
  | "isqrt", [.v (.int i)] => if 0 ≤ i ∧ i.toNat.log2 < 13400 then .ok (.v (.int (Float64.isqrt i.toNat : Nat))) S else .no
  | "sum", [x] => match rdD S x with
    | some (.list ds) => match intsOf ds with
      | some is => .ok (.v (.int is.sum)) S
      | none => .no
    | _ => .no
  | "list", [x] => match rdD S x with
    | some (.tuple ds) => .ok (.v (.list ds)) S
    | some (.list ds) => .ok (.v (.list ds)) S
    | _ => .no
  | "mlist", [x] => match rdD S x with
    | some (.tuple ds) => .ok (.r S.length) (S ++ [some ds])
    | some (.list ds) => .ok (.r S.length) (S ++ [some ds])
    | _ => .no
  | "all", [x] => match rdD S x with
    | some (.list ds) => match boolsOf ds with
      | some bs => .ok (.v (.bool (bs.all id))) S
      | none => .no
    | _ => .no
  | "any", [x] => match rdD S x with
    | some (.list ds) => match boolsOf ds with
      | some bs => .ok (.v (.bool (bs.any id))) S
      | none => .no
    | _ => .no
  | "tuple", [x] => match rdD S x with
    | some (.tuple ds) => .ok (.v (.tuple ds)) S
    | some (.list ds) => .ok (.v (.tuple ds)) S
    | _ => .no
  | _, _ => .no
/-- a method of the values -/
def mthR (m : String) (o : R) (rs : List R) (S : Sto) : Res R := match m, o, rs with
  | "list.append", .r i, [x] => match toD S x with
    | some (d, S1) => match S1[i]? with
      | some (some l) => if l.length < sizeLine then .ok (.v .none) (S1.set i (some (l ++ [d]))) else .no
      | _ => .no
    | none => .no
  | "list.pop", .r i, [] => match S[i]? with
    | some (some l) => match l[l.length - 1]? with
      | some d => .ok (.v d) (S.set i (some l.dropLast))
      | none => .no
    | _ => .no
  | "list.insert", .r i, [.v (.int k), x] => match toD S x with
    | some (d, S1) => match S1[i]? with
      | some (some l) => if l.length < sizeLine ∧ 0 ≤ k ∧ k < 2 ^ 63 then .ok (.v .none) (S1.set i (some (l.take k.toNat ++ [d] ++ l.drop k.toNat))) else .no
      | _ => .no
    | none => .no
  | "list.extend", .r i, [x] => match toD S x with
    | some (.list ds, S1) => match S1[i]? with
      | some (some l) => if l.length + ds.length ≤ sizeLine then .ok (.v .none) (S1.set i (some (l ++ ds))) else .no
      | _ => .no
    | _ => .no
  | _, _, _ => .no
/-- methods: the type they are of, their name, how many values they take -/
def mtTab : List (String × String × Str × Nat) := [("list.append", "list", "append", 1), ("list.pop", "list", "pop", 0), ("list.insert", "list", "insert", 2), ("list.extend", "list", "extend", 1)]
def recvOk (m : String) (x : R) (S : Sto) : Bool := match mtTab.lookup m with
  | some (T, _, _) => match rdD S x with
    | some (.list _) => T == "list"
    | some (.str _) => T == "str"
    | _ => false
  | none => false
def goB : BoolOp → Bool
  | .And => true
  | .Or => false
def okR : R → Bool
  | .x _ _ => false
  | _ => true
def arr {α : Type} (ps ks : List Str) (us ws : List α) : List α := us ++ (ps.drop us.length).filterMap fun p => (ks.zip ws).lookup p

/-! ### targets -/
mutual
def bindP : Pt → D → Rho → Option Rho
  | .nm i, d, ρ => some (ρ.set i (some (.v d)))
  | .tp ps, .tuple ds, ρ => bindPs ps ds ρ
  | .tp ps, .list ds, ρ => bindPs ps ds ρ
  | .tp _, _, _ => none
def bindPs : Pts → List D → Rho → Option Rho
  | .nil, [], ρ => some ρ
  | .cons p ps, d :: ds, ρ => match bindP p d ρ with
    | some ρ1 => bindPs ps ds ρ1
    | none => none
  | _, _, _ => none
end
def bindR : Pt → R → Rho → Sto → Option (Rho × Sto)
  | .nm i, r, ρ, S => some (ρ.set i (some r), S)
  | p, r, ρ, S => match toD S r with
    | some (d, S1) => (bindP p d ρ).map (·, S1)
    | none => none
def wipeR (ρ : Rho) : List Nat → Rho
  | [] => ρ
  | v :: vs => (wipeR ρ vs).set v none

/-! ### expressions -/
def enumD (ds : List D) : List D := ds.zipIdx.map fun p => .tuple [.int (p.2 : Nat), p.1]
def zipD (ds es : List D) : List D := (ds.zip es).map fun p => .tuple [p.1, p.2]
def rngD (lo : Int) (n : Nat) : List D := (List.range n).map fun i => .int (lo + (i : Nat))
def lookK : List (L2.Key × D) → L2.Key → Option D
  | [], _ => none
  | p :: r, k => if p.1 = k then some p.2 else lookK r k
/-- a comprehension's turn: its test, its element -/
def lcBody (fC : Rho → Sto → Res Bool) (fE : Rho → Sto → Res R) (ρ : Rho) (S : Sto) : Res (Option D) := match fC ρ S with
  | .ok true S3 => match fE ρ S3 with
    | .ok r S4 => match toD S4 r with
      | some (d, S5) => .ok (some d) S5
      | none => .no
    | _ => .no
  | .ok false S3 => .ok none S3
  | _ => .no
/-- the turns of a comprehension -/
def lcLoop (body : Rho → Sto → Res (Option D)) (p : Pt) (ρ0 : Rho) : List D → List D → Sto → Res (List D)
  | [], acc, S => .ok acc S
  | d :: ds, acc, S => match bindP p d ρ0 with
    | some ρ => match body ρ S with
      | .ok (some x) S1 => if acc.length < sizeLine then lcLoop body p ρ0 ds (acc ++ [x]) S1 else .no
      | .ok none S1 => lcLoop body p ρ0 ds acc S1
      | _ => .no
    | none => .no
variable (G : Pg) (call : Str → List R → Sto → Res R)
mutual
def evE : Ex → Rho → Sto → Res R
  | .loc i, ρ, S => match ρ[i]? with
    | some (some r) => .ok r S
    | _ => .no
  | .gl x, _, S => match G.glob.lookup x with
    | some d => .ok (.v d) S
    | none => .no
  | .lit d, _, S => .ok (.v d) S
  | .op o a b, ρ, S => (evE a ρ S).bind fun x S1 => (evE b ρ S1).bind fun y S2 => opR o x y S2
  | .neg a, ρ, S => (evE a ρ S).bind fun x S1 => match x with
    | .v (.int i) => .ok (.v (.int (-i))) S1
    | _ => .no
  | .not a, ρ, S => (evE a ρ S).bind fun x S1 => (truthR x S1).bind fun k S2 => .ok (.v (.bool (!k))) S2
  | .cmp o a b, ρ, S => (evE a ρ S).bind fun x S1 => (evE b ρ S1).bind fun y S2 => cmpR o x y S2
  | .chain o o2 a b c, ρ, S => (evE a ρ S).bind fun x S1 => (evE b ρ S1).bind fun y S2 => (cmpR o x y S2).bind fun z S3 => match z with
    | .v (.bool true) => (evE c ρ S3).bind fun u S4 => cmpR o2 y u S4
    | .v (.bool false) => .ok (.v (.bool false)) S3
    | _ => .no
  | .bop o es, ρ, S => evB o es ρ S
  | .ite c a b, ρ, S => ((evE c ρ S).bind truthR).bind fun k S1 => if k = true then evE a ρ S1 else evE b ρ S1
  | .tup es, ρ, S => (evEs es ρ S).bind fun rs S1 => match toDs rs S1 with
    | some (ds, S2) => if ds.length ≤ sizeLine then .ok (.v (.tuple ds)) S2 else .no
    | none => .no
  | .lst mu es, ρ, S => (evEs es ρ S).bind fun rs S1 => match toDs rs S1 with
    | some (ds, S2) => newL mu ds S2
    | none => .no
  | .ix a i, ρ, S => (evE a ρ S).bind fun x S1 => (evE i ρ S1).bind fun y S2 => ixR x y S2
  | .slc a lo hi, ρ, S => (evE a ρ S).bind fun x S1 => (evO lo ρ S1).bind fun l S2 => (evO hi ρ S2).bind fun h S3 => slcR x l h S3
  | .rev a, ρ, S => (evE a ρ S).bind fun x S1 => revR x S1
  | .call f es ks kes, ρ, S => (evEs es ρ S).bind fun rs S1 => (evEs kes ρ S1).bind fun zs S2 => match G.defs.lookup f with
    | some df => if (rs.length, ks) ∈ df.forms ∧ zs.length = ks.length ∧ (arr df.ps ks rs zs).all okR = true ∧ (arr df.ps ks rs zs).length = df.ps.length then call f (arr df.ps ks rs zs) S2 else .no
    | none => .no
  | .bi b es, ρ, S => (evEs es ρ S).bind fun rs S1 => biR b rs S1
  | .isi a _ tys, ρ, S => (evE a ρ S).bind fun x S1 => match (rdD S1 x).bind tyD with
    | some t => match isiD t tys with
      | some k => .ok (.v (.bool k)) S1
      | none => .no
    | none => .no
  | .mth m o es, ρ, S => (evE o ρ S).bind fun x S1 => if recvOk m x S1 = true then (evEs es ρ S1).bind fun rs S2 => mthR m x rs S2 else .no
  | .lc mu own p it c e, ρ, S => (evI it ρ S).bind fun ds S1 =>
    (lcLoop (lcBody (evC c) (evE e)) p (wipeR ρ (own.map (·.2))) ds [] S1).bind fun l S4 => newL mu l S4
  | .gix x i, ρ, S => (evE i ρ S).bind fun y S1 => match G.dict.lookup x, y with
    | some kvs, .v (.int k) => resD S1 (kvs.lookup k)
    | _, _ => .no
  | .dix ks vs i, ρ, S => (evEs vs ρ S).bind fun rs S1 => match toDs rs S1 with
    | some (ds, S2) => (evE i ρ S2).bind fun y S3 => match y with
      | .v (.int k) => resD S3 (lookK (ks.zip ds) (.inl k))
      | .v (.str k) => resD S3 (lookK (ks.zip ds) (.inr k))
      | _ => .no
    | none => .no
  | .fld a f, ρ, S => (evE a ρ S).bind fun x S1 => match x with
    | .x _ d => if f = "value" then .ok (.v d) S1 else .no
    | _ => .no
def evEs : Exs → Rho → Sto → Res (List R)
  | .nil, _, S => .ok [] S
  | .cons e es, ρ, S => (evE e ρ S).bind fun r S1 => (evEs es ρ S1).bind fun rs S2 => .ok (r :: rs) S2
def evO : Exo → Rho → Sto → Res (Option Int)
  | .no, _, S => .ok none S
  | .so e, ρ, S => (evE e ρ S).bind fun r S1 => match r with
    | .v (.int i) => .ok (some i) S1
    | _ => .no
def evC : Exo → Rho → Sto → Res Bool
  | .no, _, S => .ok true S
  | .so e, ρ, S => (evE e ρ S).bind truthR
/-- and, or as values -/
def evB : BoolOp → Exs → Rho → Sto → Res R
  | _, .nil, _, _ => .no
  | _, .cons e .nil, ρ, S => evE e ρ S
  | o, .cons e (.cons e2 es), ρ, S => (evE e ρ S).bind fun x S1 => (truthR x S1).bind fun k S2 =>
    if k = goB o then evB o (.cons e2 es) ρ S2 else .ok x S2
def evI : Itx → Rho → Sto → Res (List D)
  | .seq e, ρ, S => (evE e ρ S).bind fun r S1 => match r with
    | .s l => .ok (l.map .int) S1
    | _ => match toD S1 r with
      | some (.tuple ds, S2) => .ok ds S2
      | some (.list ds, S2) => .ok ds S2
      | _ => .no
  | .rng1 a, ρ, S => (evE a ρ S).bind fun r S1 => match r with
    | .v (.int n) => if -(2 ^ 62) ≤ n ∧ n < 2 ^ 62 then .ok (rngD 0 n.toNat) S1 else .no
    | _ => .no
  | .rng2 a b, ρ, S => (evE a ρ S).bind fun r S1 => (evE b ρ S1).bind fun q S2 => match r, q with
    | .v (.int i), .v (.int j) => if -(2 ^ 62) ≤ i ∧ i < 2 ^ 62 ∧ -(2 ^ 62) ≤ j ∧ j < 2 ^ 62 then .ok (rngD i (j - i).toNat) S2 else .no
    | _, _ => .no
  | .enum e, ρ, S => (evE e ρ S).bind fun r S1 => match toD S1 r with
    | some (.list ds, S2) => .ok (enumD ds) S2
    | _ => .no
  | .zip a b, ρ, S => (evE a ρ S).bind fun r S1 => (evE b ρ S1).bind fun q S2 => match toD S2 r with
    | some (d, S3) => match toD S3 q with
      | some (e, S4) => match d, e with
        | .list ds, .list es => .ok (zipD ds es) S4
        | .tuple ds, .tuple es => if ds.length = es.length then .ok (zipD ds es) S4 else .no
        | _, _ => .no
      | none => .no
    | none => .no
end

/-- as a test -/
def evT (e : Ex) (ρ : Rho) (S : Sto) : Res Bool := (evE G call e ρ S).bind truthR

/-! ### statements -/
inductive Fl where
  | nx | rt (r : R) | bk | ct
inductive ResS where
  | ok (f : Fl) (ρ : Rho) (S : Sto) | ex (c : Str) (d : D) (ρ : Rho) (S : Sto) | no
/-- an expression's result within a statement -/
def Res.st {α : Type} (x : Res α) (ρ : Rho) (f : α → Sto → ResS) : ResS := match x with
  | .ok a S => f a S
  | .ex c d S => .ex c d ρ S
  | .no => .no
@[simp] theorem Res.st_ok {α : Type} {a : α} {S : Sto} {ρ : Rho} {f : α → Sto → ResS} : (Res.ok a S).st ρ f = f a S := rfl
@[simp] theorem Res.st_ex {α : Type} {c : Str} {d : D} {S : Sto} {ρ : Rho} {f : α → Sto → ResS} : (Res.ex c d S : Res α).st ρ f = .ex c d ρ S := rfl
@[simp] theorem Res.st_no {α : Type} {ρ : Rho} {f : α → Sto → ResS} : (Res.no : Res α).st ρ f = .no := rfl
def ResS.next (x : ResS) (f : Rho → Sto → ResS) : ResS := match x with
  | .ok .nx ρ S => f ρ S
  | y => y
@[simp] theorem ResS.next_nx {ρ : Rho} {S : Sto} {f : Rho → Sto → ResS} : (ResS.ok .nx ρ S).next f = f ρ S := rfl
@[simp] theorem ResS.next_rt {r : R} {ρ : Rho} {S : Sto} {f : Rho → Sto → ResS} : (ResS.ok (.rt r) ρ S).next f = .ok (.rt r) ρ S := rfl
@[simp] theorem ResS.next_bk {ρ : Rho} {S : Sto} {f : Rho → Sto → ResS} : (ResS.ok .bk ρ S).next f = .ok .bk ρ S := rfl
@[simp] theorem ResS.next_ct {ρ : Rho} {S : Sto} {f : Rho → Sto → ResS} : (ResS.ok .ct ρ S).next f = .ok .ct ρ S := rfl
@[simp] theorem ResS.next_ex {c : Str} {d : D} {ρ : Rho} {S : Sto} {f : Rho → Sto → ResS} : (ResS.ex c d ρ S).next f = .ex c d ρ S := rfl
@[simp] theorem ResS.next_no {f : Rho → Sto → ResS} : ResS.no.next f = .no := rfl
/-- a loop's turn is over -/
def ResS.turn (x : ResS) (f : Rho → Sto → ResS) : ResS := match x with
  | .ok .nx ρ S => f ρ S
  | .ok .ct ρ S => f ρ S
  | .ok .bk ρ S => .ok .nx ρ S
  | y => y
@[simp] theorem ResS.turn_nx {ρ : Rho} {S : Sto} {f : Rho → Sto → ResS} : (ResS.ok .nx ρ S).turn f = f ρ S := rfl
@[simp] theorem ResS.turn_ct {ρ : Rho} {S : Sto} {f : Rho → Sto → ResS} : (ResS.ok .ct ρ S).turn f = f ρ S := rfl
@[simp] theorem ResS.turn_bk {ρ : Rho} {S : Sto} {f : Rho → Sto → ResS} : (ResS.ok .bk ρ S).turn f = .ok .nx ρ S := rfl
@[simp] theorem ResS.turn_rt {r : R} {ρ : Rho} {S : Sto} {f : Rho → Sto → ResS} : (ResS.ok (.rt r) ρ S).turn f = .ok (.rt r) ρ S := rfl
@[simp] theorem ResS.turn_ex {c : Str} {d : D} {ρ : Rho} {S : Sto} {f : Rho → Sto → ResS} : (ResS.ex c d ρ S).turn f = .ex c d ρ S := rfl
@[simp] theorem ResS.turn_no {f : Rho → Sto → ResS} : ResS.no.turn f = .no := rfl
def forL (body : Rho → Sto → ResS) (p : Pt) : List D → Rho → Sto → ResS
  | [], ρ, S => .ok .nx ρ S
  | d :: ds, ρ, S => match bindP p d ρ with
    | some ρ1 => (body ρ1 S).turn fun ρ2 S2 => forL body p ds ρ2 S2
    | none => .no
def whL (test : Rho → Sto → Res Bool) (body : Rho → Sto → ResS) : Nat → Rho → Sto → ResS
  | 0, _, _ => .no
  | n + 1, ρ, S => (test ρ S).st ρ fun k S1 => if k = true then (body ρ S1).turn fun ρ2 S2 => whL test body n ρ2 S2 else .ok .nx ρ S1
/-- no caught exception is left in the slots -/
def scrub (ρ : Rho) : Rho := ρ.map fun r => match r with
  | some (.x _ _) => none
  | y => y
def suiteEnd (nm : Option Nat) : ResS → ResS
  | .ok (.rt (.x _ _)) _ _ => .no
  | .ok f ρ S => .ok f (match nm with | some i => (scrub ρ).set i none | none => scrub ρ) S
  | _ => .no
variable (wl : Nat)
mutual
def evS : T → Rho → Sto → ResS
  | .asg p e, ρ, S => (evE G call e ρ S).st ρ fun r S1 => match bindR p r ρ S1 with
    | some (ρ1, S2) => .ok .nx ρ1 S2
    | none => .no
  | .par2 i j a b, ρ, S => (evE G call a ρ S).st ρ fun x S1 => (evE G call b ρ S1).st ρ fun y S2 => .ok .nx ((ρ.set i (some x)).set j (some y)) S2
  | .par3 i j k a b c, ρ, S => (evE G call a ρ S).st ρ fun x S1 => (evE G call b ρ S1).st ρ fun y S2 => (evE G call c ρ S2).st ρ fun z S3 => .ok .nx (((ρ.set i (some x)).set j (some y)).set k (some z)) S3
  | .set o i e, ρ, S => (evE G call e ρ S).st ρ fun r S1 => match toD S1 r with
    | some (d, S2) => (evE G call o ρ S2).st ρ fun x S3 => (evE G call i ρ S3).st ρ fun y S4 => match x, y with
      | .r j, .v (.int k) => match S4[j]? with
        | some (some l) => match ixN l.length k with
          | some n => .ok .nx ρ (S4.set j (some (l.set n d)))
          | none => .no
        | _ => .no
      | _, _ => .no
    | none => .no
  | .aug i o e, ρ, S => match ρ[i]? with
    | some (some (.v (.int a))) => (evE G call e ρ S).st ρ fun y S1 => match y with
      | .v (.int b) => match o with
        | .Add => .ok .nx (ρ.set i (some (.v (.int (a + b))))) S1
        | .Sub => .ok .nx (ρ.set i (some (.v (.int (a - b))))) S1
        | _ => .no
      | _ => .no
    | _ => .no
  | .ex e, ρ, S => (evE G call e ρ S).st ρ fun _ S1 => .ok .nx ρ S1
  | .iff c a b, ρ, S => (evT G call c ρ S).st ρ fun k S1 => if k = true then evSs a ρ S1 else evSs b ρ S1
  | .for_ p it b, ρ, S => (evI G call it ρ S).st ρ fun ds S1 => forL (fun ρ S => evSs b ρ S) p ds ρ S1
  | .wh c b, ρ, S => whL (fun ρ S => evT G call c ρ S) (fun ρ S => evSs b ρ S) wl ρ S
  | .ret e, ρ, S => (evE G call e ρ S).st ρ fun r S1 => .ok (.rt r) ρ S1
  | .retN, ρ, S => .ok (.rt (.v .none)) ρ S
  | .rai c e, ρ, S => (evE G call e ρ S).st ρ fun r S1 => match toD S1 r with
    | some (d, S2) => .ex c d ρ S2
    | none => .no
  | .try_ b hs, ρ, S => match evSs b ρ S with
    | .ex c d ρ1 S1 => evH hs c d ρ1 S1
    | y => y
  | .pas, ρ, S => .ok .nx ρ S
  | .brk, ρ, S => .ok .bk ρ S
  | .cnt, ρ, S => .ok .ct ρ S
  | .frz i, ρ, S => match ρ[i]? with
    | some (some (.r j)) => match S[j]? with
      | some (some l) => .ok .nx (ρ.set i (some (.v (.list l)))) (S.set j none)
      | _ => .no
    | _ => .no
def evSs : Ts → Rho → Sto → ResS
  | .nil, ρ, S => .ok .nx ρ S
  | .cons t ts, ρ, S => (evS t ρ S).next fun ρ1 S1 => evSs ts ρ1 S1
def evH : Hs → Str → D → Rho → Sto → ResS
  | .nil, c, d, ρ, S => .ex c d ρ S
  | .cons h nm b hs, c, d, ρ, S => match G.subs.lookup c with
    | some l => if h ∈ l then suiteEnd nm (evSs b (match nm with | some i => ρ.set i (some (.x c d)) | none => ρ) S) else evH hs c d ρ S
    | none => .no
end
/-- what a call hands back: the lists that were made in it are data now, or the one that it hands back -/
def gcR (mu : Bool) (n : Nat) (r : R) (S : Sto) : Res R := match r with
  | .v d => .ok (.v d) (S.take n)
  | .r i => if i < n then .ok (.r i) (S.take n) else match S[i]? with
    | some (some l) => if mu then .ok (.r (S.take n).length) (S.take n ++ [some l]) else .ok (.v (.list l)) (S.take n)
    | _ => .no
  | .s l => .ok (.s l) (S.take n)
  | .x _ _ => .no
def runDf (df : Df) (rs : List R) (S : Sto) : Res R :=
  if rs.length = df.ps.length then
    match evSs G call wl df.body (rs.map some ++ List.replicate (df.N.length - rs.length) none) S with
    | .ok .nx _ S1 => .ok (.v .none) (S1.take S.length)
    | .ok (.rt r) _ S1 => gcR df.mu S.length r S1
    | .ex c d _ S1 => .ex c d (S1.take S.length)
    | _ => .no
  else .no
end EV
namespace EV
open PySem PySem.Spec PyProof.Rows L2
/-- calls, so many deep -/
def callN (G : Pg) (wl : Nat) : Nat → Str → List R → Sto → Res R
  | 0, _, _, _ => .no
  | n + 1, f, rs, S => match G.defs.lookup f with
    | some df => runDf G (callN G wl n) wl df rs S
    | none => .no
end EV

set_option Elab.async false
set_option linter.all false
set_option maxRecDepth 100000
set_option maxHeartbeats 4000000
/-! EV, part 3: how results stand to the layer's readings; the operations. -/
namespace EV
open PySem PySem.Spec PyProof.Rows L2

/-- what a result promises -/
def PO {α β : Type} (X : Cx) (W : WX) (rel : Mp → Hp → α → β → Prop) (m : Mp) (H : Hp) (σ : L2.St) (x : Res α) (Q : β → Hp → Prop) : Prop := match x with
  | .ok a S' => ∀ m' H' b, Ext m H m' H' → Sim X.K m' S' H' → rel m' H' a b → Q b H'
  | .ex c d S' => ∀ m' H' C dd w, Ext m H m' H' → Sim X.K m' S' H' → X.mg c = some (.ref C) → ¬ Lv m' dd → H' dd = some (.xd [(("value" : Str), w)]) → DV X.K (Lv m') H' d w → W (.ref C) (some dd) σ H'
  | .no => False
def TX {α β : Type} (X : Cx) (cur : Cur) (W : WX) (rel : Mp → Hp → α → β → Prop) (f : Rho → Sto → Res α) : L2.St → Hp → (β → Hp → Prop) → Prop :=
  fun σ H Q => ∃ m ρ S, Sim X.K m S H ∧ LV X.K cur m H ρ σ ∧ PO X W rel m H σ (f ρ S) Q
abbrev RVx (X : Cx) (cur : Cur) : Mp → Hp → R → V → Prop := RV X.K cur
section
variable {X : Cx} {W : WX} {α β γ δ : Type} {rel : Mp → Hp → α → β → Prop} {rel' : Mp → Hp → γ → δ → Prop} {m m1 : Mp} {H H1 : Hp} {σ : L2.St}
theorem PO.from {x : Res α} {Q : β → Hp → Prop} (h : PO X W rel m H σ x Q) (e : Ext m H m1 H1) : PO X W rel m1 H1 σ x Q := by
  cases x with
  | ok a S => exact fun m' H' b e' => h m' H' b (e.trans e')
  | ex c d S => exact fun m' H' C dd w e' => h m' H' C dd w (e.trans e')
  | no => exact h
theorem PO.mono {x : Res α} {Q Q' : β → Hp → Prop} (h : PO X W rel m H σ x Q) (k : ∀ b H, Q b H → Q' b H) : PO X W rel m H σ x Q' := by
  cases x with
  | ok a S => exact fun m' H' b e s r => k _ _ (h m' H' b e s r)
  | ex c d S => exact h
  | no => exact h
theorem PO.bind {x : Res α} {g : α → Sto → Res γ} {Q : δ → Hp → Prop} (h : PO X W rel' m H σ (x.bind g) Q) :
    PO X W rel m H σ x (fun b H1 => ∃ m1 a S1, Ext m H m1 H1 ∧ Sim X.K m1 S1 H1 ∧ rel m1 H1 a b ∧ PO X W rel' m1 H1 σ (g a S1) Q) := by
  cases x with
  | ok a S => exact fun m' H' b e s r => ⟨m', a, S, e, s, r, PO.from h e⟩
  | ex c d S => exact h
  | no => exact h
end
section
variable {X : Cx} {W : WX} {cur : Cur} {m : Mp} {S : Sto} {H : Hp} {σ : L2.St} {Q : V → Hp → Prop}
theorem PO.v0 {d : D} {v : V} (h : PO X W (RVx X cur) m H σ (.ok (.v d) S) Q) (s : Sim X.K m S H) (e : DV X.K (Lv m) H d v) : Q v H := h m H v .refl s e
theorem PO.vnew {d : D} {v : V} {p : Addr} {o : HO} (h : PO X W (RVx X cur) m H σ (.ok (.v d) S) Q) (s : Sim X.K m S H) (hp : H p = none) (e : DV X.K (Lv m) (upd H p o) d v) : Q v (upd H p o) :=
  h m _ v (.new s hp) (s.new hp) e
end

/-! ### values as data -/
section
variable {K : PySem.W.Frag} {cur : Cur} {m : Mp} {S S2 : Sto} {H : Hp}
theorem toD_ok {r : R} {v : V} {d : D} (h : toD S r = some (d, S2)) (s : Sim K m S H) (q : RV K cur m H r v) : ∃ m2, Ext m H m2 H ∧ Sim K m2 S2 H ∧ DV K (Lv m2) H d v := by
  cases r with
  | v d' =>
    simp only [toD, Option.some.injEq, Prod.mk.injEq] at h
    obtain ⟨rfl, rfl⟩ := h
    exact ⟨m, .refl, s, q⟩
  | r i =>
    simp only [toD] at h
    split at h
    · rename_i l e
      simp only [Option.some.injEq, Prod.mk.injEq] at h
      obtain ⟨rfl, rfl⟩ := h
      obtain ⟨a, rfl, z⟩ := q
      exact ⟨m.clr i, .freeze, s.freeze, frozen_dv s e z⟩
    · cases h
  | s l => simp [toD] at h
  | x c d' => simp [toD] at h
theorem toDs_ok : ∀ {rs : List R} {vs : List V} {ds : List D} {m : Mp} {S S2 : Sto}, toDs rs S = some (ds, S2) → Sim K m S H → RVs K cur m H rs vs → ∃ m2, Ext m H m2 H ∧ Sim K m2 S2 H ∧ DVs K (Lv m2) H ds vs
  | [], _, ds, m, S, S2, h, s, q => by
    simp only [toDs, Option.some.injEq, Prod.mk.injEq] at h
    obtain ⟨rfl, rfl⟩ := h
    cases q
    exact ⟨m, .refl, s, by simp only [DVs]⟩
  | r :: rs, _, ds, m, S, S2, h, s, q => by
    cases q with
    | @cons _ v _ vs q1 q2 =>
      simp only [toDs] at h
      split at h
      · rename_i d S1 e1
        split at h
        · rename_i ds' S2' e2
          simp only [Option.some.injEq, Prod.mk.injEq] at h
          obtain ⟨rfl, rfl⟩ := h
          obtain ⟨m1, x1, s1, d1⟩ := toD_ok e1 s q1
          obtain ⟨m2, x2, s2, d2⟩ := toDs_ok e2 s1 (RVs.ext q2 x1)
          exact ⟨m2, x1.trans x2, s2, by simp only [DVs]; exact ⟨v, vs, rfl, DV.keep x2.keep d v d1, d2⟩⟩
        · cases h
      · cases h
/-- what is to be read -/
def RdV (K : PySem.W.Frag) (L : Addr → Prop) (H : Hp) : D → V → Prop
  | .list ds, v => ∃ a vs, v = .ref a ∧ SqL K H a vs ∧ DVs K L H ds vs
  | d, v => DV K L H d v
theorem rdD_ok {r : R} {v : V} {d : D} (h : rdD S r = some d) (s : Sim K m S H) (q : RV K cur m H r v) : RdV K (Lv m) H d v := by
  cases r with
  | v d' =>
    simp only [rdD, Option.some.injEq] at h
    subst h
    cases d' with
    | list ds =>
      obtain ⟨a, vs, e, n, t, r⟩ := dv_lst_inv q
      exact ⟨a, vs, e, SqL.of t, r⟩
    | _ => exact q
  | r i =>
    simp only [rdD] at h
    split at h
    · rename_i l e
      simp only [Option.some.injEq] at h
      subst h
      obtain ⟨a, rfl, z⟩ := q
      obtain ⟨_, vs, e2, e3⟩ := s.at_ e z
      exact ⟨a, vs, rfl, SqL.of e2, e3⟩
    · cases h
  | s l =>
    simp only [rdD, Option.some.injEq] at h
    subst h
    obtain ⟨a, e, z⟩ := q
    refine ⟨a, _, e, ?_, DVs.ints⟩
    rcases z with ⟨_, z⟩ | z
    · exact .inl z
    · exact .inr z
  | x c d' => simp [rdD] at h
/-- .. a list that stands by itself in the heap -/
def RdL (K : PySem.W.Frag) (L : Addr → Prop) (H : Hp) : D → V → Prop
  | .list ds, v => ∃ a vs, v = .ref a ∧ H a = some (.lst vs) ∧ DVs K L H ds vs
  | d, v => DV K L H d v
theorem RdL.int {i : Int} {v : V} (h : RdL K (Lv m) H (.int i) v) : v = .int i := h
theorem RdL.str {i : Str} {v : V} (h : RdL K (Lv m) H (.str i) v) : v = .str i := h
theorem rdX_ok {r : R} {v : V} {d : D} (h : rdX S r = some d) (s : Sim K m S H) (q : RV K cur m H r v) : RdL K (Lv m) H d v := by
  cases r with
  | v d' =>
    simp only [rdX, Option.some.injEq] at h
    subst h
    cases d' with
    | list ds =>
      obtain ⟨a, vs, e, n, t, r⟩ := dv_lst_inv q
      exact ⟨a, vs, e, t, r⟩
    | _ => exact q
  | r i =>
    simp only [rdX] at h
    split at h
    · rename_i l e
      simp only [Option.some.injEq] at h
      subst h
      obtain ⟨a, rfl, z⟩ := q
      obtain ⟨_, vs, e2, e3⟩ := s.at_ e z
      exact ⟨a, vs, rfl, e2, e3⟩
    · cases h
  | s l => simp [rdX] at h
  | x c d' => simp [rdX] at h
theorem RdV.dp {d : D} {v : V} (h : RdV K (Lv m) H d v) : Dp K H v d := by
  cases d with
  | list ds =>
    obtain ⟨a, vs, rfl, e, r⟩ := h
    exact .lst e (DVs.dp ds vs r)
  | none => exact DV.dp (L := Lv m) _ v h
  | bool _ => exact DV.dp (L := Lv m) _ v h
  | int _ => exact DV.dp (L := Lv m) _ v h
  | str _ => exact DV.dp (L := Lv m) _ v h
  | tuple _ => exact DV.dp (L := Lv m) _ v h
  | dict _ => exact DV.dp (L := Lv m) _ v h
theorem RdV.tup {ds : List D} {v : V} (h : RdV K (Lv m) H (.tuple ds) v) : ∃ a vs, v = .ref a ∧ SqT K H a vs ∧ DVs K (Lv m) H ds vs := dv_tup_inv h
theorem RdV.int {i : Int} {v : V} (h : RdV K (Lv m) H (.int i) v) : v = .int i := h
theorem RdV.str {i : Str} {v : V} (h : RdV K (Lv m) H (.str i) v) : v = .str i := h
theorem RdV.bool {i : Bool} {v : V} (h : RdV K (Lv m) H (.bool i) v) : v = .bl i := h
theorem RdV.none {v : V} (h : RdV K (Lv m) H .none v) : v = .non := h
theorem isEmpty_len {α β : Type} {xs : List α} {ys : List β} (h : xs.length = ys.length) : xs.isEmpty = ys.isEmpty := by
  cases xs <;> cases ys <;> simp_all
theorem truth_ok {d : D} {k : Bool} {v : V} (h : truthD d = some k) (q : RdV K (Lv m) H d v) (hz : ∀ s : Str, d = .str s → s.length ≤ sizeLine) : TruV K v H k := by
  cases d with
  | none => cases q.none; simp [truthD] at h; subst h; exact rfl
  | bool b => cases q.bool; simp [truthD] at h; subst h; exact rfl
  | int i => cases q.int; simp [truthD] at h; subst h; exact rfl
  | str s =>
    cases q.str
    simp only [truthD] at h
    split at h
    · rename_i hs
      cases h
      exact ⟨hs, rfl⟩
    · cases h
  | list ds =>
    obtain ⟨a, vs, rfl, e, r⟩ := q
    simp only [truthD, Option.some.injEq] at h
    subst h
    exact .inl ⟨vs, e, by rw [isEmpty_len r.len]⟩
  | tuple ds =>
    obtain ⟨a, vs, rfl, e, r⟩ := q.tup
    simp only [truthD, Option.some.injEq] at h
    subst h
    exact .inr (.inl ⟨vs, e, by rw [isEmpty_len r.len]⟩)
  | dict kvs => simp [truthD] at h
theorem truth_ok' {d : D} {k : Bool} {v : V} (h : truthD d = some k) (q : RdV K (Lv m) H d v) : TruV K v H k := by
  refine truth_ok h q fun s e => ?_
  subst e
  simp only [truthD] at h
  split at h
  · assumption
  · cases h
end

/-! ### arithmetic -/
theorem mulOk_ok {i j : Int} (h : mulOk i j = true) : IntMulOk i j := by
  have h := of_decide_eq_true h
  have b : ∀ x : Int, Builtin.Int.intBits x ≤ x.natAbs.log2 + 1 := fun x => by
    unfold Builtin.Int.intBits
    split <;> omega
  have h1 := b i
  have h2 := b j
  have e : bitsLine = 134217728 := by decide
  unfold IntMulOk
  intro z
  rw [Bool.and_eq_true] at z
  have z2 := z.2
  unfold Builtin.Int.intTooBig at z2
  have z3 := of_decide_eq_true z2
  rw [e] at z3
  omega
section
variable {X : Cx} {W : WX} {cur : Cur}
def rOp (X : Cx) (cur : Cur) (W : WX) (o : Operator) : R2 := fun x y H Q => ∃ m S a b σ, Sim X.K m S H ∧ RV X.K cur m H a x ∧ RV X.K cur m H b y ∧ PO X W (RVx X cur) m H σ (opR o a b S) Q
theorem DV.int_inv {K : PySem.W.Frag} {L : Addr → Prop} {H : Hp} {i : Int} {v : V} (h : DV K L H (.int i) v) : v = .int i := h
theorem DV.str_inv {K : PySem.W.Frag} {L : Addr → Prop} {H : Hp} {i : Str} {v : V} (h : DV K L H (.str i) v) : v = .str i := h
theorem DV.bool_inv {K : PySem.W.Frag} {L : Addr → Prop} {H : Hp} {i : Bool} {v : V} (h : DV K L H (.bool i) v) : v = .bl i := h
theorem divOk_ok {i j : Int} (h : divOk i j = true) : j ≠ 0 ∧ Builtin.divisionGoesByPylong i j = false := by
  simp only [divOk, Bool.and_eq_true, Bool.or_eq_true, decide_eq_true_eq] at h
  refine ⟨h.1, ?_⟩
  rcases h.2 with q | q
  · exact PyProof.noPylong_of_log2 q
  · have hj : (j == 0) = false := by simpa using h.1
    have key : (if i == 0 then 0 else i.natAbs.log2 / 30 + 1) ≤ (if j == 0 then 0 else j.natAbs.log2 / 30 + 1) + 150 := by
      rw [hj]
      by_cases hi : (i == 0) = true
      · rw [if_pos hi]; exact Nat.zero_le _
      · rw [if_neg hi, if_neg Bool.false_ne_true]; omega
    show (_ && decide ((if i == 0 then 0 else i.natAbs.log2 / 30 + 1) > (if j == 0 then 0 else j.natAbs.log2 / 30 + 1) + 150)) = false
    rw [decide_eq_false (Nat.not_lt.mpr key), Bool.and_false]
theorem op_fdivX : OpR X (binaryOp .FloorDiv) (rI (fun i j => divOk i j = true) fun i j => .int (i.fdiv j)) := opI fun i j _ _ _ _ _ hc q =>
  floordiv_int (divOk_ok hc).1 q (.inl (divOk_ok hc).2)
theorem op_mulX : OpR X (binaryOp .Mult) (rI (fun i j => mulOk i j = true) fun i j => .int (i * j)) := opI fun _ _ _ _ _ _ _ hc q => mul_int q (mulOk_ok hc)
theorem op_powX : OpR X (binaryOp .Pow) (rI (fun i j => 0 ≤ j ∧ ((Builtin.Int.intBits i : Nat) : Int) * j ≤ 2 ^ 27) fun i j => .int (i ^ j.toNat)) := opI fun _ _ _ _ _ _ _ hc q => pow_int hc.1 hc.2 q
theorem dvs_nil_iff {K : PySem.W.Frag} {L : Addr → Prop} {H : Hp} {ds : List D} {vs : List V} (h : DVs K L H ds vs) : ds = [] ↔ vs = [] := by
  have := h.len
  cases ds <;> cases vs <;> simp_all
theorem DVs.flat {K : PySem.W.Frag} {L : Addr → Prop} {H : Hp} {ds : List D} {vs : List V} (h : DVs K L H ds vs) : ∀ k : Nat, DVs K L H (List.replicate k ds).flatten (List.replicate k vs).flatten
  | 0 => by simp only [List.replicate, List.flatten_nil, DVs]
  | k + 1 => by
    rw [List.replicate_succ, List.replicate_succ, List.flatten_cons, List.flatten_cons]
    exact h.append (DVs.flat h k)
theorem rRep_len {α β : Type} {ds : List α} {vs : List β} (h : ds.length = vs.length) {k : Nat} {n : Nat} (q : ds.length * k ≤ n) : vs.length * k ≤ n := by rw [← h]; exact q
theorem sop (o : Operator) : OpR X (binaryOp o) (rOp X cur W o) := by
  intro pins s σ' H x y v u Q I rx ry h
  obtain ⟨m, S, a, b, σ, sm, ra, rb, po⟩ := h
  simp only [opR] at po
  split at po
  · rename_i d e ea eb
    have ra := rdX_ok ea sm ra
    have rb := rdX_ok eb sm rb
    have none_ : opD o d e = none → wpAny (model X.prog X.w) X.A (binaryOp o v u) (EP X pins σ' Q) X.xe s := fun z => by rw [z] at po; exact po.elim
    cases o with
    | Add =>
      cases d with
      | int i =>
        cases e with
        | int j => cases RdL.int ra; cases RdL.int rb; exact op_add pins s σ' H _ _ v u Q I rx ry ⟨i, j, rfl, rfl, PO.v0 po sm dv_int⟩
        | _ => exact none_ rfl
      | str i =>
        cases e with
        | str j =>
          cases RdL.str ra
          cases RdL.str rb
          simp only [opD] at po
          split at po
          · rename_i hl
            exact op_add_str pins s σ' H _ _ v u Q I rx ry ⟨i, j, rfl, rfl, hl, PO.v0 po sm dv_str⟩
          · exact po.elim
        | _ => exact none_ rfl
      | tuple ds =>
        cases e with
        | tuple es =>
          have ra0 : DV X.K (Lv m) H (.tuple ds) x := ra
          obtain ⟨p, vs, rfl, h1, d1⟩ := dv_tup_inv ra0
          have rb0 : DV X.K (Lv m) H (.tuple es) y := rb
          obtain ⟨q, us, rfl, h2, d2⟩ := dv_tup_inv rb0
          simp only [opD] at po
          split at po
          · rename_i hl
            refine op_catT pins s σ' H _ _ v u Q I rx ry ⟨p, q, vs, us, rfl, rfl, h1, h2, fun z => hl.1 ((dvs_nil_iff d1).mpr z), by rw [← d1.len, ← d2.len]; exact hl.2, fun z => ?_, fun _ r hr => ?_⟩
            · have z' := (dvs_nil_iff d2).mpr z
              subst z'
              rw [List.append_nil] at po
              exact PO.v0 po sm ra0
            · refine PO.vnew po sm hr (dv_tup (sm.fresh hr) upd_same ?_)
              exact DVs.keep (Ext.new sm hr).keep _ _ (d1.append d2)
          · exact po.elim
        | _ => exact none_ rfl
      | list ds =>
        cases e with
        | list es =>
          obtain ⟨p, vs, rfl, h1, d1⟩ := ra
          obtain ⟨q, us, rfl, h2, d2⟩ := rb
          simp only [opD] at po
          split at po
          · rename_i hl
            refine op_cat pins s σ' H _ _ v u Q I rx ry ⟨p, q, vs, us, rfl, rfl, h1, h2, by rw [← d1.len, ← d2.len]; exact hl, fun r hr => ?_⟩
            refine PO.vnew po sm hr (dv_lst (sm.fresh hr) upd_same ?_)
            exact DVs.keep (Ext.new sm hr).keep _ _ (d1.append d2)
          · exact po.elim
        | _ => exact none_ rfl
      | _ => exact none_ rfl
    | Sub =>
      cases d with
      | int i =>
        cases e with
        | int j => cases RdL.int ra; cases RdL.int rb; exact op_sub pins s σ' H _ _ v u Q I rx ry ⟨i, j, rfl, rfl, PO.v0 po sm dv_int⟩
        | _ => exact none_ rfl
      | _ => exact none_ rfl
    | Mult =>
      cases d with
      | int i =>
        cases e with
        | int j =>
          cases RdL.int ra
          cases RdL.int rb
          simp only [opD] at po
          split at po
          · rename_i hc
            exact op_mulX pins s σ' H _ _ v u Q I rx ry ⟨i, j, rfl, rfl, hc, PO.v0 po sm dv_int⟩
          · exact po.elim
        | _ => exact none_ rfl
      | list ds =>
        cases e with
        | int j =>
          obtain ⟨p, vs, rfl, h1, d1⟩ := ra
          cases RdL.int rb
          simp only [opD] at po
          split at po
          · rename_i hl
            refine op_rep pins s σ' H _ _ v u Q I rx ry ⟨p, j, vs, rfl, rfl, h1, hl.1, hl.2.1, rRep_len d1.len hl.2.2, fun r hr => ?_⟩
            refine PO.vnew po sm hr (dv_lst (sm.fresh hr) upd_same ?_)
            exact DVs.keep (Ext.new sm hr).keep _ _ (d1.flat _)
          · exact po.elim
        | _ => exact none_ rfl
      | _ => exact none_ rfl
    | FloorDiv =>
      cases d with
      | int i =>
        cases e with
        | int j =>
          cases RdL.int ra
          cases RdL.int rb
          simp only [opD] at po
          split at po
          · rename_i hc
            exact op_fdivX pins s σ' H _ _ v u Q I rx ry ⟨i, j, rfl, rfl, hc, PO.v0 po sm dv_int⟩
          · exact po.elim
        | _ => exact none_ rfl
      | _ => exact none_ rfl
    | Mod =>
      cases d with
      | int i =>
        cases e with
        | int j =>
          cases RdL.int ra
          cases RdL.int rb
          simp only [opD] at po
          split at po
          · rename_i hc
            exact op_modN pins s σ' H _ _ v u Q I rx ry ⟨i, j, rfl, rfl, hc, PO.v0 po sm dv_int⟩
          · exact po.elim
        | _ => exact none_ rfl
      | _ => exact none_ rfl
    | Pow =>
      cases d with
      | int i =>
        cases e with
        | int j =>
          cases RdL.int ra
          cases RdL.int rb
          simp only [opD] at po
          split at po
          · rename_i hc
            exact op_powX pins s σ' H _ _ v u Q I rx ry ⟨i, j, rfl, rfl, hc, PO.v0 po sm dv_int⟩
          · exact po.elim
        | _ => exact none_ rfl
      | _ => exact none_ rfl
    | _ => exact none_ (by cases d <;> cases e <;> rfl)
  · exact po.elim
end
end EV

set_option Elab.async false
set_option linter.all false
set_option maxRecDepth 100000
set_option maxHeartbeats 4000000
/-! EV, part 4: comparisons, subscripts, built-in functions and methods. -/
namespace EV
open PySem PySem.Spec PyProof.Rows L2
section
variable {K : PySem.W.Frag} {m : Mp} {S : Sto} {H : Hp}
theorem flat_ok {L : Addr → Prop} : ∀ {d : D} {v : V}, flatD d = true → DV K L H d v → flatV v = true
  | .none, _, _, h => by cases (show _ = V.non from h); rfl
  | .bool _, _, _, h => by cases (show _ = V.bl _ from h); rfl
  | .int _, _, _, h => by cases (show _ = V.int _ from h); rfl
  | .str _, _, _, h => by cases (show _ = V.str _ from h); rfl
theorem eqV_ok {L : Addr → Prop} {d e : D} {v u : V} (fd : flatD d = true) (fe : flatD e = true) (h : DV K L H d v) (h' : DV K L H e u) : eqV v u = PyData.eqv d e := by
  cases d with
  | none =>
    cases (show _ = V.non from h)
    cases e with
    | none => cases (show _ = V.non from h'); rfl
    | bool _ => cases (show _ = V.bl _ from h'); rfl
    | int _ => cases (show _ = V.int _ from h'); rfl
    | str _ => cases (show _ = V.str _ from h'); rfl
    | _ => cases fe
  | bool _ =>
    cases (show _ = V.bl _ from h)
    cases e with
    | none => cases (show _ = V.non from h'); rfl
    | bool _ => cases (show _ = V.bl _ from h'); rfl
    | int _ => cases (show _ = V.int _ from h'); rfl
    | str _ => cases (show _ = V.str _ from h'); rfl
    | _ => cases fe
  | int _ =>
    cases (show _ = V.int _ from h)
    cases e with
    | none => cases (show _ = V.non from h'); rfl
    | bool _ => cases (show _ = V.bl _ from h'); rfl
    | int _ => cases (show _ = V.int _ from h'); rfl
    | str _ => cases (show _ = V.str _ from h'); rfl
    | _ => cases fe
  | str _ =>
    cases (show _ = V.str _ from h)
    cases e with
    | none => cases (show _ = V.non from h'); rfl
    | bool _ => cases (show _ = V.bl _ from h'); rfl
    | int _ => cases (show _ = V.int _ from h'); rfl
    | str _ => cases (show _ = V.str _ from h'); rfl
    | _ => cases fe
  | _ => cases fd
theorem flats_ok {L : Addr → Prop} : ∀ {ds : List D} {vs : List V}, ds.all flatD = true → DVs K L H ds vs → vs.all flatV = true
  | [], _, _, h => by cases (show _ = [] from h); rfl
  | d :: ds, _, f, h => by
    obtain ⟨v, r, rfl, h1, h2⟩ := h
    rw [List.all_cons, Bool.and_eq_true] at f
    rw [List.all_cons, Bool.and_eq_true]
    exact ⟨flat_ok f.1 h1, flats_ok f.2 h2⟩
theorem inV_ok {L : Addr → Prop} {d : D} {v : V} (fd : flatD d = true) (h : DV K L H d v) : ∀ {ds : List D} {vs : List V}, ds.all flatD = true → DVs K L H ds vs → inV v vs = ds.any fun b => PyData.eqv b d
  | [], _, _, h' => by cases (show _ = [] from h'); rfl
  | e :: ds, _, f, h' => by
    obtain ⟨u, r, rfl, h1, h2⟩ := h'
    rw [List.all_cons, Bool.and_eq_true] at f
    show (eqV u v || inV v r) = _
    rw [List.any_cons, eqV_ok f.1 fd h1 h, inV_ok fd h f.2 h2]
theorem none_dec {d : D} {v : V} {L : Addr → Prop} (h : RdV K L H d v) : decide (v = .non) = isNoneD d := by
  cases d with
  | none => cases (show v = .non from h); rfl
  | bool _ => cases (show v = .bl _ from h); rfl
  | int _ => cases (show v = .int _ from h); rfl
  | str _ => cases (show v = .str _ from h); rfl
  | tuple _ => obtain ⟨a, vs, rfl, _⟩ := dv_tup_inv (show DV K L H (.tuple _) v from h); rfl
  | list _ => obtain ⟨a, vs, rfl, _⟩ := h; rfl
  | dict _ => exact (show False from h).elim
end
section
variable {X : Cx} {W : WX} {cur : Cur}
def rCm (X : Cx) (cur : Cur) (W : WX) (o : CmpOp) : R2 := fun x y H Q => ∃ m S a b σ, Sim X.K m S H ∧ RV X.K cur m H a x ∧ RV X.K cur m H b y ∧ PO X W (RVx X cur) m H σ (cmpR o a b S) Q
theorem scm (o : CmpOp) (hu : X.A.units + 64 < cLine) : OpR X (compareOp o) (rCm X cur W o) := by
  intro pins s σ' H x y v u Q I rx ry h
  obtain ⟨m, S, a, b, σ, sm, ra, rb, po⟩ := h
  simp only [cmpR] at po
  split at po
  · rename_i d e ea eb
    have ra := rdD_ok ea sm ra
    have rb := rdD_ok eb sm rb
    split at po
    · rename_i k ek
      have q : Q (.bl k) H := PO.v0 po sm dv_bool
      have no {p : Prop} (z : cmpD o d e = none) : p := by rw [z] at ek; cases ek
      cases o with
      | Lt =>
        cases d with
        | int i =>
          cases e with
          | int j => cases ra.int; cases rb.int; cases ek; exact op_lt pins s σ' H _ _ v u Q I rx ry ⟨i, j, rfl, rfl, q⟩
          | _ => exact no rfl
        | _ => exact no rfl
      | LtE =>
        cases d with
        | int i =>
          cases e with
          | int j => cases ra.int; cases rb.int; cases ek; exact op_le pins s σ' H _ _ v u Q I rx ry ⟨i, j, rfl, rfl, q⟩
          | _ => exact no rfl
        | _ => exact no rfl
      | Gt =>
        cases d with
        | int i =>
          cases e with
          | int j => cases ra.int; cases rb.int; cases ek; exact op_gt pins s σ' H _ _ v u Q I rx ry ⟨i, j, rfl, rfl, q⟩
          | _ => exact no rfl
        | _ => exact no rfl
      | GtE =>
        cases d with
        | int i =>
          cases e with
          | int j => cases ra.int; cases rb.int; cases ek; exact op_ge pins s σ' H _ _ v u Q I rx ry ⟨i, j, rfl, rfl, q⟩
          | _ => exact no rfl
        | _ => exact no rfl
      | Eq =>
        simp only [cmpD] at ek
        split at ek
        · rename_i hs
          cases ek
          exact op_eqD hu pins s σ' H _ _ v u Q I rx ry ⟨d, e, ra.dp, rb.dp, hs.1, hs.2, q⟩
        · cases ek
      | NotEq =>
        simp only [cmpD] at ek
        split at ek
        · rename_i hs
          cases ek
          exact op_neD hu pins s σ' H _ _ v u Q I rx ry ⟨d, e, ra.dp, rb.dp, hs.1, hs.2, q⟩
        · cases ek
      | Is =>
        cases e with
        | none =>
          cases rb.none
          simp only [cmpD, Option.some.injEq] at ek
          refine op_isN pins s σ' H _ _ v u Q I rx ry ⟨rfl, ?_⟩
          rw [none_dec ra, ek]
          exact q
        | bool j =>
          cases d with
          | bool i => cases ra.bool; cases rb.bool; cases ek; exact op_isBl pins s σ' H _ _ v u Q I rx ry ⟨i, j, rfl, rfl, q⟩
          | _ => exact no rfl
        | _ => cases d <;> exact no rfl
      | IsNot =>
        cases e with
        | none =>
          cases rb.none
          simp only [cmpD, Option.some.injEq] at ek
          refine op_notN pins s σ' H _ _ v u Q I rx ry ⟨rfl, ?_⟩
          rw [none_dec ra, ek]
          exact q
        | _ => cases d <;> exact no rfl
      | In =>
        cases e with
        | tuple ds =>
          simp only [cmpD] at ek
          split at ek
          · rename_i hf
            obtain ⟨p, vs, rfl, hq, hd⟩ := rb.tup
            have ra' : DV X.K (Lv m) H d x := by cases d <;> first | exact ra | cases hf.1
            cases ek
            refine op_in_seq pins s σ' H _ _ v u Q I rx ry ⟨p, vs, rfl, .inr hq, flat_ok hf.1 ra', flats_ok hf.2 hd, ?_⟩
            show Q (.bl (inV x vs)) H
            rw [inV_ok hf.1 ra' hf.2 hd]
            exact q
          · cases ek
        | list ds =>
          simp only [cmpD] at ek
          split at ek
          · rename_i hf
            obtain ⟨p, vs, rfl, hq, hd⟩ := rb
            have ra' : DV X.K (Lv m) H d x := by cases d <;> first | exact ra | cases hf.1
            cases ek
            refine op_in_seq pins s σ' H _ _ v u Q I rx ry ⟨p, vs, rfl, .inl hq, flat_ok hf.1 ra', flats_ok hf.2 hd, ?_⟩
            show Q (.bl (inV x vs)) H
            rw [inV_ok hf.1 ra' hf.2 hd]
            exact q
          · cases ek
        | _ => cases d <;> exact no rfl
      | NotIn =>
        cases e with
        | tuple ds =>
          simp only [cmpD] at ek
          split at ek
          · rename_i hf
            obtain ⟨p, vs, rfl, hq, hd⟩ := rb.tup
            have ra' : DV X.K (Lv m) H d x := by cases d <;> first | exact ra | cases hf.1
            cases ek
            refine op_notIn_seq pins s σ' H _ _ v u Q I rx ry ⟨p, vs, rfl, .inr hq, flat_ok hf.1 ra', flats_ok hf.2 hd, ?_⟩
            show Q (.bl (!inV x vs)) H
            rw [inV_ok hf.1 ra' hf.2 hd]
            exact q
          · cases ek
        | list ds =>
          simp only [cmpD] at ek
          split at ek
          · rename_i hf
            obtain ⟨p, vs, rfl, hq, hd⟩ := rb
            have ra' : DV X.K (Lv m) H d x := by cases d <;> first | exact ra | cases hf.1
            cases ek
            refine op_notIn_seq pins s σ' H _ _ v u Q I rx ry ⟨p, vs, rfl, .inl hq, flat_ok hf.1 ra', flats_ok hf.2 hd, ?_⟩
            show Q (.bl (!inV x vs)) H
            rw [inV_ok hf.1 ra' hf.2 hd]
            exact q
          · cases ek
        | _ => cases d <;> exact no rfl
    · exact po.elim
  · exact po.elim

/-! ### subscripts -/
def rIxX (X : Cx) (cur : Cur) (W : WX) : R2 := fun x y H Q => ∃ m S a b σ, Sim X.K m S H ∧ RV X.K cur m H a x ∧ RV X.K cur m H b y ∧ PO X W (RVx X cur) m H σ (ixR a b S) Q
theorem atI_ok {K : PySem.W.Frag} {L : Addr → Prop} {H : Hp} {ds : List D} {vs : List V} {i : Int} {d : D} (h : DVs K L H ds vs) (e : atI ds i = some d) : ∃ v, atI vs i = some v ∧ DV K L H d v := by
  unfold atI at *
  rw [← h.len]
  cases q : ixN ds.length i with
  | none => rw [q] at e; cases e
  | some j =>
    rw [q] at e
    exact h.get e
theorem six : IxR X (rIxX X cur W) := by
  intro value slice pins s σ' H x y v u Q I rx ry h hs
  obtain ⟨m, S, a, b, σ, sm, ra, rb, po⟩ := h
  simp only [ixR] at po
  split at po
  · rename_i ds i ea
    obtain ⟨p, vs, rfl, hq, hd⟩ := (rdD_ok ea sm ra).tup
    cases (show y = V.int i from rb)
    cases e : atI ds i with
    | none => rw [e] at po; exact po.elim
    | some d =>
      rw [e] at po
      obtain ⟨w, e1, e2⟩ := atI_ok hd e
      exact ix_tup value slice pins s σ' H _ _ v u Q I rx ry ⟨p, vs, i, w, rfl, rfl, hq, e1, PO.v0 po sm e2⟩ hs
  · rename_i ds i ea
    obtain ⟨p, vs, rfl, hq, hd⟩ := rdD_ok ea sm ra
    cases (show y = V.int i from rb)
    cases e : atI ds i with
    | none => rw [e] at po; exact po.elim
    | some d =>
      rw [e] at po
      obtain ⟨w, e1, e2⟩ := atI_ok hd e
      exact ix_list value slice pins s σ' H _ _ v u Q I rx ry ⟨p, vs, i, w, rfl, rfl, hq, e1, PO.v0 po sm e2⟩ hs
  · rename_i z i ea
    cases (rdD_ok ea sm ra).str
    cases (show y = V.int i from rb)
    split at po
    · rename_i hz
      split at po
      · rename_i c ec
        exact ix_str value slice pins s σ' H _ _ v u Q I rx ry ⟨z, i, c, rfl, rfl, hz, ec, PO.v0 po sm dv_str⟩ hs
      · exact po.elim
    · exact po.elim
  · exact po.elim
def rSlX (X : Cx) (cur : Cur) (W : WX) : V → Option Int → Option Int → Hp → VK → Prop := fun x lo hi H Q => ∃ m S a σ, Sim X.K m S H ∧ RV X.K cur m H a x ∧ PO X W (RVx X cur) m H σ (slcR a lo hi S) Q
theorem cut_ok {K : PySem.W.Frag} {L : Addr → Prop} {H : Hp} {ds : List D} {vs : List V} (h : DVs K L H ds vs) (lo hi : Option Int) : DVs K L H (cutD ds lo hi) (cutV vs lo hi) := by
  unfold cutD cutV
  rw [h.len]
  exact (h.drop _).take _
theorem ssl : SlR X (rSlX X cur W) := by
  intro pins s σ' H x v vl vu lo hi sl Q I rx hs pl pu h
  obtain ⟨m, S, a, σ, sm, ra, po⟩ := h
  simp only [slcR] at po
  split at po
  · rename_i ds ea
    obtain ⟨p, vs, rfl, hq, hd⟩ := (rdD_ok ea sm ra).tup
    split at po
    · rename_i hw
      refine sl_tup pins s σ' H _ v vl vu lo hi sl Q I rx hs pl pu ⟨p, vs, rfl, hq, by rw [← hd.len]; exact hw, fun r hr => ?_⟩
      exact PO.vnew po sm hr (dv_tup (sm.fresh hr) upd_same (DVs.keep (Ext.new sm hr).keep _ _ (cut_ok hd lo hi)))
    · exact po.elim
  · rename_i ds ea
    obtain ⟨p, vs, rfl, hq, hd⟩ := rdD_ok ea sm ra
    refine sl_list pins s σ' H _ v vl vu lo hi sl Q I rx hs pl pu ⟨p, vs, rfl, hq, fun r hr => ?_⟩
    exact PO.vnew po sm hr (dv_lst (sm.fresh hr) upd_same (DVs.keep (Ext.new sm hr).keep _ _ (cut_ok hd lo hi)))
  · exact po.elim

/-! ### built-in functions -/
def rBi (X : Cx) (cur : Cur) (W : WX) (b : String) : List V → Hp → VK → Prop := fun vs H Q => ∃ m S rs σ, Sim X.K m S H ∧ RVs X.K cur m H rs vs ∧ PO X W (RVx X cur) m H σ (biR b rs S) Q
theorem bools_ok {K : PySem.W.Frag} {L : Addr → Prop} {H : Hp} : ∀ {ds : List D} {vs : List V} {bs : List Bool}, boolsOf ds = some bs → DVs K L H ds vs → vs = bs.map V.bl
  | [], _, bs, e, h => by cases e; exact h
  | d :: ds, _, bs, e, h => by
    obtain ⟨v, r, rfl, h1, h2⟩ := h
    cases d with
    | bool b =>
      simp only [boolsOf, Option.map_eq_some_iff] at e
      obtain ⟨cs, e1, rfl⟩ := e
      cases (show v = V.bl b from h1)
      rw [bools_ok e1 h2]
      rfl
    | _ => cases e
theorem sbi_len : CallR X (.builtin "len") (rBi X cur W "len") := by
  intro pins s σ' H vs us Q I r h
  obtain ⟨m, S, rs, σ, sm, rr, po⟩ := h
  cases rr with
  | nil => exact po.elim
  | @cons a x _ _ r1 r2 =>
    cases r2 with
    | cons _ _ => exact po.elim
    | nil =>
      simp only [biR] at po
      split at po
      · rename_i ds ea
        obtain ⟨p, vs, rfl, hq, hd⟩ := (rdD_ok ea sm r1).tup
        rw [hd.len] at po
        exact call_len_seq pins s σ' H _ us Q I r ⟨p, vs, rfl, .inr hq, PO.v0 po sm dv_int⟩
      · rename_i ds ea
        obtain ⟨p, vs, rfl, hq, hd⟩ := rdD_ok ea sm r1
        rw [hd.len] at po
        exact call_len_seq pins s σ' H _ us Q I r ⟨p, vs, rfl, .inl hq, PO.v0 po sm dv_int⟩
      · rename_i z ea
        cases (rdD_ok ea sm r1).str
        split at po
        · rename_i hz
          exact call_len_str pins s σ' H _ us Q I r ⟨z, rfl, hz, PO.v0 po sm dv_int⟩
        · exact po.elim
      · exact po.elim
theorem sbi_abs : CallR X (.builtin "abs") (rBi X cur W "abs") := by
  intro pins s σ' H vs us Q I r h
  obtain ⟨m, S, rs, σ, sm, rr, po⟩ := h
  unfold biR at po
  split at po <;> first | exact po.elim | (rename_i h; exact absurd h (by decide)) | skip
  rename_i i _
  cases rr with
  | cons r1 r2 =>
    cases r2
    cases (show _ = V.int i from r1)
    exact call_abs pins s σ' H _ us Q I r ⟨i, rfl, PO.v0 po sm dv_int⟩
theorem ints_ok {K : PySem.W.Frag} {L : Addr → Prop} {H : Hp} : ∀ {ds : List D} {vs : List V} {is : List Int}, intsOf ds = some is → DVs K L H ds vs → vs = is.map V.int
  | [], _, bs, e, h => by cases e; exact h
  | d :: ds, _, bs, e, h => by
    obtain ⟨v, r, rfl, h1, h2⟩ := h
    cases d with
    | int b =>
      simp only [intsOf, Option.map_eq_some_iff] at e
      obtain ⟨cs, e1, rfl⟩ := e
      cases (show v = V.int b from h1)
      rw [ints_ok e1 h2]
      rfl
    | _ => cases e
theorem maxI_mem : ∀ {l : List Int}, l ≠ [] → maxI l ∈ l ∧ ∀ y ∈ l, y ≤ maxI l
  | [], h => absurd rfl h
  | [i], _ => by simp [maxI]
  | i :: j :: r, _ => by
    obtain ⟨h1, h2⟩ := maxI_mem (l := j :: r) (by simp)
    show max i (maxI (j :: r)) ∈ _ ∧ ∀ y ∈ _, y ≤ max i (maxI (j :: r))
    refine ⟨?_, fun y hy => ?_⟩
    · by_cases z : i ≤ maxI (j :: r)
      · rw [Int.max_eq_right z]
        exact List.mem_cons_of_mem _ h1
      · rw [Int.max_eq_left (by omega)]
        exact List.mem_cons_self ..
    · rcases List.mem_cons.mp hy with rfl | hy
      · exact Int.le_max_left _ _
      · exact Int.le_trans (h2 y hy) (Int.le_max_right _ _)
theorem minI_mem : ∀ {l : List Int}, l ≠ [] → minI l ∈ l ∧ ∀ y ∈ l, minI l ≤ y
  | [], h => absurd rfl h
  | [i], _ => by simp [minI]
  | i :: j :: r, _ => by
    obtain ⟨h1, h2⟩ := minI_mem (l := j :: r) (by simp)
    show min i (minI (j :: r)) ∈ _ ∧ ∀ y ∈ _, min i (minI (j :: r)) ≤ y
    refine ⟨?_, fun y hy => ?_⟩
    · by_cases z : i ≤ minI (j :: r)
      · rw [Int.min_eq_left z]
        exact List.mem_cons_self ..
      · rw [Int.min_eq_right (by omega)]
        exact List.mem_cons_of_mem _ h1
    · rcases List.mem_cons.mp hy with rfl | hy
      · exact Int.min_le_left _ _
      · exact Int.le_trans (Int.min_le_right _ _) (h2 y hy)
theorem sbi_max (hc : X.calm = true) : CallR X (.builtin "max") (rBi X cur W "max") := by
  intro pins s σ' H vs us Q I r h
  obtain ⟨m, S, rs, σ, sm, rr, po⟩ := h
  unfold biR at po
  split at po <;> first | exact po.elim | (rename_i h; exact absurd h (by decide)) | skip
  · rename_i i j _
    cases rr with
    | cons r1 r2 =>
      cases r2 with
      | cons r2 r3 =>
        cases r3
        cases (show _ = V.int i from r1)
        cases (show _ = V.int j from r2)
        exact call_max2 hc pins s σ' H _ us Q I r ⟨i, j, rfl, PO.v0 po sm dv_int⟩
  · rename_i x _
    cases rr with
    | cons r1 r2 =>
      cases r2
      split at po
      · rename_i ds ea
        obtain ⟨p, vs, rfl, hq, hd⟩ := rdD_ok ea sm r1
        split at po
        · rename_i is eb
          rw [ints_ok eb hd] at hq
          split at po
          · rename_i hne
            obtain ⟨h1, h2⟩ := maxI_mem hne
            refine cr_max hc pins s σ' H _ us Q I r ⟨p, is, rfl, hq, List.length_pos_iff.mpr hne, fun mm a1 a2 => ?_⟩
            have e : mm = maxI is := Int.le_antisymm (h2 _ a1) (a2 _ h1)
            rw [e]
            exact PO.v0 po sm dv_int
          · exact po.elim
        · exact po.elim
      · exact po.elim
theorem sbi_min (hc : X.calm = true) : CallR X (.builtin "min") (rBi X cur W "min") := by
  intro pins s σ' H vs us Q I r h
  obtain ⟨m, S, rs, σ, sm, rr, po⟩ := h
  unfold biR at po
  split at po <;> first | exact po.elim | (rename_i h; exact absurd h (by decide)) | skip
  · rename_i i j _
    cases rr with
    | cons r1 r2 =>
      cases r2 with
      | cons r2 r3 =>
        cases r3
        cases (show _ = V.int i from r1)
        cases (show _ = V.int j from r2)
        exact call_min2 hc pins s σ' H _ us Q I r ⟨i, j, rfl, PO.v0 po sm dv_int⟩
  · rename_i x _
    cases rr with
    | cons r1 r2 =>
      cases r2
      split at po
      · rename_i ds ea
        obtain ⟨p, vs, rfl, hq, hd⟩ := rdD_ok ea sm r1
        split at po
        · rename_i is eb
          rw [ints_ok eb hd] at hq
          split at po
          · rename_i hne
            obtain ⟨h1, h2⟩ := minI_mem hne
            refine cr_min hc pins s σ' H _ us Q I r ⟨p, is, rfl, hq, List.length_pos_iff.mpr hne, fun mm a1 a2 => ?_⟩
            have e : mm = minI is := Int.le_antisymm (a2 _ h1) (h2 _ a1)
            rw [e]
            exact PO.v0 po sm dv_int
          · exact po.elim
        · exact po.elim
      · exact po.elim
theorem sbi_gcd : CallR X (.builtin "math.gcd") (rBi X cur W "gcd") := by
  intro pins s σ' H vs us Q I r h
  obtain ⟨m, S, rs, σ, sm, rr, po⟩ := h
  unfold biR at po
  split at po <;> first | exact po.elim | (rename_i h; exact absurd h (by decide)) | skip
  rename_i i j _
  cases rr with
  | cons r1 r2 =>
    cases r2 with
    | cons r2 r3 =>
      cases r3
      cases (show _ = V.int i from r1)
      cases (show _ = V.int j from r2)
      exact cr_gcd pins s σ' H _ us Q I r ⟨i, j, rfl, PO.v0 po sm dv_int⟩
theorem cr_isqrtX : CallR X (.builtin "math.isqrt") (fun vs H Q => ∃ a : Int, vs = [.int a] ∧ 0 ≤ a ∧ a.toNat.log2 < 13400 ∧ Q (.int ((Float64.isqrt a.toNat : Nat) : Int)) H) := by
  intro pins s σ H vs us Q I r h
  obtain ⟨a, rfl, h0, h1, q⟩ := h
  obtain ⟨u, rfl, t, rfl⟩ := vals1 r
  exact PySem.call_function_meets PySem.W.MGF.kind_isqrt PySem.W.MGF.plain_isqrt PySem.W.MGF.entry_isqrt (PySem.W.MGF.args_isqrt _) (PySem.W.mg_run_isqrt a t (by omega) (by omega) (by omega)).meets ⟨.int _, H, I.tok _, ⟨_, rfl⟩, q⟩
theorem sbi_isqrt : CallR X (.builtin "math.isqrt") (rBi X cur W "isqrt") := by
  intro pins s σ' H vs us Q I r h
  obtain ⟨m, S, rs, σ, sm, rr, po⟩ := h
  unfold biR at po
  split at po <;> first | exact po.elim | (rename_i h; exact absurd h (by decide)) | skip
  rename_i i _
  cases rr with
  | cons r1 r2 =>
    cases r2
    cases (show _ = V.int i from r1)
    split at po
    · rename_i hi
      exact cr_isqrtX pins s σ' H _ us Q I r ⟨i, rfl, hi.1, hi.2, PO.v0 po sm dv_int⟩
    · exact po.elim
theorem sbi_sum (hc : X.calm = true) : CallR X (.builtin "sum") (rBi X cur W "sum") := by
  intro pins s σ' H vs us Q I r h
  obtain ⟨m, S, rs, σ, sm, rr, po⟩ := h
  unfold biR at po
  split at po <;> first | exact po.elim | (rename_i h; exact absurd h (by decide)) | skip
  rename_i x _
  cases rr with
  | cons r1 r2 =>
    cases r2
    split at po
    · rename_i ds ea
      obtain ⟨p, vs, rfl, hq, hd⟩ := rdD_ok ea sm r1
      split at po
      · rename_i is eb
        rw [ints_ok eb hd] at hq
        exact cr_sum hc pins s σ' H _ us Q I r ⟨p, is, rfl, hq, PO.v0 po sm dv_int⟩
      · exact po.elim
    · exact po.elim
theorem sbi_list : CallR X (.type "list") (rBi X cur W "list") := by
  intro pins s σ' H vs us Q I r h
  obtain ⟨m, S, rs, σ, sm, rr, po⟩ := h
  unfold biR at po
  split at po <;> first | exact po.elim | (rename_i h; exact absurd h (by decide)) | skip
  rename_i x _
  cases rr with
  | cons r1 r2 =>
    cases r2
    split at po
    · rename_i ds ea
      obtain ⟨p, vs, rfl, hq, hd⟩ := (rdD_ok ea sm r1).tup
      exact call_list_of pins s σ' H _ us Q I r ⟨p, vs, rfl, .inr hq, fun l hl => PO.vnew po sm hl (dv_lst (sm.fresh hl) upd_same (DVs.keep (Ext.new sm hl).keep _ _ hd))⟩
    · rename_i ds ea
      obtain ⟨p, vs, rfl, hq, hd⟩ := rdD_ok ea sm r1
      exact call_list_of pins s σ' H _ us Q I r ⟨p, vs, rfl, .inl hq, fun l hl => PO.vnew po sm hl (dv_lst (sm.fresh hl) upd_same (DVs.keep (Ext.new sm hl).keep _ _ hd))⟩
    · exact po.elim
theorem sbi_mlist : CallR X (.type "list") (rBi X cur W "mlist") := by
  intro pins s σ' H vs us Q I r h
  obtain ⟨m, S, rs, σ, sm, rr, po⟩ := h
  unfold biR at po
  split at po <;> first | exact po.elim | (rename_i h; exact absurd h (by decide)) | skip
  rename_i x _
  have fin : ∀ {ds : List D} {vs : List V} {l : Addr}, PO X W (RVx X cur) m H σ (.ok (.r S.length) (S ++ [some ds])) Q → DVs X.K (Lv m) H ds vs → H l = none → Q (.ref l) (upd H l (.lst vs)) := fun {ds vs l} po hd hl => by
    refine po _ _ _ (Ext.newR sm hl) (sm.newR hl hd) ⟨l, rfl, .inl ?_⟩
    show (m.l ++ [some l])[S.length]? = _
    rw [List.getElem?_append_right (by rw [sm.len]; omega), sm.len]
    simp
  cases rr with
  | cons r1 r2 =>
    cases r2
    split at po
    · rename_i ds ea
      obtain ⟨p, vs, rfl, hq, hd⟩ := (rdD_ok ea sm r1).tup
      exact call_list_of pins s σ' H _ us Q I r ⟨p, vs, rfl, .inr hq, fun l hl => fin po hd hl⟩
    · rename_i ds ea
      obtain ⟨p, vs, rfl, hq, hd⟩ := rdD_ok ea sm r1
      exact call_list_of pins s σ' H _ us Q I r ⟨p, vs, rfl, .inl hq, fun l hl => fin po hd hl⟩
    · exact po.elim
theorem sbi_int : CallR X (.type "int") (rBi X cur W "int") := by
  intro pins s σ' H vs us Q I r h
  obtain ⟨m, S, rs, σ, sm, rr, po⟩ := h
  unfold biR at po
  split at po <;> first | exact po.elim | (rename_i h; exact absurd h (by decide)) | skip
  · rename_i i _
    cases rr with
    | cons r1 r2 =>
      cases r2
      cases (show _ = V.int i from r1)
      exact call_int1 pins s σ' H _ us Q I r (.inl ⟨i, rfl, PO.v0 po sm dv_int⟩)
  · rename_i i _
    cases rr with
    | cons r1 r2 =>
      cases r2
      cases (show _ = V.bl i from r1)
      exact call_int1 pins s σ' H _ us Q I r (.inr ⟨i, rfl, PO.v0 po sm dv_int⟩)
theorem sbi_all (hc : X.calm = true) : CallR X (.builtin "all") (rBi X cur W "all") := by
  intro pins s σ' H vs us Q I r h
  obtain ⟨m, S, rs, σ, sm, rr, po⟩ := h
  cases rr with
  | nil => exact po.elim
  | @cons a x _ _ r1 r2 =>
    cases r2 with
    | cons _ _ => exact po.elim
    | nil =>
      simp only [biR] at po
      split at po
      · rename_i ds ea
        obtain ⟨p, vs, rfl, hq, hd⟩ := rdD_ok ea sm r1
        split at po
        · rename_i bs eb
          rw [bools_ok eb hd] at hq
          exact cr_all hc pins s σ' H _ us Q I r ⟨p, bs, rfl, hq, PO.v0 po sm dv_bool⟩
        · exact po.elim
      · exact po.elim
theorem sbi_any (hc : X.calm = true) : CallR X (.builtin "any") (rBi X cur W "any") := by
  intro pins s σ' H vs us Q I r h
  obtain ⟨m, S, rs, σ, sm, rr, po⟩ := h
  cases rr with
  | nil => exact po.elim
  | @cons a x _ _ r1 r2 =>
    cases r2 with
    | cons _ _ => exact po.elim
    | nil =>
      simp only [biR] at po
      split at po
      · rename_i ds ea
        obtain ⟨p, vs, rfl, hq, hd⟩ := rdD_ok ea sm r1
        split at po
        · rename_i bs eb
          rw [bools_ok eb hd] at hq
          exact cr_any hc pins s σ' H _ us Q I r ⟨p, bs, rfl, hq, PO.v0 po sm dv_bool⟩
        · exact po.elim
      · exact po.elim
theorem sbi_tuple : CallR X (.type "tuple") (rBi X cur W "tuple") := by
  intro pins s σ' H vs us Q I r h
  obtain ⟨m, S, rs, σ, sm, rr, po⟩ := h
  cases rr with
  | nil => exact po.elim
  | @cons a x _ _ r1 r2 =>
    cases r2 with
    | cons _ _ => exact po.elim
    | nil =>
      simp only [biR] at po
      split at po
      · rename_i ds ea
        have e0 := (rdD_ok ea sm r1)
        obtain ⟨p, vs, rfl, hq, hd⟩ := e0.tup
        exact call_tuple_of pins s σ' H _ us Q I r ⟨p, vs, rfl, .inr ⟨hq, PO.v0 po sm e0⟩⟩
      · rename_i ds ea
        obtain ⟨p, vs, rfl, hq, hd⟩ := rdD_ok ea sm r1
        refine call_tuple_of pins s σ' H _ us Q I r ⟨p, vs, rfl, .inl ⟨hq, fun l hl => ?_⟩⟩
        exact PO.vnew po sm hl (dv_tup (sm.fresh hl) upd_same (DVs.keep (Ext.new sm hl).keep _ _ hd))
      · exact po.elim

/-! ### isinstance -/
theorem kit_all : (["NoneType", "bool", "int", "str", "tuple", "list"].all fun t => ["int", "bool", "str", "tuple", "list"].all fun a => kitB t a == some (isiB t a)) = true := by decide +kernel
theorem kit_is {t a : String} (ht : t ∈ ["NoneType", "bool", "int", "str", "tuple", "list"]) (ha : (["int", "bool", "str", "tuple", "list"].contains a) = true) : kitB t a = some (isiB t a) := by
  have h := List.all_eq_true.mp (List.all_eq_true.mp kit_all t ht) a (by simpa using ha)
  simpa using h
theorem tyD_mem {d : D} {t : String} (h : tyD d = some t) : t ∈ ["NoneType", "bool", "int", "str", "tuple", "list"] := by
  cases d <;> simp [tyD] at h <;> subst h <;> decide
end
end EV

set_option Elab.async false
set_option linter.all false
set_option maxRecDepth 100000
set_option maxHeartbeats 4000000
/-! EV, part 5: the checker of expressions against the row's syntax. -/
namespace EV
open PySem PySem.Spec PyProof.Rows L2

/-- what is known of the place where a text stands: the slots' names, the scope's names, is nothing handled, the names of the comprehension's block if it is in one -/
structure Ck where
  N : List Str
  names : List (Str × NameKind)
  calm : Bool
  own : Option (List (Str × NameKind))
def notDbg (x : Str) : Bool := !(x == ("__debug__" : Str))
def ckLoc (c : Ck) (i : Nat) (x : Str) : Bool :=
  decide (c.N[i]? = some x) && (decide (c.names.lookup x = some .local) || decide (c.names.lookup x = some .cell) || decide (c.names.lookup x = some .free)) && notDbg x && !(x == ("__classdict__" : Str))
def ckGl (c : Ck) (x : Str) : Bool := decide (c.names.lookup x = some .globalImplicit) && notDbg x
def ckSt (c : Ck) (i : Nat) (x : Str) : Bool :=
  decide (c.N[i]? = some x) && (decide (c.names.lookup x = some .local) || (decide (c.names.lookup x = some .cell) && (match c.own with | none => true | some l => decide (l.lookup x = some .cell))))
def nset : Expr → Bool
  | .Set _ _ _ => false
  | _ => true
def nstar : Expr → Bool
  | .Starred _ _ => false
  | _ => true
def nslice : Expr → Bool
  | .Slice _ _ _ _ => false
  | _ => true
def ckLit : D → Const → Bool
  | .none, .none => true
  | .bool a, .bool b => a == b
  | .int i, .int j => i == j
  | .str s, .str t => s == t
  | _, _ => false
def isName : Expr → Bool
  | .Name _ _ => true
  | _ => false
def ckBlk (c : Ck) (scope : Scope) (own : List (Str × Nat)) : Bool := blkC c.N { kind := .function, names := c.names, isGenerator := false, isCoroutine := false } scope own
/-- a block's context -/
def blkNames (c : Ck) (l : List (Str × NameKind)) : List (Str × NameKind) := l.map fun (n, k) => if (k == .free && c.names.lookup n == some .cell) then (n, .cell) else (n, k)
def Ck.blk (c : Ck) (scope : Scope) : Ck := { c with names := blkNames c scope.names, own := some scope.names }
mutual
def slots : Pt → List Nat
  | .nm i => [i]
  | .tp ps => slotss ps
def slotss : Pts → List Nat
  | .nil => []
  | .cons p ps => slots p ++ slotss ps
end
mutual
def ckP (c : Ck) : Pt → Expr → Bool
  | .nm i, .Name x _ => ckSt c i x
  | .tp ps, .Tuple es _ _ => c.calm && ckPs c ps es
  | _, _ => false
def ckPs (c : Ck) : Pts → List Expr → Bool
  | .nil, [] => true
  | .cons p ps, e :: es => nstar e && ckP c p e && ckPs c ps es
  | _, _ => false
end
/-- a type's name -/
def ckTy (c : Ck) (G : Pg) (t : String) (e : Expr) : Bool := match e with
  | .Name y _ => decide (y = PySem.Str.ofString t) && ckGl c y && ["int", "bool", "str", "tuple", "list"].contains t && decide (y ∈ G.bis)
  | _ => false
def ckTys (c : Ck) (G : Pg) : List String → List Expr → Bool
  | [], [] => true
  | t :: ts, e :: es => ckTy c G t e && ckTys c G ts es
  | _, _ => false
/-- the built-in functions that are carried -/
inductive BiK where
  | fn (id : String) | ty (T : String) | im (id : String)
def biTab : List (String × BiK) := [("len", .fn "len"), ("abs", .fn "abs"), ("max", .fn "max"), ("min", .fn "min"), ("all", .fn "all"), ("any", .fn "any"), ("int", .ty "int"), ("tuple", .ty "tuple"), ("gcd", .im "math.gcd"), ("isqrt", .im "math.isqrt"), ("sum", .fn "sum"), ("list", .ty "list"), ("mlist", .ty "list")]
def ckBi (c : Ck) (G : Pg) (b : String) (y : Str) : Bool := decide (y = PySem.Str.ofString (biNm b)) && ckGl c y && (match biTab.lookup b with
  | some (.fn _) => decide (y ∈ G.bis)
  | some (.ty _) => decide (y ∈ G.bis)
  | some (.im id) => decide (G.imps.lookup y = some id)
  | none => false) && (c.calm || !(["max", "min", "all", "any", "sum"].contains b))
/-- the keys of a display: ints and texts, each once -/
def ckKey : Key → Option Expr → Bool
  | .inl i, some (.Constant (.int j) _ _) => i == j
  | .inr i, some (.Constant (.str j) _ _) => i == j
  | _, _ => false
def ckKeys : List Key → List (Option Expr) → Bool
  | [], [] => true
  | k :: ks, e :: es => ckKey k e && ckKeys ks es
  | _, _ => false
variable (G : Pg)
mutual
def ckE (c : Ck) : Ex → Expr → Bool
  | .loc i, .Name x _ => ckLoc c i x
  | .gl x, .Name y _ => x == y && ckGl c y
  | .lit d, .Constant k _ _ => ckLit d k
  | .op o a b, .BinOp l o' r _ => o == o' && ckE c a l && ckE c b r
  | .neg a, .UnaryOp .USub x _ => ckE c a x
  | .not a, .UnaryOp .Not x _ => ckE c a x
  | .cmp o a b, .Compare l [o'] [r] _ => o == o' && ckE c a l && ckE c b r && nset r
  | .chain o o2 a b d, .Compare l [o', o2'] [r, u] _ => o == o' && o2 == o2' && ckE c a l && ckE c b r && ckE c d u && nset r && nset u
  | .bop o es, .BoolOp o' l _ => o == o' && ckEs c es l && !l.isEmpty
  | .ite t a b, .IfExp t' a' b' _ => ckE c t t' && ckE c a a' && ckE c b b'
  | .tup es, .Tuple l _ _ => ckEs c es l
  | .lst _ es, .List l _ => ckEs c es l
  | .dix ks vs i, .Subscript (.Dict keys vals _) i' _ => ckKeys ks keys && ckEs c vs vals && decide (keys.length = vals.length) && decide ks.Nodup && !keys.isEmpty && decide (keys.length ≤ 15) && ckE c i i' && nslice i'
  | .gix x i, .Subscript (.Name y _) i' _ => x == y && ckGl c y && (G.dict.lookup x).isSome && ckE c i i' && nslice i'
  | .ix a i, .Subscript a' i' _ => ckE c a a' && ckE c i i' && nslice i'
  | .slc a lo hi, .Subscript a' (.Slice lo' hi' none _) _ => ckE c a a' && ckO c lo lo' && ckO c hi hi'
  | .rev a, .Subscript a' (.Slice none none (some (.UnaryOp .USub (.Constant (.int 1) _ _) _)) _) _ => ckE c a a'
  | .call f es ks kes, .Call (.Name y _) l kws _ => f == y && ckGl c y && ckEs c es l && ckKs c ks kes kws && (G.defs.lookup f).isSome && c.calm
  | .bi b es, .Call (.Name y _) l [] _ => ckBi c G b y && ckEs c es l && !l.isEmpty
  | .isi a false [t], .Call (.Name y _) [l, r] [] _ => decide (y = ("isinstance" : Str)) && ckGl c y && decide (("isinstance" : Str) ∈ G.bis) && ckE c a l && nstar l && ckTy c G t r
  | .isi a true ts, .Call (.Name y _) [l, .Tuple rs _ _] [] _ => decide (y = ("isinstance" : Str)) && ckGl c y && decide (("isinstance" : Str) ∈ G.bis) && ckE c a l && nstar l && ckTys c G ts rs && decide (rs.length ≤ 5)
  | .mth m o es, .Call (.Attribute o' n apos) l [] cpos => (match mtTab.lookup m with | some (_, n', ar) => decide (n' = n) && decide (l.length = ar) | none => false) && ckE c o o' && isName o' && ckEs c es l && (apos.endLine == cpos.line)
  | .lc _ own p it cd e, .ListComp e' [⟨tg, iter, ifs, isA⟩] scope _ => isA == 0 && c.calm && ckBlk c scope own && (slots p).all (fun i => (own.map (·.2)).contains i) && ckP (c.blk scope) p tg && ckI c it tg iter && ckC (c.blk scope) cd ifs && ckE (c.blk scope) e e'
  | .fld a f, .Attribute (.Name x _) n _ => f == n && decide (n = ("value" : Str)) && (match a with | .loc i => ckLoc c i x | _ => false)
  | _, _ => false
def ckEs (c : Ck) : Exs → List Expr → Bool
  | .nil, [] => true
  | .cons e es, l :: ls => nstar l && ckE c e l && ckEs c es ls
  | _, _ => false
def ckO (c : Ck) : Exo → Option Expr → Bool
  | .no, none => true
  | .so e, some l => ckE c e l
  | _, _ => false
def ckC (c : Ck) : Exo → List Expr → Bool
  | .no, [] => true
  | .so e, [l] => ckE c e l
  | _, _ => false
def ckKs (c : Ck) : List Str → Exs → List Keyword → Bool
  | [], .nil, [] => true
  | k :: ks, .cons e es, ⟨some n, l, _⟩ :: r => k == n && ckE c e l && ckKs c ks es r
  | _, _, _ => false
def ckI (c : Ck) : Itx → Expr → Expr → Bool
  | .seq e, _, l => ckE c e l && nset l
  | .rng1 a, _, .Call (.Name y _) [l] [] _ => decide (y = ("range" : Str)) && ckGl c y && decide (y ∈ G.bis) && nstar l && ckE c a l
  | .rng2 a b, _, .Call (.Name y _) [l, r] [] _ => decide (y = ("range" : Str)) && ckGl c y && decide (y ∈ G.bis) && nstar l && nstar r && ckE c a l && ckE c b r
  | .enum e, .Tuple _ _ _, .Call (.Name y _) [l] [] _ => decide (y = ("enumerate" : Str)) && ckGl c y && decide (y ∈ G.bis) && nstar l && ckE c e l
  | .zip a b, .Tuple _ _ _, .Call (.Name y _) [l, r] [] _ => decide (y = ("zip" : Str)) && ckGl c y && decide (y ∈ G.bis) && nstar l && nstar r && ckE c a l && ckE c b r
  | _, _, _ => false
end
end EV

set_option Elab.async false
set_option linter.all false
set_option maxRecDepth 100000
set_option maxHeartbeats 4000000
/-! EV, part 6: what is known of a program; expressions: the checker and the evaluator are sound. -/
namespace EV
open PySem PySem.Spec PyProof.Rows L2

/-! ### what a call promises -/
def PQ {α β : Type} (K : PySem.W.Frag) (mg : Str → Option Value) (rel : Mp → Hp → α → β → Prop) (m : Mp) (H : Hp) (x : Res α) (Q : β → Hp → Prop) (E : XK) : Prop := match x with
  | .ok a S' => ∀ m' H' b, Ext m H m' H' → Sim K m' S' H' → rel m' H' a b → Q b H'
  | .ex c d S' => ∀ m' H' C dd w, Ext m H m' H' → Sim K m' S' H' → mg c = some (.ref C) → ¬ Lv m' dd → H' dd = some (.xd [(("value" : Str), w)]) → DV K (Lv m') H' d w → E (.ref C) (some dd) H'
  | .no => False
theorem PO.pq {α β : Type} {X : Cx} {W : WX} {rel : Mp → Hp → α → β → Prop} {m : Mp} {H : Hp} {σ : L2.St} {x : Res α} {Q : β → Hp → Prop} (h : PO X W rel m H σ x Q) : PQ X.K X.mg rel m H x Q (WE W σ) := by
  cases x <;> exact h
def spC (K : PySem.W.Frag) (mg : Str → Option Value) (ps : List Str) (x : List R → Sto → Res R) : Sp := fun vs H Q E =>
  vs.length = ps.length ∧ ∃ m S rs, Sim K m S H ∧ RVs K none m H rs vs ∧ PQ K mg (RV K none) m H (x rs S) Q E
theorem RV.nocur {K : PySem.W.Frag} {cur : Cur} {m : Mp} {H : Hp} {r : R} {v : V} (h : RV K cur m H r v) (o : okR r = true) : RV K none m H r v := by
  cases r <;> first | exact h | cases o
theorem RV.anycur {K : PySem.W.Frag} {cur : Cur} {m : Mp} {H : Hp} {r : R} {v : V} (h : RV K none m H r v) : RV K cur m H r v := by
  cases r with
  | x c d => obtain ⟨_, _, _, z, _⟩ := h; cases z
  | _ => exact h
theorem RVs.nocur {K : PySem.W.Frag} {cur : Cur} {m : Mp} {H : Hp} : ∀ {rs : List R} {vs : List V}, RVs K cur m H rs vs → rs.all okR = true → RVs K none m H rs vs
  | _, _, .nil, _ => .nil
  | _, _, .cons h t, o => by
    rw [List.all_cons, Bool.and_eq_true] at o
    exact .cons (h.nocur o.1) (RVs.nocur t o.2)
/-! ### positional values and keywords in the parameters' order -/
section
variable {α β : Type} {F : α → β → Prop}
theorem look_rel {p : Str} : ∀ {ks : List Str} {us : List α} {ws : List β}, Paired F us ws → ((ks.zip us).lookup p = none ∧ (ks.zip ws).lookup p = none) ∨ ∃ x y, (ks.zip us).lookup p = some x ∧ (ks.zip ws).lookup p = some y ∧ F x y
  | [], _, _, _ => .inl ⟨by simp, by simp⟩
  | k :: ks, _, _, .nil => .inl ⟨by simp, by simp⟩
  | k :: ks, _, _, .cons h t => by
    simp only [List.zip_cons_cons, List.lookup_cons]
    by_cases e : p == k
    · simp only [e]
      exact .inr ⟨_, _, rfl, rfl, h⟩
    · simp only [e]
      exact look_rel t
theorem filt_rel {ks : List Str} {us : List α} {ws : List β} (h : Paired F us ws) : ∀ ps : List Str, Paired F (ps.filterMap fun p => (ks.zip us).lookup p) (ps.filterMap fun p => (ks.zip ws).lookup p)
  | [] => .nil
  | p :: ps => by
    rw [List.filterMap_cons, List.filterMap_cons]
    rcases look_rel (p := p) (ks := ks) h with ⟨e1, e2⟩ | ⟨x, y, e1, e2, r⟩
    · rw [e1, e2]
      exact filt_rel h ps
    · rw [e1, e2]
      exact .cons r (filt_rel h ps)
theorem app_rel : ∀ {xs xs' : List α} {ys ys' : List β}, Paired F xs ys → Paired F xs' ys' → Paired F (xs ++ xs') (ys ++ ys')
  | _, _, _, _, .nil, s => s
  | _, _, _, _, .cons r t, s => .cons r (app_rel t s)
theorem arr_rel {ps ks : List Str} {us us' : List α} {ws ws' : List β} (h : Paired F us ws) (h' : Paired F us' ws') : Paired F (arr ps ks us us') (arr ps ks ws ws') := by
  unfold arr
  rw [Paired.length h]
  exact app_rel h (filt_rel h' _)
end
/-! ### the facts -/
structure ExF (P : Program) (w : World) (K : PySem.W.Frag) (mg : Str → Option Value) (base : Heap) (C : Addr) : Prop where
  oex : OexC K C
  xf : XfC K C
  no : PySem.W.findIn K (.ref C) "value" = some none
  ini : ∃ fI fd, PySem.W.findIn K (.ref C) "__init__" = some (some (.ref fI)) ∧ PySem.W.typeIn K (.ref fI) = some (.type "function") ∧ Binds K fd ["self", "value"] [] ∧
    FnOk P w K mg base CX0 1 fI fd ["self", "value"] (fun vs H Q _ => ∃ a v, vs = [.ref a, v] ∧ H a = some (exo a C none) ∧
      ∀ dx, H dx = none → dx ≠ a → Q .non (upd (upd H dx (exd dx [(("value" : Str), v)])) a (exo a C (some dx))))
/-- a dict of the module, its keys ints -/
def EntsI (K : PySem.W.Frag) : List (Int × D) → List DictEntry → Prop
  | [], [] => True
  | p :: r, e :: es => (∃ t, e.key = .int p.1 t) ∧ e.hash = hashInt p.1 ∧ (∃ v, RelV v e.val ∧ ∀ L H, DV K L H p.2 v) ∧ EntsI K r es
  | _, _ => False
def KDI (K : PySem.W.Frag) (a : Addr) (kvs : List (Int × D)) : Prop := ∃ es n, K.lookup a = some ⟨.type "dict", none, .dict es n, #[]⟩ ∧ EntsI K kvs es.toList
theorem EntsI.keys {K : PySem.W.Frag} : ∀ {kvs : List (Int × D)} {l : List DictEntry}, EntsI K kvs l → ∀ e ∈ l, ∃ k t, e.key = .int k t ∧ e.hash = hashInt k
  | [], [], _, e, he => by cases he
  | p :: r, e0 :: es, h, e, he => by
    obtain ⟨⟨t, h1⟩, h2, _, h4⟩ := h
    rcases List.mem_cons.mp he with rfl | he
    · exact ⟨_, t, h1, h2⟩
    · exact EntsI.keys h4 e he
  | [], _ :: _, h, _, _ => h.elim
  | _ :: _, [], h, _, _ => h.elim
theorem EntsI.find {K : PySem.W.Frag} {k : Int} {d : D} : ∀ {kvs : List (Int × D)} {l : List DictEntry}, EntsI K kvs l → kvs.lookup k = some d → ∃ e v, (l.find? fun e => Value.isInt k e.key) = some e ∧ RelV v e.val ∧ ∀ L H, DV K L H d v
  | [], [], _, q => by cases q
  | p :: r, e0 :: es, h, q => by
    obtain ⟨⟨t, h1⟩, h2, ⟨v, h3, h5⟩, h4⟩ := h
    rw [List.lookup_cons] at q
    rw [List.find?_cons, h1]
    by_cases z : k == p.1
    · simp only [z] at q
      cases q
      have z := eq_of_beq z
      subst z
      have e1 : Value.isInt p.1 (.int p.1 t) = true := by simp [Value.isInt]
      rw [e1]
      exact ⟨e0, v, rfl, h3, h5⟩
    · simp only [z] at q
      have e1 : Value.isInt k (.int p.1 t) = false := by
        have z : ¬ k = p.1 := by simpa using z
        simp [Value.isInt, Ne.symm z]
      rw [e1]
      exact EntsI.find h4 q
  | [], _ :: _, h, _ => h.elim
  | _ :: _, [], h, _ => h.elim
theorem mapOf_KI {P : Program} {w : World} {h : Heap} {K : PySem.W.Frag} {a : Addr} {es : Array DictEntry} {n : Nat} {kvs : List (Int × D)} (X : K.In h) (hl : K.lookup a = some ⟨.type "dict", none, .dict es n, #[]⟩) (hk : EntsI K kvs es.toList) :
    h.MapOf (intKind P w) a (fun k => findBy Value.isInt es k) :=
  ⟨_, es, n, X _ _ hl, ⟨rfl, rfl, rfl⟩, rfl, fun e he => by
    obtain ⟨x, t, e1, e2⟩ := hk.keys e (Array.mem_toList_iff.mpr he)
    exact ⟨x, by rw [e1]; exact intKind_is P w x t, e2⟩, fun _ => rfl⟩
def rIxI (K : PySem.W.Frag) : R2 := fun x y H Q => ∃ p kvs k d, x = .ref p ∧ y = .int k ∧ KDI K p kvs ∧ kvs.lookup k = some d ∧ ∀ v, (∀ L H, DV K L H d v) → Q v H
theorem ix_kdictI {X : Cx} : IxR X (rIxI X.K) := by
  intro value slice pins s σ H x y v u Q I rx ry h hs
  obtain ⟨p, kvs, k, d, rfl, rfl, ⟨es, n, hl, hk⟩, q, h⟩ := h
  obtain rfl : v = Value.ref p := rx
  obtain ⟨t, rfl⟩ := ry
  have hm := mapOf_KI (P := X.prog) (w := X.w) I.kIn hl hk
  obtain ⟨e, w0, e1, e2, e3⟩ := hk.find q
  have ef : findBy Value.isInt es k = some e.val := by
    obtain ⟨l⟩ := es
    unfold findBy
    rw [List.find?_toArray]
    rw [show (l.find? fun e => Value.isInt k e.key) = some e from e1]
    rfl
  exact tail_any hm.typeIs slot_dict_getitem.lookup (wpAny_getItem_of (intKind_is X.prog X.w k t) hm ef ⟨w0, H, I.tok _, e2, h _ e3⟩) hs
structure Fct (G : Pg) (call : Str → List R → Sto → Res R) (k : Nat) (P : Program) (w : World) (K : PySem.W.Frag) (mg : Str → Option Value) (base : Heap) : Prop where
  defs : ∀ f df, G.defs.lookup f = some df → ∃ a fd, mg f = some (.ref a) ∧ PySem.W.keepIn K (.ref a) = true ∧ FnOk P w K mg base (L2.CX P w) k a fd df.ps (spC K mg df.ps (call f)) ∧
    ∀ n ks, (n, ks) ∈ df.forms → KBn K fd df.ps n ks (arr df.ps ks) (arr df.ps ks)
  glob : ∀ x d, G.glob.lookup x = some d → ∃ u v, mg x = some u ∧ RelV v u ∧ ∀ L H, DV K L H d v
  bis : ∀ b ∈ G.bis, mg b = none
  imps : ∀ x id, G.imps.lookup x = some id → mg x = some (.builtin id)
  excs : ∀ c l, G.subs.lookup c = some l → ∃ C, mg c = some (.ref C) ∧ ExF P w K mg base C
  cat : ∀ c l h C, G.subs.lookup c = some l → mg c = some (.ref C) → ∀ C', mg h = some (.ref C') → (∃ l', G.subs.lookup h = some l') → PySem.W.exmOne K (.ref C) (.ref C') = some (decide (h ∈ l))
  dict : ∀ x kvs, G.dict.lookup x = some kvs → ∃ a, mg x = some (.ref a) ∧ KDI K a kvs
  lev : 2 ≤ k
/-- a context in which a text stands -/
structure Gd (G : Pg) (call : Str → List R → Sto → Res R) (k : Nat) (c : Ck) (cur : Cur) (X : Cx) (W : WX) : Prop where
  fx : Fct G call k X.prog X.w X.K X.mg X.base
  N : X.N = c.N
  nd : X.N.Nodup
  names : X.env.scope.names = c.names
  kind : X.env.scope.kind = .function
  fn : match c.own with | none => ∀ x, X.fn x = true | some l => ∀ x, l.lookup x = some .cell → X.fn x = true
  room : c.calm = true → Room k X.A
  un : X.A.units + 64 < cLine
  tk : Takes X W
  calm : c.calm = true → X.calm = true
  cu : ∀ a cn dd, cur = some (a, cn, dd) → ∃ X0 oe pn C l, X = Cx.suite X0 a ((a, oe) :: pn) ∧ Zc (.ref C) (some dd) oe ∧ (∃ vs, oe.data = .fields vs) ∧ X.mg cn = some (.ref C) ∧ G.subs.lookup cn = some l
section
variable {X : Cx} {e : Expr} {es : List Expr} {st : Stmt} {sts : List Stmt}
theorem PE.imp {t t' : TE} (h : PE X e t) (k : ∀ σ H Q, t' σ H Q → t σ H Q) : PE X e t' := ⟨fun pins s σ H Q I hw => h.run pins s σ H Q I (k σ H Q hw)⟩
theorem PT.imp {t t' : TT} (h : PT X e t) (k : ∀ σ H Q, t' σ H Q → t σ H Q) : PT X e t' := ⟨fun pins s σ H Q I hw => h.run pins s σ H Q I (k σ H Q hw)⟩
theorem PA.imp {t t' : TA} (h : PA X es t) (k : ∀ σ H Q, t' σ H Q → t σ H Q) : PA X es t' := ⟨fun pos pins s σ H Q I hw => h.run pos pins s σ H Q I (k σ H Q hw)⟩
theorem PW.imp {t t' : TT} (h : PW X e t) (k : ∀ σ H Q, t' σ H Q → t σ H Q) : PW X e t' := ⟨fun wh pins s σ H Q I hw => h.run wh pins s σ H Q I (k σ H Q hw)⟩
end
/-! ### conditions of the layer's rules -/
section
variable {env : Env}
theorem star_cons {e : Expr} {es : List Expr} (h : nstar e = true) : starEach (e :: es) env = (false, eval e env) :: starEach es env := by
  cases e <;> first | rfl | cases h
theorem behind_nset {op : CmpOp} {e : Expr} (h : nset e = true) : behindInMarks op e = false := by
  cases e <;> first | rfl | cases h
theorem plainIx_of {e : Expr} (h : nslice e = true) : PlainIx e := fun o i => by
  cases e <;> first | rfl | cases h
theorem fold_nset {e : Expr} (h : nset e = true) (x : Value) : foldedSetIterable e env x = pure x := by
  cases e <;> first | rfl | cases h
end
theorem stars_of {G : Pg} {c : Ck} : ∀ {xs : Exs} {es : List Expr}, ckEs G c xs es = true → ∀ e ∈ es, nstar e = true
  | .nil, [], _, e, h => by cases h
  | .cons x xs, l :: ls, h, e, he => by
    simp only [ckEs, Bool.and_eq_true] at h
    rcases List.mem_cons.mp he with rfl | he
    · exact h.1.1
    · exact stars_of h.2 e he
  | .nil, _ :: _, h, _, _ => by simp [ckEs] at h
  | .cons _ _, [], h, _, _ => by simp [ckEs] at h
theorem plain_any {pos : Pos} {env : Env} : ∀ {es : List Expr}, (∀ e ∈ es, nstar e = true) → (backTo pos (starEach es env)).any (·.1) = false
  | [], _ => rfl
  | e :: es, h => by
    rw [star_cons (h e (List.mem_cons_self ..))]
    have ih := plain_any (pos := pos) (env := env) (es := es) fun x hx => h x (List.mem_cons_of_mem _ hx)
    unfold backTo at *
    rw [List.map_cons, List.any_cons, ih]
    rfl
section
variable {G : Pg} {call : Str → List R → Sto → Res R} {k : Nat} {c : Ck} {cur : Cur} {X : Cx} {W : WX}
theorem Gd.gl (g : Gd G call k c cur X W) {x : Str} (h : ckGl c x = true) : Gl X x ∧ (x == ("__debug__" : Str)) = false := by
  simp only [ckGl, notDbg, Bool.and_eq_true, decide_eq_true_eq, Bool.not_eq_true'] at h
  refine ⟨?_, h.2⟩
  unfold Gl Env.kindOf
  rw [g.names]
  exact h.1
theorem Gd.loc (g : Gd G call k c cur X W) {i : Nat} {x : Str} (h : ckLoc c i x = true) : X.N[i]? = some x ∧ Vis X.env.scope x ∧ (x == ("__debug__" : Str)) = false ∧ (x == ("__classdict__" : Str)) = false := by
  simp only [ckLoc, notDbg, Bool.and_eq_true, Bool.or_eq_true, decide_eq_true_eq, Bool.not_eq_true'] at h
  refine ⟨by rw [g.N]; exact h.1.1.1, ?_, h.1.2, h.2⟩
  unfold Vis
  rw [g.names]
  rcases h.1.1.2 with (q | q) | q
  · exact .inl q
  · exact .inr (.inl q)
  · exact .inr (.inr q)
theorem Gd.st (g : Gd G call k c cur X W) {i : Nat} {x : Str} (h : ckSt c i x = true) : X.N[i]? = some x ∧ L2.Loc X.env.scope x ∧ (X.fn x = true ∨ X.env.scope.names.lookup x = some .local) := by
  simp only [ckSt, Bool.and_eq_true, Bool.or_eq_true, decide_eq_true_eq] at h
  refine ⟨by rw [g.N]; exact h.1, ?_, ?_⟩
  · unfold L2.Loc
    rw [g.names]
    rcases h.2 with q | q
    · exact .inl q
    · exact .inr q.1
  · rw [g.names]
    rcases h.2 with q | q
    · exact .inr q
    · have f := g.fn
      have q2 := q.2
      cases e : c.own with
      | none => rw [e] at f; exact .inl (f x)
      | some l =>
        rw [e] at f q2
        exact .inl (f x (by simpa using q2))
theorem Gd.hu (g : Gd G call k c cur X W) : X.A.units + 64 < cLine := g.un
end
/-! ### truth -/
section
variable {X : Cx} {W : WX} {cur : Cur} {γ δ : Type} {rel' : Mp → Hp → γ → δ → Prop} {m : Mp} {H : Hp} {σ : L2.St}
theorem truthR_ok {r : R} {S : Sto} {v : V} {g : Bool → Sto → Res γ} {Q : δ → Hp → Prop} (h : PO X W rel' m H σ ((truthR r S).bind g) Q) (s : Sim X.K m S H) (q : RV X.K cur m H r v) : ∃ k, TruV X.K v H k ∧ PO X W rel' m H σ (g k S) Q := by
  unfold truthR at h
  cases e : rdD S r with
  | none => rw [e] at h; exact h.elim
  | some d =>
    rw [e] at h
    cases e2 : truthD d with
    | none => simp only [e2, resB] at h; exact h.elim
    | some k =>
      simp only [e2, resB] at h
      exact ⟨k, truth_ok' e2 (rdD_ok e s q), h⟩
theorem truthR_id {r : R} {S S2 : Sto} {k : Bool} (h : truthR r S = .ok k S2) : S2 = S := by
  unfold truthR at h
  split at h
  · unfold resB at h
    split at h
    · cases h; rfl
    · cases h
  · cases h
theorem truthR_nex {r : R} {S S2 : Sto} {c : Str} {d : D} : truthR r S ≠ .ex c d S2 := by
  unfold truthR
  split
  · unfold resB
    split <;> simp
  · simp
end
def relB : Mp → Hp → Bool → Bool → Prop := fun _ _ a b => a = b
def relO : Mp → Hp → Option Int → Option Int → Prop := fun _ _ a b => a = b
section
variable {G : Pg} {call : Str → List R → Sto → Res R}
theorem evT_not {a : Ex} {ρ : Rho} {S : Sto} : evT G call (.not a) ρ S = (evT G call a ρ S).bind fun k S1 => .ok (!k) S1 := by
  unfold evT
  simp only [evE]
  cases evE G call a ρ S with
  | ok x S1 =>
    simp only [Res.bind_ok]
    cases truthR x S1 with
    | ok k S2 => simp only [Res.bind_ok, truthR, rdD, truthD, resB]
    | ex c d S2 => rfl
    | no => rfl
  | ex c d S1 => rfl
  | no => rfl
def evBT (o : BoolOp) (es : Exs) (ρ : Rho) (S : Sto) : Res Bool := (evB G call o es ρ S).bind truthR
theorem evBT_one {o : BoolOp} {e : Ex} {ρ : Rho} {S : Sto} : evBT (G := G) (call := call) o (.cons e .nil) ρ S = evT G call e ρ S := by
  unfold evBT evT
  simp only [evB]
theorem evBT_cons {o : BoolOp} {e e2 : Ex} {es : Exs} {ρ : Rho} {S : Sto} : evBT (G := G) (call := call) o (.cons e (.cons e2 es)) ρ S = (evT G call e ρ S).bind fun k S1 =>
    if k = goB o then evBT (G := G) (call := call) o (.cons e2 es) ρ S1 else .ok k S1 := by
  unfold evBT evT
  simp only [evB]
  cases evE G call e ρ S with
  | ok x S1 =>
    simp only [Res.bind_ok]
    cases q : truthR x S1 with
    | ok k S2 =>
      have z := truthR_id q
      subst z
      simp only [Res.bind_ok]
      split
      · rfl
      · simp only [Res.bind_ok, q]
    | ex c d S2 => rfl
    | no => rfl
  | ex c d S1 => rfl
  | no => rfl
end
/-! ### calls of the program's own defs -/
section
variable {X : Cx} {CX : CXT} {k n : Nat} {f : Addr} {fd : FuncData} {ps ks : List Str} {sp : Sp} {E : L2.St → XK} {x : Str} {p pos : Pos} {es : List Expr} {kws : List Keyword} {t tk : TA} {g : List Value → List Value → List Value} {gV : List V → List V → List V}
theorem run_callX {pins : List (Addr × Obj)} {σ : L2.St} {H : Hp} {s : Shared} {Q : VK} {us ws : List Value} {vs zs : List V} (F : FnOk X.prog X.w X.K X.mg X.base CX k f fd ps sp) (hr : Room k X.A) (hb : KBn X.K fd ps n ks g gV) (hx : PassesAt CX X σ (E σ))
    (I : L2.Inv X pins σ H s) (r : Vals vs us) (rz : Vals zs ws) (l1 : vs.length = n) (l2 : zs.length = ks.length) (h : sp (gV vs zs) H Q (E σ)) : wpAny (model X.prog X.w) X.A (PySem.call (.ref f) us (ks.zip ws)) (EP X pins σ Q) X.xe s := by
  have r2 := hb.rel r rz
  refine wpAny_call (codeAny_mono (F.run X.A X.stack s H ⟨us, ks.zip ws⟩ (g us ws) (gV vs zs) Q (E σ) hr I.env0 (hb.to s us ws I.kIn (r.length.symm.trans l1) (rz.length.symm.trans l2)) r2 h) fun r s' hq => ?_)
  cases r with
  | error e => exact hx pins H s e s' I hq
  | ok fl =>
    cases fl with
    | ret u => exact I.after hq
    | next => exact False.elim hq
    | brk => exact False.elim hq
    | cont => exact False.elim hq
theorem pe_callX (F : FnOk X.prog X.w X.K X.mg X.base CX k f fd ps sp) (hr : Room k X.A) (hg : Gl X x) (hm : X.mg x = some (.ref f)) (hk : PySem.W.keepIn X.K (.ref f) = true) (hx : ∀ σ, PassesAt CX X σ (E σ))
    {e : Expr} (ha : PA X (e :: es) t) (hkw : PK X kws tk) (hall : ∀ pos, (backToKw pos (keywordEach kws X.env)).all (·.1.isSome) = true) (hks : ∀ pos, (backToKw pos (keywordEach kws X.env)).filterMap (·.1) = ks)
    (hdb : (x == ("__debug__" : Str)) = false) (hst : ∀ y ∈ e :: es, nstar y = true) (hnk : ∀ pos, (backToKw pos (keywordEach kws X.env)).any (·.1.isNone) = false) :
    PE X (.Call (.Name x p) (e :: es) kws pos) (fun σ H Q => t σ H fun vs H1 => tk σ H1 fun zs H2 => KBn X.K fd ps vs.length ks g gV ∧ zs.length = ks.length ∧ sp (gV vs zs) H2 Q (E σ)) := by
  refine ⟨fun pins s σ H Q I h => ?_⟩
  refine wpAny_Call_Name_kw (ld_glob I hg hm ?_ hdb)
  have hpl : ((backTo pos (starEach (e :: es) X.env)).any (·.1) || (backToKw pos (keywordEach kws X.env)).any (·.1.isNone)) = false := by rw [plain_any hst, hnk]; rfl
  refine PySem.W.callWith_KW (h₀ := X.base) I.ok.mod.kin hk (hall pos) (thn (ha.run pos pins s σ H _ I h) fun us s1 ⟨vs, H1, I1, r, q⟩ => ?_) hpl (star_cons (hst e (List.mem_cons_self ..)))
  refine thn (hkw.run pos pins s1 σ H1 _ I1 q) fun ws s2 ⟨zs, H2, I2, rz, l1, l2, q2⟩ => ⟨I2.kIn, ?_⟩
  rw [hks pos]
  exact run_callX F hr l1 (hx σ) I2 r rz rfl l2 q2
theorem pe_callX0 (F : FnOk X.prog X.w X.K X.mg X.base CX k f fd ps sp) (hr : Room k X.A) (hg : Gl X x) (hm : X.mg x = some (.ref f)) (hk : PySem.W.keepIn X.K (.ref f) = true) (hx : ∀ σ, PassesAt CX X σ (E σ))
    (hkw : PK X kws tk) (hall : ∀ pos, (backToKw pos (keywordEach kws X.env)).all (·.1.isSome) = true) (hks : ∀ pos, (backToKw pos (keywordEach kws X.env)).filterMap (·.1) = ks)
    (hdb : (x == ("__debug__" : Str)) = false) (hnk : ∀ pos, (backToKw pos (keywordEach kws X.env)).any (·.1.isNone) = false) :
    PE X (.Call (.Name x p) [] kws pos) (fun σ H Q => tk σ H fun zs H2 => KBn X.K fd ps 0 ks g gV ∧ zs.length = ks.length ∧ sp (gV [] zs) H2 Q (E σ)) := by
  refine ⟨fun pins s σ H Q I h => ?_⟩
  refine wpAny_Call_Name_kw (ld_glob I hg hm ?_ hdb)
  refine PySem.W.callWith_KW0 (h₀ := X.base) I.ok.mod.kin hk (hall pos) ?_ (by rw [hnk]; rfl)
  refine thn (hkw.run pos pins s σ H _ I h) fun ws s2 ⟨zs, H2, I2, rz, l1, l2, q2⟩ => ⟨I2.kIn, ?_⟩
  rw [hks pos]
  exact run_callX F hr l1 (hx σ) I2 .nil rz rfl l2 q2
theorem kw_all {G : Pg} {c : Ck} {env : Env} (pos : Pos) : ∀ {ks : List Str} {xs : Exs} {kws : List Keyword}, ckKs G c ks xs kws = true →
    (backToKw pos (keywordEach kws env)).all (·.1.isSome) = true ∧ (backToKw pos (keywordEach kws env)).filterMap (·.1) = ks ∧ (backToKw pos (keywordEach kws env)).any (·.1.isNone) = false
  | [], .nil, [], _ => ⟨rfl, rfl, rfl⟩
  | k :: ks, .cons x xs, ⟨some n, l, p⟩ :: r, h => by
    simp only [ckKs, Bool.and_eq_true] at h
    obtain ⟨h1, h2, h3⟩ := kw_all (env := env) pos h.2
    have e : k = n := by simpa using h.1.1
    unfold backToKw at *
    unfold keywordEach
    rw [List.map_cons, List.all_cons, List.filterMap_cons, List.any_cons, h1, h2, h3, e]
    exact ⟨rfl, rfl, rfl⟩
  | [], .nil, _ :: _, h => by simp [ckKs] at h
  | [], .cons _ _, _, h => by simp [ckKs] at h
  | _ :: _, .nil, _, h => by simp [ckKs] at h
  | _ :: _, .cons _ _, [], h => by simp [ckKs] at h
  | _ :: _, .cons _ _, ⟨none, _, _⟩ :: _, h => by simp [ckKs] at h
end
end EV

set_option Elab.async false
set_option linter.all false
set_option maxRecDepth 100000
set_option maxHeartbeats 4000000
/-! EV, part 7: targets, what is walked, comprehensions. -/
namespace EV
open PySem PySem.Spec PyProof.Rows L2

/-! ### targets -/
def SameOff (l : List Nat) (σ σ' : L2.St) : Prop := σ'.length = σ.length ∧ ∀ j, j ∉ l → σ'[j]? = σ[j]?
theorem SameOff.refl {l : List Nat} {σ : L2.St} : SameOff l σ σ := ⟨rfl, fun _ _ => rfl⟩
theorem SameOff.trans {l l' : List Nat} {σ σ1 σ2 : L2.St} (h : SameOff l σ σ1) (h' : SameOff l' σ1 σ2) : SameOff (l ++ l') σ σ2 :=
  ⟨h'.1.trans h.1, fun j hj => by
    rw [List.mem_append, not_or] at hj
    exact (h'.2 j hj.2).trans (h.2 j hj.1)⟩
theorem SameOff.set {σ : L2.St} {i : Nat} {x : Option V} : SameOff [i] σ (σ.set i x) := ⟨by simp, fun j hj => by
  rw [List.getElem?_set_ne]
  intro z
  exact hj (by simp [z])⟩
theorem wipe_get {σ : L2.St} : ∀ {vs : List Nat} {j : Nat}, (wipe σ vs)[j]? = if j ∈ vs ∧ j < σ.length then some none else σ[j]?
  | [], j => by simp [wipe]
  | v :: vs, j => by
    unfold wipe
    by_cases h : v = j
    · subst h
      by_cases hl : v < σ.length
      · rw [List.getElem?_set_self (by rw [wipe_length]; exact hl), if_pos ⟨List.mem_cons_self .., hl⟩]
      · rw [List.getElem?_eq_none (by rw [List.length_set, wipe_length]; omega), if_neg (fun z => hl z.2), List.getElem?_eq_none (by omega)]
    · rw [List.getElem?_set_ne h, wipe_get]
      have e : (j ∈ v :: vs ∧ j < σ.length) ↔ (j ∈ vs ∧ j < σ.length) := by
        rw [List.mem_cons]
        constructor
        · rintro ⟨z | z, y⟩
          · exact absurd z.symm h
          · exact ⟨z, y⟩
        · rintro ⟨z, y⟩
          exact ⟨.inr z, y⟩
      simp only [e]
theorem wipe_same {σ σ' : L2.St} {l vs : List Nat} (h : SameOff l (wipe σ vs) σ') (hl : ∀ i ∈ l, i ∈ vs) : wipe σ' vs = wipe σ vs := by
  apply List.ext_getElem?
  intro j
  have e : σ'.length = σ.length := h.1.trans (wipe_length ..)
  rw [wipe_get, e]
  by_cases hj : j ∈ vs ∧ j < σ.length
  · rw [if_pos hj, wipe_get, if_pos hj]
  · rw [if_neg hj]
    by_cases hv : j ∈ vs
    · have : ¬ j < σ.length := fun z => hj ⟨hv, z⟩
      rw [List.getElem?_eq_none (by rw [e]; omega), List.getElem?_eq_none (by rw [wipe_length]; omega)]
    · exact h.2 j fun z => hv (hl j z)
theorem wipeR_get {ρ : Rho} : ∀ {vs : List Nat} {j : Nat}, (wipeR ρ vs)[j]? = if j ∈ vs ∧ j < ρ.length then some none else ρ[j]?
  | [], j => by simp [wipeR]
  | v :: vs, j => by
    have hlen : ∀ vs, (wipeR ρ vs).length = ρ.length := fun vs => by
      induction vs with
      | nil => rfl
      | cons v vs ih => unfold wipeR; rw [List.length_set, ih]
    unfold wipeR
    by_cases h : v = j
    · subst h
      by_cases hl : v < ρ.length
      · rw [List.getElem?_set_self (by rw [hlen]; exact hl), if_pos ⟨List.mem_cons_self .., hl⟩]
      · rw [List.getElem?_eq_none (by rw [List.length_set, hlen]; omega), if_neg (fun z => hl z.2), List.getElem?_eq_none (by omega)]
    · rw [List.getElem?_set_ne h, wipeR_get]
      have e : (j ∈ v :: vs ∧ j < ρ.length) ↔ (j ∈ vs ∧ j < ρ.length) := by
        rw [List.mem_cons]
        constructor
        · rintro ⟨z | z, y⟩
          · exact absurd z.symm h
          · exact ⟨z, y⟩
        · rintro ⟨z, y⟩
          exact ⟨.inr z, y⟩
      simp only [e]
theorem wipeR_len {ρ : Rho} : ∀ vs, (wipeR ρ vs).length = ρ.length
  | [] => rfl
  | v :: vs => by unfold wipeR; rw [List.length_set, wipeR_len vs]
theorem LV.wipe {K : PySem.W.Frag} {cur : Cur} {m : Mp} {H : Hp} {ρ : Rho} {σ : L2.St} (h : LV K cur m H ρ σ) (vs : List Nat) : LV K cur m H (wipeR ρ vs) (L2.wipe σ vs) := by
  refine ⟨by rw [wipeR_len, wipe_length]; exact h.len, fun i r e => ?_⟩
  rw [wipeR_get] at e
  rw [wipe_get]
  by_cases z : i ∈ vs ∧ i < ρ.length
  · rw [if_pos z] at e
    cases e
  · rw [if_neg z] at e
    rw [if_neg (by rw [← h.len]; exact z)]
    exact h.at_ i r e
def gX (K : PySem.W.Frag) (cur : Cur) (p : Pt) : TG := fun v σ H Q => ∃ m ρ d ρ', LV K cur m H ρ σ ∧ DV K (Lv m) H d v ∧ bindP p d ρ = some ρ' ∧ ∀ σ', LV K cur m H ρ' σ' → SameOff (slots p) σ σ' → Q σ' H
def gXs (K : PySem.W.Frag) (cur : Cur) (ps : Pts) : TGs := fun vs σ H Q => ∃ m ρ ds ρ', LV K cur m H ρ σ ∧ DVs K (Lv m) H ds vs ∧ bindPs ps ds ρ = some ρ' ∧ ∀ σ', LV K cur m H ρ' σ' → SameOff (slotss ps) σ σ' → Q σ' H
section
variable {X : Cx}
theorem PG.imp {tg : Expr} {t t' : TG} (h : PG X tg t) (k : ∀ v σ H Q, t' v σ H Q → t v σ H Q) : PG X tg t' := ⟨fun pins s σ H v u Q I r hw => h.run pins s σ H v u Q I r (k v σ H Q hw)⟩
theorem PGs.imp {tg : List Expr} {t t' : TGs} (h : PGs X tg t) (k : ∀ v σ H Q, t' v σ H Q → t v σ H Q) : PGs X tg t' := ⟨fun pins s σ H v u Q I r hw => h.run pins s σ H v u Q I r (k v σ H Q hw)⟩
theorem PG.or {tg : Expr} {t t' : TG} (h : PG X tg t) (h' : PG X tg t') : PG X tg (fun v σ H Q => t v σ H Q ∨ t' v σ H Q) := ⟨fun pins s σ H v u Q I r hw => by
  rcases hw with hw | hw
  · exact h.run pins s σ H v u Q I r hw
  · exact h'.run pins s σ H v u Q I r hw⟩
theorem asg_len {env : Env} : ∀ es : List Expr, (assignEach es env).length = es.length
  | [] => rfl
  | e :: es => by
    have ih := asg_len (env := env) es
    cases e <;> (unfold assignEach; simp only [List.length_cons, ih])
theorem asg_star {env : Env} : ∀ {es : List Expr}, (∀ e ∈ es, nstar e = true) → (assignEach es env).findIdx? (·.1) = none
  | [], _ => rfl
  | e :: es, h => by
    have ih := asg_star (env := env) (es := es) fun x hx => h x (List.mem_cons_of_mem _ hx)
    have h0 := h e (List.mem_cons_self ..)
    cases e <;> first | (unfold assignEach; rw [List.findIdx?_cons, ih]; rfl) | cases h0
theorem asg_map {env : Env} {e : Expr} {es : List Expr} (h : nstar e = true) : (assignEach (e :: es) env).map (·.2) = assign e env :: (assignEach es env).map (·.2) := by
  cases e <;> first | rfl | cases h
theorem pts_star {c : Ck} : ∀ {ps : Pts} {es : List Expr}, ckPs c ps es = true → ∀ e ∈ es, nstar e = true
  | .nil, [], _, e, h => by cases h
  | .cons p ps, l :: ls, h, e, he => by
    simp only [ckPs, Bool.and_eq_true] at h
    rcases List.mem_cons.mp he with rfl | he
    · exact h.1.1
    · exact pts_star h.2 e he
  | .nil, _ :: _, h, _, _ => by simp [ckPs] at h
  | .cons _ _, [], h, _, _ => by simp [ckPs] at h
theorem bindPs_len : ∀ {ps : Pts} {ds : List D} {ρ ρ' : Rho} {es : List Expr} {c : Ck}, bindPs ps ds ρ = some ρ' → ckPs c ps es = true → ds.length = es.length
  | .nil, [], _, _, [], _, _, _ => rfl
  | .cons p ps, d :: ds, ρ, ρ', e :: es, c, h, k => by
    simp only [ckPs, Bool.and_eq_true] at k
    simp only [bindPs] at h
    split at h
    · have := bindPs_len h k.2
      simp [this]
    · cases h
  | .nil, _ :: _, _, _, _, _, h, _ => by simp [bindPs] at h
  | .cons _ _, [], _, _, _, _, h, _ => by simp [bindPs] at h
  | .nil, [], _, _, _ :: _, _, _, k => by simp [ckPs] at k
  | .cons _ _, _ :: _, _, _, [], _, _, k => by simp [ckPs] at k
variable {G : Pg} {call : Str → List R → Sto → Res R} {k : Nat} {c : Ck} {cur : Cur} {W : WX}
mutual
theorem sP (g : Gd G call k c cur X W) : ∀ (p : Pt) (tg : Expr), ckP c p tg = true → PG X tg (gX X.K cur p)
  | .nm i, .Name x pos, h => by
    obtain ⟨h1, h2, h3⟩ := g.st h
    refine PG.imp (pg_name g.nd h1 h2 h3) fun v σ H Q ⟨m, ρ, d, ρ', lv, dv, e, q⟩ => ?_
    simp only [bindP, Option.some.injEq] at e
    subst e
    exact q _ (lv.set i (r := .v d) dv) .set
  | .tp ps, .Tuple es _ pos, h => by
    simp only [ckP, Bool.and_eq_true] at h
    have hs := sPs g ps es h.2
    have st := pts_star h.2
    refine PG.imp (PG.or (pg_tup (g.calm h.1) hs (asg_len es) (asg_star st)) (pg_lst (g.calm h.1) hs (asg_len es) (asg_star st))) fun v σ H Q ⟨m, ρ, d, ρ', lv, dv, e, q⟩ => ?_
    cases d with
    | tuple ds =>
      obtain ⟨a, vs, rfl, hq, hd⟩ := dv_tup_inv dv
      refine .inl ⟨a, vs, rfl, hq, ?_, m, ρ, ds, ρ', lv, hd, e, q⟩
      rw [← hd.len]
      exact bindPs_len e h.2
    | list ds =>
      obtain ⟨a, vs, rfl, n, hq, hd⟩ := dv_lst_inv dv
      refine .inr ⟨a, vs, rfl, SqL.of hq, ?_, m, ρ, ds, ρ', lv, hd, e, q⟩
      rw [← hd.len]
      exact bindPs_len e h.2
    | _ => cases e
  | .nm _, .BoolOp .., h | .nm _, .NamedExpr .., h | .nm _, .BinOp .., h | .nm _, .UnaryOp .., h | .nm _, .Lambda .., h | .nm _, .IfExp .., h | .nm _, .Dict .., h | .nm _, .Set .., h | .nm _, .ListComp .., h | .nm _, .SetComp .., h | .nm _, .DictComp .., h | .nm _, .GeneratorExp .., h | .nm _, .Await .., h | .nm _, .Yield .., h | .nm _, .YieldFrom .., h | .nm _, .Compare .., h | .nm _, .Call .., h | .nm _, .FormattedValue .., h | .nm _, .JoinedStr .., h | .nm _, .Constant .., h | .nm _, .Attribute .., h | .nm _, .Subscript .., h | .nm _, .Starred .., h | .nm _, .List .., h | .nm _, .Tuple .., h | .nm _, .Slice .., h => by simp [ckP] at h
  | .tp _, .BoolOp .., h | .tp _, .NamedExpr .., h | .tp _, .BinOp .., h | .tp _, .UnaryOp .., h | .tp _, .Lambda .., h | .tp _, .IfExp .., h | .tp _, .Dict .., h | .tp _, .Set .., h | .tp _, .ListComp .., h | .tp _, .SetComp .., h | .tp _, .DictComp .., h | .tp _, .GeneratorExp .., h | .tp _, .Await .., h | .tp _, .Yield .., h | .tp _, .YieldFrom .., h | .tp _, .Compare .., h | .tp _, .Call .., h | .tp _, .FormattedValue .., h | .tp _, .JoinedStr .., h | .tp _, .Constant .., h | .tp _, .Attribute .., h | .tp _, .Subscript .., h | .tp _, .Starred .., h | .tp _, .List .., h | .tp _, .Name .., h | .tp _, .Slice .., h => by simp [ckP] at h
theorem sPs (g : Gd G call k c cur X W) : ∀ (ps : Pts) (es : List Expr), ckPs c ps es = true → PGs X es (gXs X.K cur ps)
  | .nil, [], h => PGs.imp pgs_nil fun vs σ H Q ⟨m, ρ, ds, ρ', lv, dv, e, q⟩ => by
    cases ds with
    | nil =>
      cases (show vs = [] from dv)
      cases e
      exact ⟨rfl, q σ lv .refl⟩
    | cons d ds => cases e
  | .cons p ps, l :: ls, h => by
    simp only [ckPs, Bool.and_eq_true] at h
    refine PGs.imp (pgs_cons (sP g p l h.1.2) (sPs g ps ls h.2) (asg_map h.1.1)) fun vs σ H Q ⟨m, ρ, ds, ρ', lv, dv, e, q⟩ => ?_
    cases ds with
    | nil => cases e
    | cons d ds =>
      obtain ⟨v, r, rfl, d1, d2⟩ := dv
      simp only [bindPs] at e
      split at e
      · rename_i ρ1 e1
        exact ⟨v, r, rfl, m, ρ, d, ρ1, lv, d1, e1, fun σ1 lv1 so1 => ⟨m, ρ1, ds, ρ', lv1, d2, e, fun σ2 lv2 so2 => q σ2 lv2 (so1.trans so2)⟩⟩
      · cases e
  | .nil, _ :: _, h => by simp [ckPs] at h
  | .cons _ _, [], h => by simp [ckPs] at h
end
end
/-! ### what is walked -/
def WalkD (K : PySem.W.Frag) (m : Mp) (H : Hp) (ds : List D) (J : It) : Prop := ∀ m2 S2 H2, Ext m H m2 H2 → Sim K m2 S2 H2 →
  (∀ i d, ds[i]? = some d → J.go i H2 ∧ ∀ x H3, J.yld i H2 x H3 → Ext m2 H2 m2 H3 ∧ Sim K m2 S2 H3 ∧ DV K (Lv m2) H3 d x) ∧ J.stop ds.length H2
section
variable {K : PySem.W.Frag} {m : Mp} {H : Hp}
theorem walkD_list {a : Addr} {ds : List D} (h : DV K (Lv m) H (.list ds) (.ref a)) : WalkD K m H ds (Itl K a) := by
  intro m2 S2 H2 x sm
  obtain ⟨a', vs, e, n, hq, hd⟩ := dv_lst_inv (DV.keep x.keep _ _ h)
  cases e
  refine ⟨fun i d e => ?_, vs, SqL.of hq, by rw [hd.len]; exact Nat.le_refl _⟩
  obtain ⟨v, e1, e2⟩ := hd.get e
  refine ⟨⟨vs, v, SqL.of hq, e1⟩, fun y H3 hy => ?_⟩
  obtain ⟨rfl, hy⟩ := hy
  have z := hy vs (SqL.of hq)
  rw [e1] at z
  cases z
  exact ⟨.refl, sm, e2⟩
theorem walkD_tup {a : Addr} {ds : List D} (h : DV K (Lv m) H (.tuple ds) (.ref a)) : WalkD K m H ds (Itt K a) := by
  intro m2 S2 H2 x sm
  obtain ⟨a', vs, e, hq, hd⟩ := dv_tup_inv (DV.keep x.keep _ _ h)
  cases e
  refine ⟨fun i d e => ?_, vs, hq, by rw [hd.len]; exact Nat.le_refl _⟩
  obtain ⟨v, e1, e2⟩ := hd.get e
  refine ⟨⟨vs, v, hq, e1⟩, fun y H3 hy => ?_⟩
  obtain ⟨rfl, hy⟩ := hy
  have z := hy vs hq
  rw [e1] at z
  cases z
  exact ⟨.refl, sm, e2⟩
theorem scr_sq {cur : Cur} {l : List Int} {v : V} (h : RV K cur m H (.s l) v) : ∃ a, v = .ref a ∧ SqL K H a (l.map .int) := by
  obtain ⟨a, e, z⟩ := h
  refine ⟨a, e, ?_⟩
  rcases z with ⟨_, z⟩ | z
  · exact .inl z
  · exact .inr z
theorem walkD_scr {cur : Cur} {a : Addr} {l : List Int} (h : RV K cur m H (.s l) (.ref a)) : WalkD K m H (l.map .int) (Itl K a) := by
  intro m2 S2 H2 x sm
  obtain ⟨a', e, hq⟩ := scr_sq (h.ext x)
  cases e
  refine ⟨fun i d e => ?_, _, hq, by simp⟩
  rw [List.getElem?_map] at e
  cases q : l[i]? with
  | none => rw [q] at e; cases e
  | some n =>
    rw [q] at e
    cases e
    refine ⟨⟨_, .int n, hq, by rw [List.getElem?_map, q]; rfl⟩, fun y H3 hy => ?_⟩
    obtain ⟨rfl, hy⟩ := hy
    have z := hy _ hq
    rw [List.getElem?_map, q] at z
    cases z
    exact ⟨.refl, sm, dv_int⟩
theorem walkD_rng {lo : Int} {n : Nat} : WalkD K m H (rngD lo n) (Itr lo n) := by
  intro m2 S2 H2 x sm
  refine ⟨fun i d e => ?_, by show n ≤ _; simp [rngD]⟩
  unfold rngD at e
  rw [List.getElem?_map] at e
  by_cases hi : i < n
  · rw [List.getElem?_range hi] at e
    cases e
    refine ⟨hi, fun y H3 hy => ?_⟩
    obtain ⟨rfl, rfl⟩ := hy
    exact ⟨.refl, sm, dv_int⟩
  · rw [List.getElem?_eq_none (by simpa using hi)] at e
    cases e
theorem pair_new {S : Sto} {H2 : Hp} {m2 : Mp} {p : Addr} {d e : D} {x y : V} (sm : Sim K m2 S H2) (hp : H2 p = none) (hx : DV K (Lv m2) H2 d x) (hy : DV K (Lv m2) H2 e y) :
    Ext m2 H2 m2 (upd H2 p (.tup [x, y])) ∧ Sim K m2 S (upd H2 p (.tup [x, y])) ∧ DV K (Lv m2) (upd H2 p (.tup [x, y])) (.tuple [d, e]) (.ref p) := by
  have x1 := Ext.new (o := .tup [x, y]) sm hp
  refine ⟨x1, sm.new hp, dv_tup (sm.fresh hp) upd_same ?_⟩
  exact ⟨x, [y], rfl, DV.keep x1.keep _ _ hx, y, [], rfl, DV.keep x1.keep _ _ hy, rfl⟩
theorem walkD_enum {a : Addr} {ds : List D} (h : DV K (Lv m) H (.list ds) (.ref a)) : WalkD K m H (enumD ds) (Ite K a) := by
  intro m2 S2 H2 x sm
  obtain ⟨a', vs, e, n, hq, hd⟩ := dv_lst_inv (DV.keep x.keep _ _ h)
  cases e
  refine ⟨fun i d e => ?_, vs, SqL.of hq, by simp [enumD, hd.len]⟩
  unfold enumD at e
  rw [List.getElem?_map, List.getElem?_zipIdx] at e
  cases q : ds[i]? with
  | none => rw [q] at e; cases e
  | some b =>
    rw [q] at e
    cases e
    obtain ⟨v, e1, e2⟩ := hd.get q
    refine ⟨⟨vs, v, SqL.of hq, e1⟩, fun y H3 hy => ?_⟩
    obtain ⟨T, z, rfl, hT, rfl, hz⟩ := hy
    have w := hz vs (SqL.of hq)
    rw [e1] at w
    cases w
    have e3 : ((0 + i : Nat) : Int) = (i : Int) := by omega
    simp only [e3]
    exact pair_new sm hT dv_int e2
theorem zip_get {ds es : List D} {i : Nat} {d : D} (h : (zipD ds es)[i]? = some d) : ∃ x y, ds[i]? = some x ∧ es[i]? = some y ∧ d = .tuple [x, y] := by
  unfold zipD at h
  rw [List.getElem?_map] at h
  cases q : (ds.zip es)[i]? with
  | none => rw [q] at h; cases h
  | some p =>
    rw [q] at h
    cases h
    obtain ⟨e1, e2⟩ := List.getElem?_zip_eq_some.mp q
    exact ⟨_, _, e1, e2, rfl⟩
theorem walkD_zipL {a b : Addr} {ds es : List D} (h : DV K (Lv m) H (.list ds) (.ref a)) (h' : DV K (Lv m) H (.list es) (.ref b)) : WalkD K m H (zipD ds es) (Itz K a b) := by
  intro m2 S2 H2 x sm
  obtain ⟨a', vs, e, n, hq, hd⟩ := dv_lst_inv (DV.keep x.keep _ _ h)
  cases e
  obtain ⟨b', us, e, n', hq', hd'⟩ := dv_lst_inv (DV.keep x.keep _ _ h')
  cases e
  refine ⟨fun i d e => ?_, vs, us, SqL.of hq, SqL.of hq', ?_⟩
  · obtain ⟨d1, d2, q1, q2, rfl⟩ := zip_get e
    obtain ⟨v, e1, e2⟩ := hd.get q1
    obtain ⟨u, e3, e4⟩ := hd'.get q2
    refine ⟨⟨vs, us, v, u, SqL.of hq, SqL.of hq', e1, e3⟩, fun y H3 hy => ?_⟩
    obtain ⟨T, z1, z2, rfl, hT, rfl, hz, hz'⟩ := hy
    have w := hz vs (SqL.of hq)
    rw [e1] at w
    cases w
    have w := hz' us (SqL.of hq')
    rw [e3] at w
    cases w
    exact pair_new sm hT e2 e4
  · simp only [zipD, List.length_map, List.length_zip, hd.len, hd'.len]
    omega
theorem walkD_zipT {a b : Addr} {ds es : List D} (h : DV K (Lv m) H (.tuple ds) (.ref a)) (h' : DV K (Lv m) H (.tuple es) (.ref b)) : WalkD K m H (zipD ds es) (RZ.ItzT K a b) := by
  intro m2 S2 H2 x sm
  obtain ⟨a', vs, e, hq, hd⟩ := dv_tup_inv (DV.keep x.keep _ _ h)
  cases e
  obtain ⟨b', us, e, hq', hd'⟩ := dv_tup_inv (DV.keep x.keep _ _ h')
  cases e
  refine ⟨fun i d e => ?_, vs, us, hq, hq', ?_⟩
  · obtain ⟨d1, d2, q1, q2, rfl⟩ := zip_get e
    obtain ⟨v, e1, e2⟩ := hd.get q1
    obtain ⟨u, e3, e4⟩ := hd'.get q2
    refine ⟨⟨vs, us, v, u, hq, hq', e1, e3⟩, fun y H3 hy => ?_⟩
    obtain ⟨T, z1, z2, rfl, hT, rfl, hz, hz'⟩ := hy
    have w := hz vs hq
    rw [e1] at w
    cases w
    have w := hz' us hq'
    rw [e3] at w
    cases w
    exact pair_new sm hT e2 e4
  · simp only [zipD, List.length_map, List.length_zip, hd.len, hd'.len]
    omega
end
def relI (K : PySem.W.Frag) : Mp → Hp → List D → It → Prop := fun m H ds J => WalkD K m H ds J
section
variable {X : Cx} {tg : Expr}
theorem PI.imp {l : Expr} {t t' : TI} (h : PI X tg l t) (k : ∀ σ H R, t' σ H R → t σ H R) : PI X tg l t' := ⟨fun pins s σ H R I hw => h.run pins s σ H R I (k σ H R hw)⟩
/-- a list or a tuple -/
def iSeq (K : PySem.W.Frag) (tl : TE) : TI := fun σ H R => tl σ H fun x H1 => ∃ a, x = .ref a ∧ (((∃ xs, SqL K H1 a xs) ∧ R (Itl K a) H1) ∨ ((∃ xs, SqT K H1 a xs) ∧ R (Itt K a) H1))
theorem pi_seq {l : Expr} {tl : TE} (hl : PE X l tl) : PI X tg l (iSeq X.K tl) := by
  refine ⟨fun pins s σ H R I h => ?_⟩
  refine thn (hl.run pins s σ H _ I h) fun v s1 ⟨x, H1, I1, r1, q1⟩ => ?_
  obtain ⟨a, e, q⟩ := q1
  subst e
  cases r1
  rcases q with ⟨⟨xs, hq⟩, q⟩ | ⟨⟨xs, hq⟩, q⟩
  · obtain ⟨its, rv, p, hz⟩ := I1.list hq
    refine wpAny_pyIter_list p.isList ?_
    refine ⟨s1.heap.objs.size, [s1.heap.objs.size], _, _, H1, rfl, I1.kept (t' := s1.toks) fun b o e => Heap.get?_push_of_some _ e, turn_list a _, ⟨_, Heap.get?_push_size _ rfl, rfl, rfl⟩, fun b hb => ?_, q⟩
    have e : b = s1.heap.objs.size := by simpa using hb
    subst e
    exact I1.fpOk (Nat.le_refl _) (I1.hok.fresh (Nat.le_refl _))
  · obtain ⟨its, rv, p, hz⟩ := I1.tuple hq
    refine wpAny_pyIter_tuple (show s1.heap.IsTuple a its.toArray from p) ?_
    refine ⟨s1.heap.objs.size, [s1.heap.objs.size], _, _, H1, rfl, I1.kept (t' := s1.toks) fun b o e => Heap.get?_push_of_some _ e, turn_tuple a _, ⟨_, Heap.get?_push_size _ rfl, rfl, rfl⟩, fun b hb => ?_, q⟩
    have e : b = s1.heap.objs.size := by simpa using hb
    subst e
    exact I1.fpOk (Nat.le_refl _) (I1.hok.fresh (Nat.le_refl _))
end
end EV

set_option Elab.async false
set_option linter.all false
set_option maxRecDepth 100000
set_option maxHeartbeats 4000000
/-! EV, part 8: expressions are sound. -/
namespace EV
open PySem PySem.Spec PyProof.Rows L2

/-! ### what the checker has seen -/
section
variable {G : Pg} {c : Ck} {e : Expr}
theorem inv_loc {i : Nat} (h : ckE G c (.loc i) e = true) : ∃ x pos, e = .Name x pos ∧ ckLoc c i x = true := by
  cases e <;> first | exact absurd (show (false : Bool) = true from h) Bool.false_ne_true | skip
  exact ⟨_, _, rfl, h⟩
theorem inv_gl {x : Str} (h : ckE G c (.gl x) e = true) : ∃ pos, e = .Name x pos ∧ ckGl c x = true := by
  cases e <;> first | exact absurd (show (false : Bool) = true from h) Bool.false_ne_true | skip
  simp only [ckE, Bool.and_eq_true, beq_iff_eq] at h
  obtain ⟨rfl, h⟩ := h
  exact ⟨_, rfl, h⟩
theorem inv_lit {d : D} (h : ckE G c (.lit d) e = true) : ∃ k n pos, e = .Constant k n pos ∧ ckLit d k = true := by
  cases e <;> first | exact absurd (show (false : Bool) = true from h) Bool.false_ne_true | skip
  exact ⟨_, _, _, rfl, h⟩
theorem inv_op {o : Operator} {a b : Ex} (h : ckE G c (.op o a b) e = true) : ∃ l r pos, e = .BinOp l o r pos ∧ ckE G c a l = true ∧ ckE G c b r = true := by
  cases e <;> first | exact absurd (show (false : Bool) = true from h) Bool.false_ne_true | skip
  simp only [ckE, Bool.and_eq_true, beq_iff_eq] at h
  obtain ⟨⟨rfl, h1⟩, h2⟩ := h
  exact ⟨_, _, _, rfl, h1, h2⟩
theorem inv_neg {a : Ex} (h : ckE G c (.neg a) e = true) : ∃ l pos, e = .UnaryOp .USub l pos ∧ ckE G c a l = true := by
  cases e <;> first | exact absurd (show (false : Bool) = true from h) Bool.false_ne_true | skip
  rename_i op _ _
  cases op <;> first | exact absurd (show (false : Bool) = true from h) Bool.false_ne_true | exact ⟨_, _, rfl, h⟩
theorem inv_not {a : Ex} (h : ckE G c (.not a) e = true) : ∃ l pos, e = .UnaryOp .Not l pos ∧ ckE G c a l = true := by
  cases e <;> first | exact absurd (show (false : Bool) = true from h) Bool.false_ne_true | skip
  rename_i op _ _
  cases op <;> first | exact absurd (show (false : Bool) = true from h) Bool.false_ne_true | exact ⟨_, _, rfl, h⟩
theorem inv_cmp {o : CmpOp} {a b : Ex} (h : ckE G c (.cmp o a b) e = true) : ∃ l r pos, e = .Compare l [o] [r] pos ∧ ckE G c a l = true ∧ ckE G c b r = true ∧ nset r = true := by
  cases e <;> first | exact absurd (show (false : Bool) = true from h) Bool.false_ne_true | skip
  rename_i l ops rs pos
  match ops, rs, h with
  | [o'], [r], h =>
    simp only [ckE, Bool.and_eq_true, beq_iff_eq] at h
    obtain ⟨⟨⟨rfl, h1⟩, h2⟩, h3⟩ := h
    exact ⟨_, _, _, rfl, h1, h2, h3⟩
  | [], _, h => exact absurd (show (false : Bool) = true from h) Bool.false_ne_true
  | _ :: _ :: _, _, h => exact absurd (show (false : Bool) = true from h) Bool.false_ne_true
  | [_], [], h => exact absurd (show (false : Bool) = true from h) Bool.false_ne_true
  | [_], _ :: _ :: _, h => exact absurd (show (false : Bool) = true from h) Bool.false_ne_true
theorem inv_chain {o o2 : CmpOp} {a b d : Ex} (h : ckE G c (.chain o o2 a b d) e = true) : ∃ l r u pos, e = .Compare l [o, o2] [r, u] pos ∧ ckE G c a l = true ∧ ckE G c b r = true ∧ ckE G c d u = true ∧ nset u = true := by
  cases e <;> first | exact absurd (show (false : Bool) = true from h) Bool.false_ne_true | skip
  rename_i l ops rs pos
  match ops, rs, h with
  | [o', o2'], [r, u], h =>
    simp only [ckE, Bool.and_eq_true, beq_iff_eq] at h
    obtain ⟨⟨⟨⟨⟨⟨rfl, rfl⟩, h1⟩, h2⟩, h3⟩, h4⟩, h5⟩ := h
    exact ⟨_, _, _, _, rfl, h1, h2, h3, h5⟩
  | [], _, h => exact absurd (show (false : Bool) = true from h) Bool.false_ne_true
  | [_], _, h => exact absurd (show (false : Bool) = true from h) Bool.false_ne_true
  | _ :: _ :: _ :: _, _, h => exact absurd (show (false : Bool) = true from h) Bool.false_ne_true
  | [_, _], [], h => exact absurd (show (false : Bool) = true from h) Bool.false_ne_true
  | [_, _], [_], h => exact absurd (show (false : Bool) = true from h) Bool.false_ne_true
  | [_, _], _ :: _ :: _ :: _, h => exact absurd (show (false : Bool) = true from h) Bool.false_ne_true
theorem inv_bop {o : BoolOp} {es : Exs} (h : ckE G c (.bop o es) e = true) : ∃ l pos, e = .BoolOp o l pos ∧ ckEs G c es l = true ∧ l ≠ [] := by
  cases e <;> first | exact absurd (show (false : Bool) = true from h) Bool.false_ne_true | skip
  simp only [ckE, Bool.and_eq_true, beq_iff_eq] at h
  obtain ⟨⟨rfl, h1⟩, h2⟩ := h
  exact ⟨_, _, rfl, h1, fun z => by subst z; simp at h2⟩
theorem inv_ite {t a b : Ex} (h : ckE G c (.ite t a b) e = true) : ∃ u l r pos, e = .IfExp u l r pos ∧ ckE G c t u = true ∧ ckE G c a l = true ∧ ckE G c b r = true := by
  cases e <;> first | exact absurd (show (false : Bool) = true from h) Bool.false_ne_true | skip
  simp only [ckE, Bool.and_eq_true] at h
  obtain ⟨⟨h1, h2⟩, h3⟩ := h
  exact ⟨_, _, _, _, rfl, h1, h2, h3⟩
theorem inv_tup {es : Exs} (h : ckE G c (.tup es) e = true) : ∃ l n pos, e = .Tuple l n pos ∧ ckEs G c es l = true := by
  cases e <;> first | exact absurd (show (false : Bool) = true from h) Bool.false_ne_true | skip
  exact ⟨_, _, _, rfl, h⟩
theorem inv_lst {mu : Bool} {es : Exs} (h : ckE G c (.lst mu es) e = true) : ∃ l pos, e = .List l pos ∧ ckEs G c es l = true := by
  cases e <;> first | exact absurd (show (false : Bool) = true from h) Bool.false_ne_true | skip
  exact ⟨_, _, rfl, h⟩
theorem inv_ix {a i : Ex} (h : ckE G c (.ix a i) e = true) : ∃ l r pos, e = .Subscript l r pos ∧ ckE G c a l = true ∧ ckE G c i r = true ∧ nslice r = true := by
  cases e <;> first | exact absurd (show (false : Bool) = true from h) Bool.false_ne_true | skip
  simp only [ckE, Bool.and_eq_true] at h
  obtain ⟨⟨h1, h2⟩, h3⟩ := h
  exact ⟨_, _, _, rfl, h1, h2, h3⟩
theorem inv_slc {a : Ex} {lo hi : Exo} (h : ckE G c (.slc a lo hi) e = true) : ∃ l u v p2 pos, e = .Subscript l (.Slice u v none p2) pos ∧ ckE G c a l = true ∧ ckO G c lo u = true ∧ ckO G c hi v = true := by
  cases e <;> first | exact absurd (show (false : Bool) = true from h) Bool.false_ne_true | skip
  rename_i l s pos
  cases s <;> first | exact absurd (show (false : Bool) = true from h) Bool.false_ne_true | skip
  rename_i u v st p2
  cases st with
  | some st => exact absurd (show (false : Bool) = true from h) Bool.false_ne_true
  | none =>
    simp only [ckE, Bool.and_eq_true] at h
    obtain ⟨⟨h1, h2⟩, h3⟩ := h
    exact ⟨_, _, _, _, _, rfl, h1, h2, h3⟩
theorem inv_rev {a : Ex} (h : ckE G c (.rev a) e = true) : ∃ l k p1 p2 p3 pos, e = .Subscript l (.Slice none none (some (.UnaryOp .USub (.Constant (.int 1) k p1) p2)) p3) pos ∧ ckE G c a l = true := by
  unfold ckE at h
  split at h <;> first | exact absurd h Bool.false_ne_true | (rename_i q; cases q)
  exact ⟨_, _, _, _, _, _, rfl, h⟩
theorem inv_call {f : Str} {es kes : Exs} {ks : List Str} (h : ckE G c (.call f es ks kes) e = true) : ∃ p l kws pos, e = .Call (.Name f p) l kws pos ∧ ckGl c f = true ∧ ckEs G c es l = true ∧ ckKs G c ks kes kws = true ∧ (G.defs.lookup f).isSome = true ∧ c.calm = true := by
  unfold ckE at h
  split at h <;> first | exact absurd h Bool.false_ne_true | (rename_i q; cases q)
  simp only [Bool.and_eq_true, beq_iff_eq] at h
  obtain ⟨⟨⟨⟨⟨rfl, h1⟩, h2⟩, h3⟩, h4⟩, h5⟩ := h
  exact ⟨_, _, _, _, rfl, h1, h2, h3, h4, h5⟩
theorem inv_bi {b : String} {es : Exs} (h : ckE G c (.bi b es) e = true) : ∃ y p l pos, e = .Call (.Name y p) l [] pos ∧ ckBi c G b y = true ∧ ckEs G c es l = true ∧ l ≠ [] := by
  unfold ckE at h
  split at h <;> first | exact absurd h Bool.false_ne_true | (rename_i q; cases q)
  simp only [Bool.and_eq_true] at h
  obtain ⟨⟨h1, h2⟩, h3⟩ := h
  exact ⟨_, _, _, _, rfl, h1, h2, fun z => by subst z; simp at h3⟩
theorem inv_isi {a : Ex} {tu : Bool} {ts : List String} (h : ckE G c (.isi a tu ts) e = true) : ∃ p l r pos, e = .Call (.Name "isinstance" p) [l, r] [] pos ∧ ckGl c "isinstance" = true ∧ (("isinstance" : Str) ∈ G.bis) ∧ ckE G c a l = true ∧ nstar l = true ∧
    ((∃ t, ts = [t] ∧ ckTy c G t r = true) ∨ ∃ rs n p2, r = .Tuple rs n p2 ∧ ckTys c G ts rs = true ∧ rs.length ≤ 5) := by
  unfold ckE at h
  split at h <;> first | exact absurd h Bool.false_ne_true | (rename_i q; cases q)
  · simp only [Bool.and_eq_true, decide_eq_true_eq] at h
    obtain ⟨⟨⟨⟨⟨rfl, h1⟩, h2⟩, h3⟩, h4⟩, h5⟩ := h
    exact ⟨_, _, _, _, rfl, h1, h2, h3, h4, .inl ⟨_, rfl, h5⟩⟩
  · simp only [Bool.and_eq_true, decide_eq_true_eq] at h
    obtain ⟨⟨⟨⟨⟨⟨rfl, h1⟩, h2⟩, h3⟩, h4⟩, h5⟩, h6⟩ := h
    exact ⟨_, _, _, _, rfl, h1, h2, h3, h4, .inr ⟨_, _, _, rfl, h5, h6⟩⟩
theorem inv_mth {m : String} {o : Ex} {es : Exs} (h : ckE G c (.mth m o es) e = true) : ∃ o' n apos l cpos ty ar, e = .Call (.Attribute o' n apos) l [] cpos ∧ mtTab.lookup m = some (ty, n, ar) ∧ l.length = ar ∧ ckE G c o o' = true ∧ isName o' = true ∧ ckEs G c es l = true ∧ (apos.endLine == cpos.line) = true := by
  unfold ckE at h
  split at h <;> first | exact absurd h Bool.false_ne_true | (rename_i q; cases q)
  simp only [Bool.and_eq_true] at h
  obtain ⟨⟨⟨⟨h1, h2⟩, h3⟩, h4⟩, h5⟩ := h
  split at h1
  · rename_i ty n' ar em
    simp only [Bool.and_eq_true, decide_eq_true_eq] at h1
    obtain ⟨rfl, h1⟩ := h1
    exact ⟨_, _, _, _, _, _, _, rfl, em, h1, h2, h3, h4, h5⟩
  · exact absurd h1 Bool.false_ne_true
theorem inv_lc {mu : Bool} {own : List (Str × Nat)} {p : Pt} {it : Itx} {cd : Exo} {x : Ex} (h : ckE G c (.lc mu own p it cd x) e = true) : ∃ e' tg iter ifs scope pos, e = .ListComp e' [⟨tg, iter, ifs, 0⟩] scope pos ∧ c.calm = true ∧ ckBlk c scope own = true ∧
    ((slots p).all fun i => (own.map (·.2)).contains i) = true ∧ ckP (c.blk scope) p tg = true ∧ ckI G c it tg iter = true ∧ ckC G (c.blk scope) cd ifs = true ∧ ckE G (c.blk scope) x e' = true := by
  unfold ckE at h
  split at h <;> first | exact absurd h Bool.false_ne_true | (rename_i q; cases q)
  simp only [Bool.and_eq_true, beq_iff_eq] at h
  obtain ⟨⟨⟨⟨⟨⟨⟨rfl, h1⟩, h2⟩, h3⟩, h4⟩, h5⟩, h6⟩, h7⟩ := h
  exact ⟨_, _, _, _, _, _, rfl, h1, h2, h3, h4, h5, h6, h7⟩
theorem inv_fld {a : Ex} {f : Str} (h : ckE G c (.fld a f) e = true) : ∃ x p pos i, e = .Attribute (.Name x p) "value" pos ∧ f = "value" ∧ a = .loc i ∧ ckLoc c i x = true := by
  unfold ckE at h
  split at h <;> first | exact absurd h Bool.false_ne_true | (rename_i q; cases q)
  simp only [Bool.and_eq_true, beq_iff_eq, decide_eq_true_eq] at h
  obtain ⟨⟨rfl, rfl⟩, h⟩ := h
  cases a with
  | loc i => exact ⟨_, _, _, _, rfl, rfl, rfl, h⟩
  | _ => exact absurd h Bool.false_ne_true
theorem inv_seq {e : Ex} {tg it : Expr} (h : ckI G c (.seq e) tg it = true) : ckE G c e it = true ∧ nset it = true := by
  unfold ckI at h
  simpa only [Bool.and_eq_true] using h
theorem inv_rng1 {a : Ex} {tg it : Expr} (h : ckI G c (.rng1 a) tg it = true) : ∃ p l pos, it = .Call (.Name "range" p) [l] [] pos ∧ ckGl c "range" = true ∧ (("range" : Str) ∈ G.bis) ∧ nstar l = true ∧ ckE G c a l = true := by
  unfold ckI at h
  split at h <;> first | exact absurd h Bool.false_ne_true | (rename_i q; cases q)
  simp only [Bool.and_eq_true, decide_eq_true_eq] at h
  obtain ⟨⟨⟨⟨rfl, h1⟩, h2⟩, h3⟩, h4⟩ := h
  exact ⟨_, _, _, rfl, h1, h2, h3, h4⟩
theorem inv_rng2 {a b : Ex} {tg it : Expr} (h : ckI G c (.rng2 a b) tg it = true) : ∃ p l r pos, it = .Call (.Name "range" p) [l, r] [] pos ∧ ckGl c "range" = true ∧ (("range" : Str) ∈ G.bis) ∧ nstar l = true ∧ nstar r = true ∧ ckE G c a l = true ∧ ckE G c b r = true := by
  unfold ckI at h
  split at h <;> first | exact absurd h Bool.false_ne_true | (rename_i q; cases q)
  simp only [Bool.and_eq_true, decide_eq_true_eq] at h
  obtain ⟨⟨⟨⟨⟨⟨rfl, h1⟩, h2⟩, h3⟩, h4⟩, h5⟩, h6⟩ := h
  exact ⟨_, _, _, _, rfl, h1, h2, h3, h4, h5, h6⟩
theorem inv_enum {a : Ex} {tg it : Expr} (h : ckI G c (.enum a) tg it = true) : ∃ ts k p2 p l pos, tg = .Tuple ts k p2 ∧ it = .Call (.Name "enumerate" p) [l] [] pos ∧ ckGl c "enumerate" = true ∧ (("enumerate" : Str) ∈ G.bis) ∧ nstar l = true ∧ ckE G c a l = true := by
  unfold ckI at h
  split at h <;> first | exact absurd h Bool.false_ne_true | (rename_i q; cases q)
  simp only [Bool.and_eq_true, decide_eq_true_eq] at h
  obtain ⟨⟨⟨⟨rfl, h1⟩, h2⟩, h3⟩, h4⟩ := h
  exact ⟨_, _, _, _, _, _, rfl, rfl, h1, h2, h3, h4⟩
theorem inv_zip {a b : Ex} {tg it : Expr} (h : ckI G c (.zip a b) tg it = true) : ∃ ts k p2 p l r pos, tg = .Tuple ts k p2 ∧ it = .Call (.Name "zip" p) [l, r] [] pos ∧ ckGl c "zip" = true ∧ (("zip" : Str) ∈ G.bis) ∧ nstar l = true ∧ nstar r = true ∧ ckE G c a l = true ∧ ckE G c b r = true := by
  unfold ckI at h
  split at h <;> first | exact absurd h Bool.false_ne_true | (rename_i q; cases q)
  simp only [Bool.and_eq_true, decide_eq_true_eq] at h
  obtain ⟨⟨⟨⟨⟨⟨rfl, h1⟩, h2⟩, h3⟩, h4⟩, h5⟩, h6⟩ := h
  exact ⟨_, _, _, _, _, _, _, rfl, rfl, h1, h2, h3, h4, h5, h6⟩
theorem inv_gix {x : Str} {i : Ex} (h : ckE G c (.gix x i) e = true) : ∃ p r pos, e = .Subscript (.Name x p) r pos ∧ ckGl c x = true ∧ (G.dict.lookup x).isSome = true ∧ ckE G c i r = true ∧ nslice r = true := by
  unfold ckE at h
  split at h <;> first | exact absurd h Bool.false_ne_true | (rename_i q; cases q)
  simp only [Bool.and_eq_true, beq_iff_eq] at h
  obtain ⟨⟨⟨⟨rfl, h1⟩, h2⟩, h3⟩, h4⟩ := h
  exact ⟨_, _, _, rfl, h1, h2, h3, h4⟩
theorem inv_dix {ks : List Key} {vs : Exs} {i : Ex} (h : ckE G c (.dix ks vs i) e = true) : ∃ keys vals dpos r pos, e = .Subscript (.Dict keys vals dpos) r pos ∧ ckKeys ks keys = true ∧ ckEs G c vs vals = true ∧ keys.length = vals.length ∧
    ks.Nodup ∧ keys ≠ [] ∧ keys.length ≤ 15 ∧ ckE G c i r = true ∧ nslice r = true := by
  unfold ckE at h
  split at h <;> first | exact absurd h Bool.false_ne_true | (rename_i q; cases q)
  simp only [Bool.and_eq_true, decide_eq_true_eq] at h
  obtain ⟨⟨⟨⟨⟨⟨⟨h1, h2⟩, h3⟩, h4⟩, h5⟩, h6⟩, h7⟩, h8⟩ := h
  exact ⟨_, _, _, _, _, rfl, h1, h2, h3, h4, fun z => by subst z; simp at h5, h6, h7, h8⟩
end
end EV

set_option Elab.async false
set_option linter.all false
set_option maxRecDepth 100000
set_option maxHeartbeats 4000000
/-! EV, part 9: expressions are sound. -/
namespace EV
open PySem PySem.Spec PyProof.Rows L2

theorem look_mem {α β : Type} [BEq α] [LawfulBEq α] {a : α} {b : β} : ∀ {l : List (α × β)}, l.lookup a = some b → (a, b) ∈ l
  | [], h => by cases h
  | (x, y) :: l, h => by
    rw [List.lookup_cons] at h
    by_cases e : a == x
    · simp only [e] at h
      cases h
      rw [eq_of_beq e]
      exact List.mem_cons_self ..
    · simp only [e] at h
      exact List.mem_cons_of_mem _ (look_mem h)
section
variable {G : Pg} {call : Str → List R → Sto → Res R} {k : Nat} {c : Ck} {cur : Cur} {X : Cx} {W : WX}
/-! ### built-in functions, by their names -/
theorem bi_fn (g : Gd G call k c cur X W) {b id : String} (h : biTab.lookup b = some (.fn id)) (hc : (c.calm || !(["max", "min", "all", "any", "sum"].contains b)) = true) :
    CallR X (.builtin id) (rBi X cur W b) ∧ bootBuiltins (PySem.Str.ofString (biNm b)) = some (.builtin id) ∧ (PySem.Str.ofString (biNm b) : Str) ≠ "__name__" := by
  have m := look_mem h
  simp only [biTab, List.mem_cons, Prod.mk.injEq, List.mem_nil_iff, or_false, reduceCtorEq, and_false, BiK.fn.injEq, or_self, false_or] at m
  have cal : (["max", "min", "all", "any", "sum"].contains b) = true → X.calm = true := fun z => by
    rw [z] at hc
    exact g.calm (by simpa using hc)
  rcases m with ⟨rfl, rfl⟩ | ⟨rfl, rfl⟩ | ⟨rfl, rfl⟩ | ⟨rfl, rfl⟩ | ⟨rfl, rfl⟩ | ⟨rfl, rfl⟩ | ⟨rfl, rfl⟩
  · exact ⟨sbi_len, by decide +kernel, by decide +kernel⟩
  · exact ⟨sbi_abs, by decide +kernel, by decide +kernel⟩
  · exact ⟨sbi_max (cal (by decide)), by decide +kernel, by decide +kernel⟩
  · exact ⟨sbi_min (cal (by decide)), by decide +kernel, by decide +kernel⟩
  · exact ⟨sbi_all (cal (by decide)), by decide +kernel, by decide +kernel⟩
  · exact ⟨sbi_any (cal (by decide)), by decide +kernel, by decide +kernel⟩
  · exact ⟨sbi_sum (cal (by decide)), by decide +kernel, by decide +kernel⟩
theorem bi_ty {b id : String} (h : biTab.lookup b = some (.ty id)) :
    CallR X (.type id) (rBi X cur W b) ∧ bootBuiltins (PySem.Str.ofString (biNm b)) = some (.type id) ∧ (PySem.Str.ofString (biNm b) : Str) ≠ "__name__" := by
  have m := look_mem h
  simp only [biTab, List.mem_cons, Prod.mk.injEq, List.mem_nil_iff, or_false, reduceCtorEq, and_false, BiK.ty.injEq, or_self, false_or] at m
  rcases m with ⟨rfl, rfl⟩ | ⟨rfl, rfl⟩ | ⟨rfl, rfl⟩ | ⟨rfl, rfl⟩
  · exact ⟨sbi_int, by decide +kernel, by decide +kernel⟩
  · exact ⟨sbi_tuple, by decide +kernel, by decide +kernel⟩
  · exact ⟨sbi_list, by decide +kernel, by decide +kernel⟩
  · exact ⟨sbi_mlist, by decide +kernel, by decide +kernel⟩
theorem bi_im {b id : String} (h : biTab.lookup b = some (.im id)) : CallR X (.builtin id) (rBi X cur W b) := by
  have m := look_mem h
  simp only [biTab, List.mem_cons, Prod.mk.injEq, List.mem_nil_iff, or_false, reduceCtorEq, and_false, BiK.im.injEq, or_self, false_or] at m
  rcases m with ⟨rfl, rfl⟩ | ⟨rfl, rfl⟩
  · exact sbi_gcd
  · exact sbi_isqrt
/-! ### types -/
theorem tyx_ok {K : PySem.W.Frag} {m : Mp} {H : Hp} {d : D} {v : V} {t : String} (h : RdV K (Lv m) H d v) (e : tyD d = some t) : TyX K H v (.type t) := by
  cases d with
  | none => cases h.none; cases e; exact .base .non
  | bool b => cases h.bool; cases e; exact .base (.bl b)
  | int i => cases h.int; cases e; exact .base (.int i)
  | str s => cases h.str; cases e; exact .base (.str s)
  | tuple ds =>
    obtain ⟨a, vs, rfl, hq, _⟩ := h.tup
    cases e
    rcases hq with (hq | ⟨o, hq⟩) | ⟨o, its, n, h1, h2, _⟩
    · exact .base (.tup hq)
    · exact .fTuple hq
    · exact .kTuple h1 h2
  | list ds =>
    obtain ⟨a, vs, rfl, hq, _⟩ := h
    cases e
    rcases hq with (hq | ⟨o, hq⟩) | ⟨o, its, n, h1, h2, _⟩
    · exact .base (.lst hq)
    · exact .base (.frz hq)
    · exact .kList h1 h2
  | dict _ => cases e
theorem ty_pe (g : Gd G call k c cur X W) {t : String} {e : Expr} (h : ckTy c G t e = true) : PE X e (tC (.ty t)) ∧ (["int", "bool", "str", "tuple", "list"].contains t) = true ∧ nstar e = true := by
  unfold ckTy at h
  split at h
  · simp only [Bool.and_eq_true, decide_eq_true_eq] at h
    obtain ⟨⟨⟨rfl, h1⟩, h2⟩, h3⟩ := h
    obtain ⟨hg, hd⟩ := g.gl h1
    have hb : bootBuiltins (PySem.Str.ofString t) = some (.type t) ∧ (PySem.Str.ofString t : Str) ≠ "__name__" := by
      have m : t ∈ ["int", "bool", "str", "tuple", "list"] := by simpa using h2
      simp only [List.mem_cons, List.mem_nil_iff, or_false] at m
      rcases m with rfl | rfl | rfl | rfl | rfl <;> exact ⟨by decide +kernel, by decide +kernel⟩
    exact ⟨pe_bltn hg (g.fx.bis _ h3) hb.1 (show V.ty t |> fun v => RelV v (.type t) from rfl) hb.2 hd, h2, rfl⟩
  · cases h
theorem tys_pa (g : Gd G call k c cur X W) : ∀ {ts : List String} {es : List Expr}, ckTys c G ts es = true → PA X es (fun _ H Q => Q (ts.map V.ty) H) ∧ ts.all (fun a => ["int", "bool", "str", "tuple", "list"].contains a) = true
  | [], [], _ => ⟨PA.imp pa_nil fun σ H Q h => h, rfl⟩
  | t :: ts, e :: es, h => by
    simp only [ckTys, Bool.and_eq_true] at h
    obtain ⟨h1, h2, h3⟩ := ty_pe g h.1
    obtain ⟨q1, q2⟩ := tys_pa g h.2
    refine ⟨PA.imp (pa_cons h1 q1 (star_cons h3)) fun σ H Q hq => hq, ?_⟩
    rw [List.all_cons, h2, q2]
    rfl
  | [], _ :: _, h => by simp [ckTys] at h
  | _ :: _, [], h => by simp [ckTys] at h
theorem kit_any {t : String} (ht : t ∈ ["NoneType", "bool", "int", "str", "tuple", "list"]) : ∀ {ts : List String}, ts.all (fun a => ["int", "bool", "str", "tuple", "list"].contains a) = true → PySem.W.kitAny X.K (.type t) (ts.map Value.type) = some (ts.any (isiB t))
  | [], _ => kitAny_nil
  | a :: ts, h => by
    rw [List.all_cons, Bool.and_eq_true] at h
    rw [List.map_cons, List.any_cons]
    refine kitAny_cons (kit_ty (kit_is ht h.1)) (fun z => ?_) fun z => by rw [z]; rfl
    rw [z, kit_any ht h.2]
    rfl
theorem cls_all : ∀ ts : List String, Paired ClsV (ts.map V.ty) (ts.map Value.type)
  | [] => .nil
  | t :: ts => .cons (.ty t) (cls_all ts)
/-! ### methods -/
def rMt (X : Cx) (cur : Cur) (W : WX) (m : String) : V → List V → Hp → VK → Prop := fun x vs H Q => ∃ mp S o rs σ, Sim X.K mp S H ∧ RV X.K cur mp H o x ∧ RVs X.K cur mp H rs vs ∧ PO X W (RVx X cur) mp H σ (mthR m o rs S) Q
theorem smt_append : MtR X "list.append" (rMt X cur W "list.append") := by
  intro pins s σ' H x vs v us Q I rx rv h
  obtain ⟨mp, S, o, rs, σ, sm, ro, rr, po⟩ := h
  unfold mthR at po
  split at po <;> first | exact po.elim | (rename_i z; exact absurd z (by decide)) | skip
  rename_i i a _
  split at po
  · rename_i d S1 ed
    cases rr with
    | cons r1 r2 =>
      cases r2
      obtain ⟨m1, x1, s1, d1⟩ := toD_ok ed sm r1
      split at po
      · rename_i l el
        split at po
        · rename_i hl
          have ro1 := RV.ext x1 ro
          obtain ⟨b, rfl, z⟩ := ro1
          obtain ⟨e1, ws, e2, e3⟩ := s1.at_ el z
          refine mt_append pins s σ' H _ _ v us Q I rx rv ⟨b, ws, _, rfl, rfl, e2, by rw [← e3.len]; exact hl, ?_⟩
          have q := (PO.from po x1) m1 _ .non (Ext.write (o := .lst (ws ++ [_])) s1 e1) (s1.write e1 (e3.snoc d1)) rfl
          exact q
        · exact po.elim
      · exact po.elim
  · exact po.elim
theorem smt_pop : MtR X "list.pop" (rMt X cur W "list.pop") := by
  intro pins s σ' H x vs v us Q I rx rv h
  obtain ⟨mp, S, o, rs, σ, sm, ro, rr, po⟩ := h
  unfold mthR at po
  split at po <;> first | exact po.elim | (rename_i z; exact absurd z (by decide)) | skip
  rename_i i _
  cases rr
  split at po
  · rename_i l el
    split at po
    · rename_i d ed
      obtain ⟨b, rfl, z⟩ := ro
      obtain ⟨e1, ws, e2, e3⟩ := sm.at_ el z
      obtain ⟨w, e4, e5⟩ := e3.get ed
      refine mt_pop pins s σ' H _ _ v us Q I rx rv ⟨b, ws, w, rfl, rfl, e2, by rw [← e3.len]; exact e4, ?_⟩
      have x1 := Ext.write (o := .lst ws.dropLast) sm e1
      exact po mp _ w x1 (sm.write e1 e3.dropLast) (DV.keep x1.keep _ _ e5)
    · exact po.elim
  · exact po.elim
theorem smt_insert : MtR X "list.insert" (rMt X cur W "list.insert") := by
  intro pins s σ' H x vs v us Q I rx rv h
  obtain ⟨mp, S, o, rs, σ, sm, ro, rr, po⟩ := h
  unfold mthR at po
  split at po <;> first | exact po.elim | (rename_i z; exact absurd z (by decide)) | skip
  rename_i i kk a _
  split at po
  · rename_i d S1 ed
    cases rr with
    | cons r0 r1 =>
      cases r1 with
      | cons r1 r2 =>
        cases r2
        cases (show _ = V.int kk from r0)
        obtain ⟨m1, x1, s1, d1⟩ := toD_ok ed sm r1
        split at po
        · rename_i l el
          split at po
          · rename_i hl
            have ro1 := RV.ext x1 ro
            obtain ⟨b, rfl, z⟩ := ro1
            obtain ⟨e1, ws, e2, e3⟩ := s1.at_ el z
            refine mt_insert pins s σ' H _ _ v us Q I rx rv ⟨b, ws, kk, _, rfl, rfl, e2, by rw [← e3.len]; exact hl.1, hl.2.1, hl.2.2, ?_⟩
            have q := (PO.from po x1) m1 _ .non (Ext.write (o := .lst (ws.take kk.toNat ++ [_] ++ ws.drop kk.toNat)) s1 e1) (s1.write e1 (((e3.take _).snoc d1).append (e3.drop _))) rfl
            exact q
          · exact po.elim
        · exact po.elim
  · exact po.elim
theorem smt_extend : MtM X "list.extend" (rMt X cur W "list.extend") := by
  intro pins s σ' H x vs v us Q I rx rv h
  obtain ⟨mp, S, o, rs, σ, sm, ro, rr, po⟩ := h
  unfold mthR at po
  split at po <;> first | exact po.elim | (rename_i z; exact absurd z (by decide)) | skip
  rename_i i a _
  split at po
  · rename_i ds S1 ed
    cases rr with
    | cons r1 r2 =>
      cases r2
      obtain ⟨m1, x1, s1, d1⟩ := toD_ok ed sm r1
      obtain ⟨b2, zs, rfl, n2, hq2, d2⟩ := dv_lst_inv d1
      split at po
      · rename_i l el
        split at po
        · rename_i hl
          have ro1 := RV.ext x1 ro
          obtain ⟨b, rfl, z⟩ := ro1
          obtain ⟨e1, ws, e2, e3⟩ := s1.at_ el z
          refine mt_extend pins s σ' H _ _ v us Q I rx rv ⟨b, b2, ws, zs, rfl, rfl, e2, hq2, by rw [← e3.len, ← d2.len]; exact hl, ?_⟩
          exact (PO.from po x1) m1 _ .non (Ext.write (o := .lst (ws ++ zs)) s1 e1) (s1.write e1 (e3.append d2)) rfl
        · exact po.elim
      · exact po.elim
  · exact po.elim
theorem plain_all {pos : Pos} {env : Env} : ∀ {es : List Expr}, (∀ e ∈ es, nstar e = true) → (backTo pos (starEach es env)).all (fun x => !x.1) = true
  | [], _ => rfl
  | e :: es, h => by
    rw [star_cons (h e (List.mem_cons_self ..))]
    have ih := plain_all (pos := pos) (env := env) (es := es) fun x hx => h x (List.mem_cons_of_mem _ hx)
    unfold backTo at *
    rw [List.map_cons, List.all_cons, ih]
    rfl
/-- the receiver's type -/
theorem recv_ty {K : PySem.W.Frag} {m : Mp} {S : Sto} {H : Hp} {i : R} {v : V} {id T : String} {n : Str} {ar : Nat} (h : recvOk id i S = true) (e : mtTab.lookup id = some (T, n, ar)) (s : Sim K m S H) (q : RV K cur m H i v) : tyV K T v H := by
  unfold recvOk at h
  rw [e] at h
  simp only at h
  split at h
  · rename_i l el
    have hT := eq_of_beq h
    subst hT
    obtain ⟨a, vs, rfl, hq, _⟩ := rdD_ok el s q
    exact .inl ⟨rfl, vs, hq⟩
  · rename_i l el
    have hT := eq_of_beq h
    subst hT
    cases (rdD_ok el s q).str
    rfl
  · cases h
/-! ### a block -/
theorem Gd.nocur (g : Gd G call k c cur X W) (h : X.calm = true) : cur = none := by
  cases cur with
  | none => rfl
  | some q =>
    obtain ⟨a, cn, dd⟩ := q
    obtain ⟨X0, oe, pn, C, l, e, _⟩ := g.cu a cn dd rfl
    rw [e] at h
    cases h
theorem blk_ok (g : Gd G call k c cur X W) {scope : Scope} {own : List (Str × Nat)} (h : ckBlk c scope own = true) : BlkOk X.N X.env.scope scope own := by
  have b := blkOk_by h
  refine ⟨b.kind, b.uniq, fun p hp => by rw [g.N]; exact b.ix p hp, fun y hy e => ?_, fun y hy e => by rw [g.N]; exact b.own y hy e⟩
  rw [g.names]
  exact b.free y hy e
theorem Gd.blk (g : Gd G call k c cur X W) {scope : Scope} (hk : scope.kind = .function) (s : Shared) (H : Hp) (C : Addr) (cl : List (Str × Addr)) (fp : List Addr) :
    Gd G call k (c.blk scope) none (X.blk s H scope (compEnvC scope cl C X.env) fp) (fun _ _ _ _ => False) where
  fx := g.fx
  N := g.N
  nd := g.nd
  names := by
    show (relabel scope X.env).names = blkNames c scope.names
    have e : (X.env.scope.kind == ScopeKind.function) = true := by rw [g.kind]; rfl
    unfold relabel blkNames Env.kindOf
    simp only [e, Bool.and_true, g.names]
  kind := hk
  fn := fun x hx => by
    show (scope.names.lookup x == some .cell) = true
    rw [hx]
    rfl
  room := g.room
  un := g.un
  tk := takes0
  calm := g.calm
  cu := fun _ _ _ z => by cases z
end
end EV

set_option Elab.async false
set_option linter.all false
set_option maxRecDepth 100000
set_option maxHeartbeats 8000000
/-! EV, part 10: comprehensions. -/
namespace EV
open PySem PySem.Spec PyProof.Rows L2
section
variable {X : Cx}
/-- what is being made is let be -/
theorem unhide {K : PySem.W.Frag} {m1 m : Mp} {S : Sto} {H1 H : Hp} (x : Ext m1 H1 m H) (sm : Sim K m S H) : Ext m1 H1 ⟨m.l, m1.hd⟩ H ∧ Sim K ⟨m.l, m1.hd⟩ S H ∧ Kp (Lv m) H (Lv ⟨m.l, m1.hd⟩) H := by
  have k : Kp (Lv m) H (Lv ⟨m.l, m1.hd⟩) H := fun a o n e => ⟨fun z => n (by
    rcases z with z | z
    · exact .inl z
    · exact .inr (x.hd a z)), e⟩
  refine ⟨⟨x.keep.trans k, fun _ h => h, x.hid, x.refs, x.dead⟩, ⟨sm.len, sm.inj, sm.dead, fun a ha => sm.hid a (x.hd a ha), fun i l e => ?_⟩, k⟩
  obtain ⟨a, vs, e1, e2, e3⟩ := sm.live i l e
  exact ⟨a, vs, e1, e2, DVs.keep k l vs e3⟩
/-- .. or it becomes a mutable list -/
theorem unhideR {K : PySem.W.Frag} {m1 m : Mp} {S : Sto} {H1 H : Hp} {p : Addr} {acc : List D} {vs : List V} (x : Ext m1 H1 m H) (sm : Sim K m S H) (hp : p ∈ m.hd) (h1 : H1 p = none) (n1 : ¬ Lv m1 p) (hv : H p = some (.lst vs)) (dv : DVs K (Lv m) H acc vs) :
    Ext m1 H1 ⟨m.l ++ [some p], m1.hd⟩ H ∧ Sim K ⟨m.l ++ [some p], m1.hd⟩ (S ++ [some acc]) H := by
  have np : some p ∉ m.l := (sm.hid p hp).1
  have k : Kp (Lv m) H (Lv ⟨m.l ++ [some p], m1.hd⟩) H := fun a o n e => ⟨fun z => n (by
    rcases z with z | z
    · rcases List.mem_append.mp z with z | z
      · exact .inl z
      · have : a = p := by simpa using z
        subst this
        exact .inr hp
    · exact .inr (x.hd a z)), e⟩
  refine ⟨⟨x.keep.trans k, fun _ h => h, x.hid, fun i a e => ?_, fun i e => ?_⟩, ⟨by simp [sm.len], fun i j a q1 q2 => ?_, fun i e => ?_, fun a ha => ⟨fun z => ?_, (sm.hid a (x.hd a ha)).2⟩, fun i l e => ?_⟩⟩
  · show (m.l ++ [some p])[i]? = _ ∨ (m.l ++ [some p])[i]? = _
    rcases x.refs i a e with q | q
    · rw [List.getElem?_append_left (List.getElem?_eq_some_iff.mp q).1]
      exact .inl q
    · rw [List.getElem?_append_left (List.getElem?_eq_some_iff.mp q).1]
      exact .inr q
  · show (m.l ++ [some p])[i]? = _
    have q := x.dead i e
    rw [List.getElem?_append_left (List.getElem?_eq_some_iff.mp q).1]
    exact q
  · rcases snoc_get q1 with ⟨_, w1⟩ | ⟨r1, w1⟩
    · rcases snoc_get q2 with ⟨_, w2⟩ | ⟨r2, w2⟩
      · exact sm.inj i j a w1 w2
      · cases w2
        exact absurd (List.mem_of_getElem? w1) np
    · cases w1
      rcases snoc_get q2 with ⟨_, w2⟩ | ⟨r2, w2⟩
      · exact absurd (List.mem_of_getElem? w2) np
      · rw [r1, r2]
  · rcases snoc_get e with ⟨hi, q⟩ | ⟨_, q⟩
    · show (m.l ++ [some p])[i]? = _
      rw [List.getElem?_append_left (by rw [sm.len]; exact hi)]
      exact sm.dead i q
    · cases q
  · rcases List.mem_append.mp z with z | z
    · exact (sm.hid a (x.hd a ha)).1 z
    · have : a = p := by simpa using z
      subst this
      exact n1 (.inr ha)
  · rcases snoc_get e with ⟨hi, q⟩ | ⟨hi, q⟩
    · obtain ⟨a, us, e1, e2, e3⟩ := sm.live i l q
      refine ⟨a, us, ?_, e2, DVs.keep k l us e3⟩
      show (m.l ++ [some p])[i]? = _
      rw [List.getElem?_append_left (by rw [sm.len]; exact hi)]
      exact e1
    · cases q
      subst hi
      refine ⟨p, vs, ?_, hv, DVs.keep k _ vs dv⟩
      show (m.l ++ [some p])[S.length]? = _
      rw [List.getElem?_append_right (by rw [sm.len]; omega), sm.len]
      simp
/-- what stands between two turns -/
def LcInv (X : Cx) (f : Rho → Sto → Res (Option D)) (p : Pt) (ρ0 : Rho) (ds : List D) (m1 : Mp) (H1 : Hp) (D0 : Addr) (res : Res (List D)) (i : Nat) (H : Hp) : Prop :=
  i ≤ ds.length ∧ ∃ m S acc vs, Ext m1 H1 m H ∧ D0 ∈ m.hd ∧ Sim X.K m S H ∧ H D0 = some (.lst vs) ∧ DVs X.K (Lv m) H acc vs ∧ lcLoop f p ρ0 (ds.drop i) acc S = res
theorem lc_sound {cur : Cur} {W : WX} {own : List Nat} {p : Pt} {fC : Rho → Sto → Res Bool} {fE : Rho → Sto → Res R} {mu : Bool} {σ : L2.St} {H1 : Hp} {D0 : Addr} {Q : V → Hp → Prop} {m1 : Mp} {S1 : Sto} {ρ : Rho} {ds : List D} {J : It}
    (hp : ∀ i ∈ slots p, i ∈ own) (hD : H1 D0 = none) (sm : Sim X.K m1 S1 H1) (lv : LV X.K none m1 H1 ρ σ) (wk : WalkD X.K m1 H1 ds J)
    (po : PO X W (RVx X cur) m1 H1 σ ((lcLoop (lcBody fC fE) p (wipeR ρ own) ds [] S1).bind fun l S4 => newL mu l S4) Q) :
    ∃ Wn : Nat → Nat → Hp → Prop, (∃ n, Wn 0 n (upd H1 D0 (.lst []))) ∧ ∀ i n H, Wn i n H →
      (J.stop i H ∧ Q (.ref D0) H) ∨ (J.go i H ∧ ∃ Nx : Hp → Prop, (∀ H', Nx H' → ∃ n', n' < n ∧ Wn (i + 1) n' H') ∧ ∀ x H', J.yld i H x H' → gX X.K none p x (wipe σ own) H' fun σ2 H2 => wipe σ2 own = wipe σ own ∧ TX X none (fun _ _ _ _ => False) relB fC σ2 H2 fun b H3 =>
        if b = true then TX X none (fun _ _ _ _ => False) (RVx X none) fE σ2 H3 fun y H4 => ∃ acc, H4 D0 = some (.lst acc) ∧ acc.length < sizeLine ∧ Nx (upd H4 D0 (.lst (acc ++ [y]))) else Nx H3) := by
  have fr := sm.fresh hD
  generalize hres : lcLoop (lcBody fC fE) p (wipeR ρ own) ds [] S1 = res at po
  have nres : res ≠ .no := fun z => by rw [z] at po; exact po.elim
  refine ⟨fun i n H => n = ds.length - i ∧ LcInv X (lcBody fC fE) p (wipeR ρ own) ds m1 H1 D0 res i H, ⟨_, rfl, Nat.zero_le _, m1.hide D0, S1, [], [], ?_, List.mem_cons_self .., sm.hide hD, upd_same, rfl, hres⟩, ?_⟩
  · exact ⟨Kp.hide sm hD, fun a h => List.mem_cons_of_mem _ h, fun a ha => upd_ne fun z => fr (z ▸ .inr ha), fun _ _ h => .inl h, fun _ h => h⟩
  rintro i n H ⟨rfl, hi, m, S, acc, vs, x, hd, s, hv, dv, eq⟩
  obtain ⟨w1, w2⟩ := wk m S H x s
  by_cases hlt : i < ds.length
  · refine .inr ?_
    have e0 : ds[i]? = some ds[i] := List.getElem?_eq_getElem hlt
    obtain ⟨go, step⟩ := w1 i _ e0
    refine ⟨go, LcInv X (lcBody fC fE) p (wipeR ρ own) ds m1 H1 D0 res (i + 1), fun H' inv => ⟨_, by omega, rfl, inv⟩, fun y H3 hy => ?_⟩
    obtain ⟨x3, s3, d3⟩ := step y H3 hy
    rw [List.drop_eq_getElem_cons hlt] at eq
    unfold lcLoop at eq
    split at eq
    · rename_i ρ' eb
      refine ⟨m, wipeR ρ own, ds[i], ρ', (lv.ext (x.trans x3)).wipe own, d3, eb, fun σ2 lv2 so => ⟨wipe_same so hp, ?_⟩⟩
      have hv3 : H3 D0 = some (.lst vs) := (x3.hid D0 hd).trans hv
      have dv3 := DVs.keep x3.keep _ _ dv
      have x13 := x.trans x3
      -- the body
      refine ⟨m, ρ', S, s3, lv2, ?_⟩
      cases hC : fC ρ' S with
      | no => simp only [lcBody, hC] at eq; exact absurd eq.symm nres
      | ex cc dd SS => simp only [lcBody, hC] at eq; exact absurd eq.symm nres
      | ok kk S2 =>
        intro m4 H4 b x4 s4 hb
        have hb : kk = b := hb
        subst hb
        have hd4 := x4.hd D0 hd
        have hv4 : H4 D0 = some (.lst vs) := (x4.hid D0 hd).trans hv3
        have dv4 := DVs.keep x4.keep _ _ dv3
        have x14 := x13.trans x4
        cases kk with
        | false =>
          rw [if_neg Bool.false_ne_true]
          simp only [lcBody, hC] at eq
          exact ⟨hlt, m4, S2, acc, vs, x14, hd4, s4, hv4, dv4, eq⟩
        | true =>
          rw [if_pos rfl]
          refine ⟨m4, ρ', S2, s4, lv2.ext x4, ?_⟩
          cases hE : fE ρ' S2 with
          | no => simp only [lcBody, hC, hE] at eq; exact absurd eq.symm nres
          | ex cc dd SS => simp only [lcBody, hC, hE] at eq; exact absurd eq.symm nres
          | ok r S3 =>
            intro m5 H5 z x5 s5 rz
            cases hT : toD S3 r with
            | none => simp only [lcBody, hC, hE, hT] at eq; exact absurd eq.symm nres
            | some q =>
              obtain ⟨d, S5⟩ := q
              simp only [lcBody, hC, hE, hT] at eq
              by_cases hl : acc.length < sizeLine
              · rw [if_pos hl] at eq
                obtain ⟨m6, x6, s6, d6⟩ := toD_ok hT s5 rz
                have x46 := x5.trans x6
                have hd6 := x46.hd D0 hd4
                have hv6 : H5 D0 = some (.lst vs) := (x46.hid D0 hd4).trans hv4
                have dv6 := DVs.keep x46.keep _ _ dv4
                have kg : Kp (Lv m6) H5 (Lv m6) (upd H5 D0 (.lst (vs ++ [z]))) := Kp.grow (.inr hd6)
                refine ⟨vs, hv6, by rw [← dv6.len]; exact hl, hlt, m6, S5, acc ++ [d], vs ++ [z], ?_, hd6, s6.grow hd6, upd_same, DVs.keep kg _ _ (dv6.snoc d6), eq⟩
                have x16 := x14.trans x46
                refine ⟨fun a o na e => ?_, x16.hd, fun a ha => ?_, x16.refs, x16.dead⟩
                · obtain ⟨n1, e1⟩ := x16.keep a o na e
                  exact kg a o n1 e1
                · rw [upd_ne (fun zz => fr (by rw [← zz]; exact .inr ha))]
                  exact x16.hid a ha
              · rw [if_neg hl] at eq
                exact absurd eq.symm nres
    · exact absurd eq.symm nres
  · have hi' : i = ds.length := by omega
    subst hi'
    refine .inl ⟨w2, ?_⟩
    rw [List.drop_length] at eq
    unfold lcLoop at eq
    subst eq
    simp only [Res.bind_ok] at po
    unfold newL at po
    split at po
    · split at po
      · obtain ⟨q1, q2⟩ := unhideR x s hd hD fr hv dv
        refine po _ H (.ref D0) q1 q2 ⟨D0, rfl, .inl ?_⟩
        show (m.l ++ [some D0])[S.length]? = _
        rw [List.getElem?_append_right (by rw [s.len]; omega), s.len]
        simp
      · obtain ⟨q1, q2, q3⟩ := unhide x s
        refine po _ H (.ref D0) q1 q2 (dv_lst (fun z => ?_) hv (DVs.keep q3 _ _ dv))
        rcases z with z | z
        · exact (s.hid D0 hd).1 z
        · exact fr (.inr z)
    · exact po.elim
end
end EV

set_option Elab.async false
set_option linter.all false
set_option maxRecDepth 100000
set_option maxHeartbeats 8000000
/-! EV, part 11: expressions are sound: the theorem. -/
namespace EV
open PySem PySem.Spec PyProof.Rows L2
section
variable {G : Pg} {call : Str → List R → Sto → Res R} {k : Nat}
abbrev RVsx (X : Cx) (cur : Cur) : Mp → Hp → List R → List V → Prop := fun m H => RVs X.K cur m H
def relK : Mp → Hp → Option Int → Option Int → Prop := fun _ _ a b => a = b
theorem itFold {c : Ck} {it : Itx} {tg e : Expr} {env : Env} (h : ckI G c it tg e = true) (x : Value) : foldedSetIterable e env x = pure x := by
  cases it with
  | seq a => exact fold_nset (inv_seq h).2 x
  | rng1 a => obtain ⟨_, _, _, rfl, _⟩ := inv_rng1 h; rfl
  | rng2 a b => obtain ⟨_, _, _, _, rfl, _⟩ := inv_rng2 h; rfl
  | enum a => obtain ⟨_, _, _, _, _, _, _, rfl, _⟩ := inv_enum h; rfl
  | zip a b => obtain ⟨_, _, _, _, _, _, _, _, rfl, _⟩ := inv_zip h; rfl
theorem bind_bind {α β γ : Type} {x : Res α} {f : α → Sto → Res β} {h : β → Sto → Res γ} : (x.bind f).bind h = x.bind fun a S => (f a S).bind h := by
  cases x <;> rfl
theorem truthT {X : Cx} {cur : Cur} {W : WX} (x : Ex) : ∀ σ H Q, TX X cur W relB (evT G call x) σ H Q → (fun (σ : L2.St) (H : Hp) (Q : Bool → Hp → Prop) => TX X cur W (RVx X cur) (evE G call x) σ H fun x H' => ∃ k, TruV X.K x H' k ∧ Q k H') σ H Q := fun σ H Q ⟨m, ρ, S, sm, lv, po⟩ => by
  unfold evT at po
  refine ⟨m, ρ, S, sm, lv, po.bind.mono fun v H1 ⟨m1, a1, S1, e1, s1, r1, p1⟩ => ?_⟩
  have p1 : PO X W relB m1 H1 σ ((truthR a1 S1).bind fun k S => .ok k S) Q := by
    have z : (truthR a1 S1).bind (fun k S => .ok k S) = truthR a1 S1 := by cases truthR a1 S1 <;> rfl
    rw [z]
    exact p1
  obtain ⟨k, tv, p2⟩ := truthR_ok p1 s1 r1
  exact ⟨k, tv, p2 m1 H1 k .refl s1 rfl⟩
def tIfB (t ta tb : TT) : TT := fun σ H Q => t σ H fun c H1 => if c = true then ta σ H1 Q else tb σ H1 Q
theorem pt_ite {X : Cx} {u l r : Expr} {pos : Pos} {t ta tb : TT} (hu : PT X u t) (ha : PT X l ta) (hb : PT X r tb) : PT X (.IfExp u l r pos) (tIfB t ta tb) := by
  refine ⟨fun pins s σ H Q I h => ?_⟩
  unfold PySem.isTrue
  refine wpAny_bind (thn (hu.run pins s σ H _ I h) fun d s1 ⟨H1, I1, q1⟩ => ?_)
  cases d with
  | true =>
    rw [if_pos rfl] at q1 ⊢
    exact ha.run pins s1 σ H1 Q I1 q1
  | false =>
    rw [if_neg Bool.false_ne_true] at q1 ⊢
    exact hb.run pins s1 σ H1 Q I1 q1
theorem cmp_end {X : Cx} {cur : Cur} {W : WX} {m : Mp} {H : Hp} {σ : L2.St} {o : CmpOp} {x y : R} {S : Sto} {Q : Bool → Hp → Prop} (h : PO X W relB m H σ ((cmpR o x y S).bind truthR) Q) : PO X W (RVx X cur) m H σ (cmpR o x y S) fun z H3 => ∃ k, z = .bl k ∧ Q k H3 := by
  unfold cmpR at h ⊢
  split at h
  · split at h
    · rename_i k _
      exact fun m' H' b e s r => ⟨k, r, h m' H' k e s rfl⟩
    · exact h.elim
  · exact h.elim
theorem cmp_bool {o : CmpOp} {x y : R} {S S' : Sto} {r : R} (h : cmpR o x y S = .ok r S') : ∃ k, r = .v (.bool k) := by
  unfold cmpR at h
  split at h
  · split at h
    · cases h
      exact ⟨_, rfl⟩
    · cases h
  · cases h
/-! ### displays of dicts -/
def trsOf (G : Pg) (call : Str → List R → Sto → Res R) (X : Cx) (cur : Cur) (W : WX) : List L2.Key → Exs → List (TE × TE)
  | k :: ks, .cons e es => ((fun _ H Q => Q (kV k) H), TX X cur W (RVx X cur) (evE G call e)) :: trsOf G call X cur W ks es
  | _, _ => []
def Exs.len : Exs → Nat
  | .nil => 0
  | .cons _ es => es.len + 1
theorem ckEs_len {c : Ck} : ∀ {x : Exs} {e : List Expr}, ckEs G c x e = true → e.length = x.len
  | .nil, [], _ => rfl
  | .cons _ xs, _ :: ls, h => by
    simp only [ckEs, Bool.and_eq_true] at h
    simp only [List.length_cons, Exs.len, ckEs_len h.2]
  | .nil, _ :: _, h => by simp [ckEs] at h
  | .cons _ _, [], h => by simp [ckEs] at h
theorem evEs_len : ∀ {x : Exs} {ρ : Rho} {S S' : Sto} {rs : List R}, evEs G call x ρ S = .ok rs S' → rs.length = x.len
  | .nil, ρ, S, S', rs, h => by
    simp only [evEs, Res.ok.injEq] at h
    rw [← h.1]
    rfl
  | .cons e es, ρ, S, S', rs, h => by
    simp only [evEs] at h
    cases e1 : evE G call e ρ S with
    | no => rw [e1] at h; cases h
    | ex c d S1 => rw [e1] at h; cases h
    | ok r S1 =>
      rw [e1] at h
      simp only [Res.bind_ok] at h
      cases e2 : evEs G call es ρ S1 with
      | no => rw [e2] at h; cases h
      | ex c d S1 => rw [e2] at h; cases h
      | ok r S2 =>
        rw [e2] at h
        simp only [Res.bind_ok, Res.ok.injEq] at h
        rw [← h.1, List.length_cons, evEs_len e2]
        rfl
theorem toDs_len : ∀ {rs : List R} {S S' : Sto} {ds : List D}, toDs rs S = some (ds, S') → ds.length = rs.length
  | [], S, S', ds, h => by
    simp only [toDs, Option.some.injEq, Prod.mk.injEq] at h
    rw [← h.1]
    rfl
  | r :: rs, S, S', ds, h => by
    simp only [toDs] at h
    split at h
    · rename_i d S1 e1
      split at h
      · rename_i ds' S2 e2
        simp only [Option.some.injEq, Prod.mk.injEq] at h
        rw [← h.1, List.length_cons, List.length_cons, toDs_len e2]
      · cases h
    · cases h
theorem key_pe {X : Cx} {k0 : L2.Key} {ke : Option Expr} (h : ckKey k0 ke = true) : ∃ e, ke = some e ∧ PE X e (fun _ H Q => Q (kV k0) H) := by
  unfold ckKey at h
  split at h
  · cases eq_of_beq h
    exact ⟨_, rfl, PE.imp pe_int fun σ H Q q => q⟩
  · cases eq_of_beq h
    exact ⟨_, rfl, PE.imp pe_str fun σ H Q q => q⟩
  · cases h
theorem key_some {k0 : L2.Key} {ke : Option Expr} (h : ckKey k0 ke = true) : ∃ e, ke = some e := by
  unfold ckKey at h
  split at h
  · exact ⟨_, rfl⟩
  · exact ⟨_, rfl⟩
  · cases h
theorem keys_some : ∀ {ks : List L2.Key} {keys : List (Option Expr)}, ckKeys ks keys = true → keys.all (·.isSome) = true ∧ ks.length = keys.length
  | [], [], _ => ⟨rfl, rfl⟩
  | k0 :: ks, ke :: keys, h => by
    simp only [ckKeys, Bool.and_eq_true] at h
    obtain ⟨h1, h2⟩ := keys_some h.2
    obtain ⟨e, rfl⟩ := key_some h.1
    exact ⟨by rw [List.all_cons, h1]; rfl, by rw [List.length_cons, List.length_cons, h2]⟩
  | [], _ :: _, h => by simp [ckKeys] at h
  | _ :: _, [], h => by simp [ckKeys] at h
theorem tPairs_ok {X : Cx} {cur : Cur} {W : WX} {ρ : Rho} {σ : L2.St} : ∀ {vs : Exs} {ks : List L2.Key} {m : Mp} {H : Hp} {S : Sto} {Q : List (V × V) → Hp → Prop}, ks.length = vs.len → Sim X.K m S H → LV X.K cur m H ρ σ →
    PO X W (RVsx X cur) m H σ (evEs G call vs ρ S) (fun ws H' => Q ((ks.map kV).zip ws) H') → tPairs (trsOf G call X cur W ks vs) σ H Q
  | .nil, [], m, H, S, Q, hl, sm, lv, po => by
    simp only [evEs] at po
    exact po m H [] .refl sm .nil
  | .cons e es, k0 :: ks, m, H, S, Q, hl, sm, lv, po => by
    simp only [evEs] at po
    refine ⟨m, ρ, S, sm, lv, po.bind.mono fun v H1 ⟨m1, a1, S1, e1, s1, r1, p1⟩ => ?_⟩
    refine tPairs_ok (vs := es) (ks := ks) (by simp only [List.length_cons, Exs.len] at hl; omega) s1 (lv.ext e1) ?_
    refine p1.bind.mono fun ws H2 ⟨m2, b1, S2, e2, s2, r2, p2⟩ => ?_
    exact p2 m2 H2 (v :: ws) .refl s2 (.cons (r1.ext e2) r2)
  | .nil, _ :: _, _, _, _, _, hl, _, _, _ => by simp [Exs.len] at hl
  | .cons _ _, [], _, _, _, _, hl, _, _, _ => by simp [Exs.len] at hl
theorem zip_map (ks : List L2.Key) (ws : List V) : (ks.map kV).zip ws = (ks.zip ws).map fun kv => (kV kv.1, kv.2) := by
  rw [List.zip_map_left]
  rfl
theorem merge_nd : ∀ {more acc : List (L2.Key × V)}, (more.map (·.1)).Nodup → (∀ k, k ∈ acc.map (·.1) → k ∈ more.map (·.1) → False) → mergeK acc more = acc ++ more
  | [], acc, _, _ => by
    rw [List.append_nil]
    rfl
  | p :: r, acc, h, hd => by
    rw [List.map_cons, List.nodup_cons] at h
    have e : valV acc p.1 = none := by
      cases z : valV acc p.1 with
      | none => rfl
      | some v =>
        have m : p.1 ∈ acc.map (·.1) := by
          unfold valV at z
          cases z2 : acc.find? fun kv => decide (kv.1 = p.1) with
          | none => rw [z2] at z; cases z
          | some kv =>
            have q : kv.1 = p.1 := by simpa using List.find?_some z2
            rw [← q]
            exact List.mem_map_of_mem (List.mem_of_find?_eq_some z2)
        exact (hd p.1 m (List.mem_cons_self ..)).elim
    have ih := merge_nd (more := r) (acc := acc ++ [p]) h.2 (fun k h1 h2 => by
      rw [List.map_append, List.mem_append] at h1
      rcases h1 with h1 | h1
      · exact hd k h1 (List.mem_cons_of_mem _ h2)
      · have q : k = p.1 := by simpa using h1
        rw [q] at h2
        exact h.1 h2)
    show mergeK (putK acc p.1 p.2) r = _
    rw [putK_new p.2 e]
    rw [show acc ++ [(p.1, p.2)] = acc ++ [p] from rfl, ih, List.append_assoc]
    rfl
theorem zip_look {K : PySem.W.Frag} {L : Addr → Prop} {H : Hp} {k0 : L2.Key} {d : EV.D} : ∀ {ks : List L2.Key} {ds : List EV.D} {ws : List V}, DVs K L H ds ws → lookK (ks.zip ds) k0 = some d → ∃ v, valV (ks.zip ws) k0 = some v ∧ DV K L H d v
  | [], _, _, _, h => by simp [lookK] at h
  | _ :: _, [], _, _, h => by simp [lookK] at h
  | k1 :: ks, d1 :: ds, ws, hd, h => by
    obtain ⟨v, r, rfl, h1, h2⟩ := hd
    rw [List.zip_cons_cons] at h
    rw [List.zip_cons_cons]
    unfold lookK at h
    by_cases z : k1 = k0
    · rw [if_pos z] at h
      cases h
      exact ⟨v, valV_pos z, h1⟩
    · rw [if_neg z] at h
      obtain ⟨u, e1, e2⟩ := zip_look h2 h
      exact ⟨u, by rw [valV_neg z]; exact e1, e2⟩
mutual
theorem sE : ∀ (x : Ex) {c : Ck} {cur : Cur} {X : Cx} {W : WX} {e : Expr}, Gd G call k c cur X W → ckE G c x e = true → PE X e (TX X cur W (RVx X cur) (evE G call x))
  | .loc i, c, cur, X, W, e, g, h => by
    obtain ⟨x, pos, rfl, hl⟩ := inv_loc h
    obtain ⟨h1, h2, h3, h4⟩ := g.loc hl
    refine PE.imp (pe_var h1 h2 h3 h4) fun σ H Q ⟨m, ρ, S, sm, lv, po⟩ => ?_
    simp only [evE] at po
    split at po
    · rename_i r er
      obtain ⟨v, e1, e2⟩ := lv.at_ i r er
      exact ⟨v, e1, po m H v .refl sm e2⟩
    · exact po.elim
  | .gl x, c, cur, X, W, e, g, h => by
    obtain ⟨pos, rfl, hl⟩ := inv_gl h
    obtain ⟨h1, h2⟩ := g.gl hl
    cases e : G.glob.lookup x with
    | none =>
      refine ⟨fun pins s σ H Q I ⟨m, ρ, S, sm, lv, po⟩ => ?_⟩
      simp only [evE, e] at po
      exact po.elim
    | some d =>
      obtain ⟨u, v, e1, e2, e3⟩ := g.fx.glob x d e
      refine PE.imp (pe_glob h1 e1 e2 h2) fun σ H Q ⟨m, ρ, S, sm, lv, po⟩ => ?_
      simp only [evE, e] at po
      exact PO.v0 po sm (e3 _ _)
  | .lit d, c, cur, X, W, e, g, h => by
    obtain ⟨q, n, pos, rfl, hl⟩ := inv_lit h
    cases d with
    | none => cases q <;> first | exact absurd hl Bool.false_ne_true | exact PE.imp pe_non fun σ H Q ⟨m, ρ, S, sm, lv, po⟩ => PO.v0 po sm dv_none
    | bool b =>
      cases q <;> first | exact absurd hl Bool.false_ne_true | skip
      cases (eq_of_beq hl)
      exact PE.imp pe_bl fun σ H Q ⟨m, ρ, S, sm, lv, po⟩ => PO.v0 po sm dv_bool
    | int b =>
      cases q <;> first | exact absurd hl Bool.false_ne_true | skip
      cases (eq_of_beq hl)
      exact PE.imp pe_int fun σ H Q ⟨m, ρ, S, sm, lv, po⟩ => PO.v0 po sm dv_int
    | str b =>
      cases q <;> first | exact absurd hl Bool.false_ne_true | skip
      cases (eq_of_beq hl)
      exact PE.imp pe_str fun σ H Q ⟨m, ρ, S, sm, lv, po⟩ => PO.v0 po sm dv_str
    | _ => cases q <;> exact absurd hl Bool.false_ne_true
  | .op o a b, c, cur, X, W, e, g, h => by
    obtain ⟨l, r, pos, rfl, h1, h2⟩ := inv_op h
    refine PE.imp (pe_op (sop (cur := cur) (W := W) o) (sE a g h1) (sE b g h2)) fun σ H Q ⟨m, ρ, S, sm, lv, po⟩ => ?_
    simp only [evE] at po
    exact ⟨m, ρ, S, sm, lv, po.bind.mono fun x H1 ⟨m1, a1, S1, e1, s1, r1, p1⟩ => ⟨m1, ρ, S1, s1, lv.ext e1, p1.bind.mono fun y H2 ⟨m2, b1, S2, e2, s2, r2, p2⟩ => ⟨m2, S2, a1, b1, σ, s2, r1.ext e2, r2, p2⟩⟩⟩
  | .neg a, c, cur, X, W, e, g, h => by
    obtain ⟨l, pos, rfl, h1⟩ := inv_neg h
    refine PE.imp (pe_un un_neg (sE a g h1)) fun σ H Q ⟨m, ρ, S, sm, lv, po⟩ => ?_
    simp only [evE] at po
    refine ⟨m, ρ, S, sm, lv, po.bind.mono fun x H1 ⟨m1, a1, S1, e1, s1, r1, p1⟩ => ?_⟩
    split at p1
    · rename_i i
      cases (show x = V.int i from r1)
      exact ⟨i, rfl, PO.v0 p1 s1 dv_int⟩
    · exact p1.elim
  | .not a, c, cur, X, W, e, g, h => by
    obtain ⟨l, pos, rfl, h1⟩ := inv_not h
    refine PE.imp (pe_notT (sE a g h1)) fun σ H Q ⟨m, ρ, S, sm, lv, po⟩ => ?_
    simp only [evE] at po
    refine ⟨m, ρ, S, sm, lv, po.bind.mono fun x H1 ⟨m1, a1, S1, e1, s1, r1, p1⟩ => ?_⟩
    unfold truthR at p1
    cases e : rdD S1 a1 with
    | none => rw [e] at p1; exact p1.elim
    | some d =>
      rw [e] at p1
      cases e2 : truthD d with
      | none => simp only [e2, resB] at p1; exact p1.elim
      | some kk =>
        simp only [e2, resB] at p1
        exact ⟨kk, truth_ok' e2 (rdD_ok e s1 r1), PO.v0 p1 s1 dv_bool⟩
  | .cmp o a b, c, cur, X, W, e, g, h => by
    obtain ⟨l, r, pos, rfl, h1, h2, h3⟩ := inv_cmp h
    refine PE.imp (pe_cmpR (scm (cur := cur) (W := W) o g.hu) (sE a g h1) (sE b g h2) (behind_nset h3)) fun σ H Q ⟨m, ρ, S, sm, lv, po⟩ => ?_
    simp only [evE] at po
    exact ⟨m, ρ, S, sm, lv, po.bind.mono fun x H1 ⟨m1, a1, S1, e1, s1, r1, p1⟩ => ⟨m1, ρ, S1, s1, lv.ext e1, p1.bind.mono fun y H2 ⟨m2, b1, S2, e2, s2, r2, p2⟩ => ⟨m2, S2, a1, b1, σ, s2, r1.ext e2, r2, p2⟩⟩⟩
  | .chain o o2 a b d, c, cur, X, W, e, g, h => by
    obtain ⟨l, r, u, pos, rfl, h1, h2, h3, h4⟩ := inv_chain h
    refine PE.imp (pe_chain (scm (cur := cur) (W := W) o g.hu) (scm (cur := cur) (W := W) o2 g.hu) (sE a g h1) (sE b g h2) (sE d g h3) (by show behindInMarks o2 u = false; exact behind_nset h4)) fun σ H Q ⟨m, ρ, S, sm, lv, po⟩ => ?_
    simp only [evE] at po
    refine ⟨m, ρ, S, sm, lv, po.bind.mono fun x H1 ⟨m1, a1, S1, e1, s1, r1, p1⟩ => ⟨m1, ρ, S1, s1, lv.ext e1, p1.bind.mono fun y H2 ⟨m2, b1, S2, e2, s2, r2, p2⟩ => ⟨m2, S2, a1, b1, σ, s2, r1.ext e2, r2, p2.bind.mono fun z H3 ⟨m3, c1, S3, e3, s3, r3, p3⟩ => ?_⟩⟩⟩
    split at p3
    · cases (show z = V.bl true from r3)
      refine ⟨true, rfl, ?_⟩
      rw [if_pos rfl]
      exact ⟨m3, ρ, S3, s3, ((lv.ext e1).ext e2).ext e3, p3.bind.mono fun w H4 ⟨m4, d1, S4, e4, s4, r4, p4⟩ => ⟨m4, S4, b1, d1, σ, s4, (r2.ext e3).ext e4, r4, p4⟩⟩
    · cases (show z = V.bl false from r3)
      refine ⟨false, rfl, ?_⟩
      rw [if_neg Bool.false_ne_true]
      exact PO.v0 p3 s3 dv_bool
    · exact p3.elim
  | .bop o es, c, cur, X, W, e, g, h => by
    obtain ⟨l, pos, rfl, h1, h2⟩ := inv_bop h
    exact sB es g h1 h2
  | .ite t a b, c, cur, X, W, e, g, h => by
    obtain ⟨u, l, r, pos, rfl, h1, h2, h3⟩ := inv_ite h
    refine PE.imp (pe_ifExp (sT t g h1) (sE a g h2) (sE b g h3)) fun σ H Q ⟨m, ρ, S, sm, lv, po⟩ => ?_
    simp only [evE] at po
    refine ⟨m, ρ, S, sm, lv, PO.mono (PO.bind (x := evT G call t ρ S) po) fun x H1 ⟨m1, a1, S1, e1, s1, r1, p1⟩ => ?_⟩
    have r1 : a1 = x := r1
    subst r1
    cases a1 with
    | true =>
      rw [if_pos rfl] at p1 ⊢
      exact ⟨m1, ρ, S1, s1, lv.ext e1, p1⟩
    | false =>
      rw [if_neg Bool.false_ne_true] at p1 ⊢
      exact ⟨m1, ρ, S1, s1, lv.ext e1, p1⟩
  | .tup es, c, cur, X, W, e, g, h => by
    obtain ⟨l, n, pos, rfl, h1⟩ := inv_tup h
    refine PE.imp (pe_tup (sEs es g h1)) fun σ H Q ⟨m, ρ, S, sm, lv, po⟩ => ?_
    simp only [evE] at po
    refine ⟨m, ρ, S, sm, lv, po.bind.mono fun vs H1 ⟨m1, rs, S1, e1, s1, r1, p1⟩ => ?_⟩
    split at p1
    · rename_i ds S2 ed
      obtain ⟨m2, e2, s2, d2⟩ := toDs_ok ed s1 r1
      split at p1
      · rename_i hl
        refine ⟨by rw [← d2.len]; exact hl, fun p hp => ?_⟩
        exact PO.vnew (p1.from e2) s2 hp (dv_tup (s2.fresh hp) upd_same (DVs.keep (Ext.new s2 hp).keep _ _ d2))
      · exact p1.elim
    · exact p1.elim
  | .lst mu es, c, cur, X, W, e, g, h => by
    obtain ⟨l, pos, rfl, h1⟩ := inv_lst h
    refine PE.imp (pe_lst (sEs es g h1)) fun σ H Q ⟨m, ρ, S, sm, lv, po⟩ => ?_
    simp only [evE] at po
    refine ⟨m, ρ, S, sm, lv, po.bind.mono fun vs H1 ⟨m1, rs, S1, e1, s1, r1, p1⟩ => ?_⟩
    split at p1
    · rename_i ds S2 ed
      obtain ⟨m2, e2, s2, d2⟩ := toDs_ok ed s1 r1
      unfold newL at p1
      split at p1
      · rename_i hl
        refine ⟨by rw [← d2.len]; exact hl, fun p hp => ?_⟩
        split at p1
        · refine (p1.from e2) _ _ _ (Ext.newR s2 hp) (s2.newR hp d2) ⟨p, rfl, .inl ?_⟩
          show (m2.l ++ [some p])[S2.length]? = _
          rw [List.getElem?_append_right (by rw [s2.len]; omega), s2.len]
          simp
        · exact PO.vnew (p1.from e2) s2 hp (dv_lst (s2.fresh hp) upd_same (DVs.keep (Ext.new s2 hp).keep _ _ d2))
      · exact p1.elim
    · exact p1.elim
  | .ix a i, c, cur, X, W, e, g, h => by
    obtain ⟨l, r, pos, rfl, h1, h2, h3⟩ := inv_ix h
    refine PE.imp (pe_ix (six (cur := cur) (W := W)) (sE a g h1) (sE i g h2) (plainIx_of h3)) fun σ H Q ⟨m, ρ, S, sm, lv, po⟩ => ?_
    simp only [evE] at po
    exact ⟨m, ρ, S, sm, lv, po.bind.mono fun x H1 ⟨m1, a1, S1, e1, s1, r1, p1⟩ => ⟨m1, ρ, S1, s1, lv.ext e1, p1.bind.mono fun y H2 ⟨m2, b1, S2, e2, s2, r2, p2⟩ => ⟨m2, S2, a1, b1, σ, s2, r1.ext e2, r2, p2⟩⟩⟩
  | .slc a lo hi, c, cur, X, W, e, g, h => by
    obtain ⟨l, u, v, p2, pos, rfl, h1, h2, h3⟩ := inv_slc h
    refine PE.imp (pe_slice (ssl (cur := cur) (W := W)) (sE a g h1) (sO lo g h2) (sO hi g h3)) fun σ H Q ⟨m, ρ, S, sm, lv, po⟩ => ?_
    simp only [evE] at po
    refine ⟨m, ρ, S, sm, lv, po.bind.mono fun x H1 ⟨m1, a1, S1, e1, s1, r1, p1⟩ => ⟨m1, ρ, S1, s1, lv.ext e1, p1.bind.mono fun y H2 ⟨m2, b1, S2, e2, s2, r2, p2⟩ => ⟨m2, ρ, S2, s2, (lv.ext e1).ext e2, p2.bind.mono fun z H3 ⟨m3, c1, S3, e3, s3, r3, p3⟩ => ?_⟩⟩⟩
    have r2 : b1 = y := r2
    have r3 : c1 = z := r3
    subst r2 r3
    exact ⟨m3, S3, a1, σ, s3, (r1.ext e2).ext e3, p3⟩
  | .rev a, c, cur, X, W, e, g, h => by
    obtain ⟨l, n, p1, p2, p3, pos, rfl, h1⟩ := inv_rev h
    refine PE.imp (pe_revL (sE a g h1)) fun σ H Q ⟨m, ρ, S, sm, lv, po⟩ => ?_
    simp only [evE] at po
    refine ⟨m, ρ, S, sm, lv, po.bind.mono fun x H1 ⟨m1, a1, S1, e1, s1, r1, p1⟩ => ?_⟩
    unfold revR at p1
    split at p1
    · rename_i ds ed
      obtain ⟨b, vs, rfl, hq, hd⟩ := rdD_ok ed s1 r1
      refine ⟨b, vs, rfl, hq, fun p hp => ?_⟩
      exact PO.vnew p1 s1 hp (dv_lst (s1.fresh hp) upd_same (DVs.keep (Ext.new s1 hp).keep _ _ hd.reverse))
    · exact p1.elim
  | .call f es ks kes, c, cur, X, W, e, g, h => by
    obtain ⟨p, l, kws, pos, rfl, h1, h2, h3, h4, hcalm⟩ := inv_call h
    obtain ⟨hg, hd⟩ := g.gl h1
    obtain ⟨df, ed⟩ := Option.isSome_iff_exists.mp h4
    obtain ⟨a, fd, em, ek, F, hb⟩ := g.fx.defs f df ed
    have hkw := sKs kes g h3
    have hk := fun pos => kw_all (env := X.env) pos h3
    have fin : ∀ {m : Mp} {H : Hp} {σ : L2.St} {S : Sto} {rs zs : List R} {vs us : List V} {Q : V → Hp → Prop}, Sim X.K m S H → RVs X.K cur m H rs vs → RVs X.K cur m H zs us →
        PO X W (RVx X cur) m H σ (if (rs.length, ks) ∈ df.forms ∧ zs.length = ks.length ∧ (arr df.ps ks rs zs).all okR = true ∧ (arr df.ps ks rs zs).length = df.ps.length then call f (arr df.ps ks rs zs) S else .no) Q →
        KBn X.K fd df.ps vs.length ks (arr df.ps ks) (arr df.ps ks) ∧ us.length = ks.length ∧ spC X.K X.mg df.ps (call f) (arr df.ps ks vs us) H Q (WE W σ) := fun {m H σ S rs zs vs us Q} s r z po => by
      split at po
      · rename_i hf
        have ra := arr_rel (ps := df.ps) (ks := ks) r z
        refine ⟨hb _ _ (by rw [← Paired.length r]; exact hf.1), by rw [← Paired.length z]; exact hf.2.1, by rw [← Paired.length ra]; exact hf.2.2.2, m, S, _, s, RVs.nocur ra hf.2.2.1, ?_⟩
        have q := PO.pq po
        cases hc : call f (arr df.ps ks rs zs) S with
        | ok r S' => rw [hc] at q; exact fun m' H' v x s' rv => q m' H' v x s' (RV.anycur rv)
        | ex cc d S' => rw [hc] at q; exact q
        | no => rw [hc] at q; exact q.elim
      · exact po.elim
    cases l with
    | nil =>
      cases es with
      | cons _ _ => exact absurd h2 (by simp [ckEs])
      | nil =>
        refine PE.imp (pe_callX0 (g := arr df.ps ks) (gV := arr df.ps ks) F (g.room hcalm) hg em ek (fun σ => passAt g.tk σ) hkw (fun pos => (hk pos).1) (fun pos => (hk pos).2.1) hd (fun pos => (hk pos).2.2)) fun σ H Q ⟨m, ρ, S, sm, lv, po⟩ => ?_
        simp only [evE, evEs, Res.bind_ok, ed] at po
        exact ⟨m, ρ, S, sm, lv, po.bind.mono fun us H1 ⟨m1, zs, S1, e1, s1, r1, p1⟩ => fin s1 (rs := []) (vs := []) .nil r1 p1⟩
    | cons l0 l =>
      refine PE.imp (pe_callX (g := arr df.ps ks) (gV := arr df.ps ks) F (g.room hcalm) hg em ek (fun σ => passAt g.tk σ) (sEs es g h2) hkw (fun pos => (hk pos).1) (fun pos => (hk pos).2.1) hd (stars_of h2) (fun pos => (hk pos).2.2)) fun σ H Q ⟨m, ρ, S, sm, lv, po⟩ => ?_
      simp only [evE, ed] at po
      exact ⟨m, ρ, S, sm, lv, po.bind.mono fun vs H1 ⟨m1, rs, S1, e1, s1, r1, p1⟩ => ⟨m1, ρ, S1, s1, lv.ext e1, p1.bind.mono fun us H2 ⟨m2, zs, S2, e2, s2, r2, p2⟩ => fin s2 (RVs.ext r1 e2) r2 p2⟩⟩
  | .bi b es, c, cur, X, W, e, g, h => by
    obtain ⟨y, p, l, pos, rfl, h1, h2, h3⟩ := inv_bi h
    obtain ⟨l0, l, rfl⟩ := List.exists_cons_of_ne_nil h3
    have he := sEs es g h2
    have st := stars_of h2
    have s0 := star_cons (env := X.env) (es := l) (st l0 (List.mem_cons_self ..))
    have pl := plain_any (pos := pos) (env := X.env) (es := l) fun x hx => st x (List.mem_cons_of_mem _ hx)
    simp only [ckBi, Bool.and_eq_true, decide_eq_true_eq] at h1
    obtain ⟨⟨⟨rfl, h4⟩, h5⟩, h6⟩ := h1
    obtain ⟨hg, hd⟩ := g.gl h4
    have out : ∀ σ H Q, TX X cur W (RVx X cur) (evE G call (.bi b es)) σ H Q → tCB (rBi X cur W b) (TX X cur W (RVsx X cur) (evEs G call es)) σ H Q := fun σ H Q ⟨m, ρ, S, sm, lv, po⟩ => by
      simp only [evE] at po
      exact ⟨m, ρ, S, sm, lv, po.bind.mono fun vs H1 ⟨m1, rs, S1, e1, s1, r1, p1⟩ => ⟨m1, S1, rs, σ, s1, r1, p1⟩⟩
    split at h5
    · rename_i id eb
      obtain ⟨q1, q2, q3⟩ := bi_fn (cur := cur) (W := W) g eb h6
      exact PE.imp (pe_callB q1 hg (g.fx.bis _ (of_decide_eq_true h5)) q2 he q3 hd s0 pl) out
    · rename_i id eb
      obtain ⟨q1, q2, q3⟩ := bi_ty (X := X) (cur := cur) (W := W) eb
      exact PE.imp (pe_callTy q1 hg (g.fx.bis _ (of_decide_eq_true h5)) q2 he q3 hd s0 pl) out
    · rename_i id eb
      exact PE.imp (pe_callBfun (bi_im (X := X) (cur := cur) (W := W) eb) hg (g.fx.imps _ _ (of_decide_eq_true h5)) he hd s0 pl) out
    · cases h5
  | .isi a tu ts, c, cur, X, W, e, g, h => by
    obtain ⟨p, l, r, pos, rfl, h1, h2, h3, h4, h5⟩ := inv_isi h
    obtain ⟨hg, hd⟩ := g.gl h1
    have hb : bootBuiltins "isinstance" = some (.builtin "isinstance") := by decide +kernel
    have key : ∀ {m : Mp} {H : Hp} {σ : L2.St} {S1 : Sto} {a1 : R} {Q : V → Hp → Prop}, PO X W (RVx X cur) m H σ (match (rdD S1 a1).bind tyD with
        | some t => match isiD t ts with
          | some k => .ok (.v (.bool k)) S1
          | none => .no
        | none => .no) Q → ∃ d t, rdD S1 a1 = some d ∧ tyD d = some t ∧ PO X W (RVx X cur) m H σ (.ok (.v (.bool (ts.any (isiB t)))) S1) Q := fun {m H σ S1 a1 Q} p1 => by
      cases e1 : rdD S1 a1 with
      | none => rw [e1] at p1; exact p1.elim
      | some d =>
        rw [e1, Option.bind_some] at p1
        cases e2 : tyD d with
        | none => rw [e2] at p1; exact p1.elim
        | some t =>
          rw [e2] at p1
          refine ⟨d, t, rfl, e2, ?_⟩
          cases e3 : isiD t ts with
          | none => simp only [e3] at p1; exact p1.elim
          | some kk =>
            simp only [e3] at p1
            unfold isiD at e3
            split at e3
            · cases e3
              exact p1
            · cases e3
    rcases h5 with ⟨t, rfl, h5⟩ | ⟨rs, n, p2, rfl, h5, h6⟩
    · obtain ⟨q1, q2, q3⟩ := ty_pe g h5
      refine PE.imp (pe_callB call_isi hg (g.fx.bis _ h2) hb (pa_cons (sE a g h3) (pa_cons q1 pa_nil (star_cons q3)) (star_cons h4)) (by decide) hd (star_cons h4) (plain_any fun x hx => by simp at hx; subst hx; exact q3)) fun σ H Q ⟨m, ρ, S, sm, lv, po⟩ => ?_
      simp only [evE] at po
      refine ⟨m, ρ, S, sm, lv, po.bind.mono fun x H1 ⟨m1, a1, S1, e1, s1, r1, p1⟩ => ?_⟩
      obtain ⟨d, ty, k0, k2, k3⟩ := key p1
      refine ⟨x, .ty t, .type ty, .type t, isiB ty t, rfl, .ty t, tyx_ok (rdD_ok k0 s1 r1) k2, kit_ty (kit_is (tyD_mem k2) q2), ?_⟩
      have k4 := PO.v0 k3 s1 dv_bool
      simpa using k4
    · obtain ⟨q1, q2⟩ := tys_pa g h5
      refine PE.imp (pe_callB call_isiT hg (g.fx.bis _ h2) hb (pa_cons (sE a g h3) (pa_cons (pe_tup q1) pa_nil (star_cons rfl)) (star_cons h4)) (by decide) hd (star_cons h4) (plain_any fun x hx => by simp at hx; subst hx; rfl)) fun σ H Q ⟨m, ρ, S, sm, lv, po⟩ => ?_
      simp only [evE] at po
      refine ⟨m, ρ, S, sm, lv, po.bind.mono fun x H1 ⟨m1, a1, S1, e1, s1, r1, p1⟩ => ?_⟩
      obtain ⟨d, ty, k0, k2, k3⟩ := key p1
      have hlen : ∀ {ts : List String} {rs : List Expr}, ckTys c G ts rs = true → ts.length = rs.length := by
        intro ts
        induction ts with
        | nil =>
          intro rs hh
          cases rs with
          | nil => rfl
          | cons _ _ => simp [ckTys] at hh
        | cons t ts ih =>
          intro rs hh
          cases rs with
          | nil => simp [ckTys] at hh
          | cons r rs =>
            simp only [ckTys, Bool.and_eq_true] at hh
            simp [ih hh.2]
      refine ⟨by rw [List.length_map, hlen h5, sizeLine_eq]; omega, fun p hp => ?_⟩
      have x2 := Ext.new (o := .tup (ts.map V.ty)) s1 hp
      exact ⟨x, p, ts.map V.ty, .type ty, ts.map Value.type, ts.any (isiB ty), rfl, upd_same, cls_all ts, tyx_ok (rdD_ok k0 (s1.new hp) (r1.ext x2)) k2, kit_any (tyD_mem k2) q2, PO.vnew k3 s1 hp dv_bool⟩
  | .mth m o es, c, cur, X, W, e, g, h => by
    obtain ⟨o', n, apos, l, cpos, ty, ar, rfl, h1, h6, h2, h3, h4, h5⟩ := inv_mth h
    have hbase : attributeBase o' n X.env (eval o' X.env) = eval o' X.env := by
      cases o' <;> first | rfl | cases h3
    have mm := look_mem h1
    simp only [mtTab, List.mem_cons, Prod.mk.injEq, List.mem_nil_iff, or_false] at mm
    cases l with
    | nil =>
      cases es with
      | cons _ _ => exact absurd h4 (by simp [ckEs])
      | nil =>
        have out : ∀ σ H Q, TX X cur W (RVx X cur) (evE G call (.mth m o .nil)) σ H Q → tBM0 X.K ty (rMt X cur W m) (TX X cur W (RVx X cur) (evE G call o)) σ H Q := fun σ H Q ⟨mp, ρ, S, sm, lv, po⟩ => by
          simp only [evE, evEs, Res.bind_ok] at po
          refine ⟨mp, ρ, S, sm, lv, po.bind.mono fun x H1 ⟨m1, a1, S1, e1, s1, r1, p1⟩ => ?_⟩
          split at p1
          · rename_i hr
            exact ⟨recv_ty hr h1 s1 r1, m1, S1, a1, [], σ, s1, r1, .nil, p1⟩
          · exact p1.elim
        rcases mm with ⟨rfl, rfl, rfl, rfl⟩ | ⟨rfl, rfl, rfl, rfl⟩ | ⟨rfl, rfl, rfl, rfl⟩ | ⟨rfl, rfl, rfl, rfl⟩
        · cases h6
        rotate_left
        · cases h6
        · cases h6
        · exact PE.imp (pe_bm0 PySem.F.plainAttrs_list PySem.F.slot_list_pop PySem.F.type_list_pop smt_pop (sE o g h2) hbase h5) out
    | cons l0 l =>
      have st := stars_of h4
      have s0 := star_cons (env := X.env) (es := l) (st l0 (List.mem_cons_self ..))
      have pl := plain_any (pos := cpos) (env := X.env) (es := l) fun x hx => st x (List.mem_cons_of_mem _ hx)
      have hfew : ((backTo cpos (starEach (l0 :: l) X.env)).all (fun x => !x.1) && (backToKw cpos (keywordEach [] X.env)).all (fun x => x.1.isSome)
          && decide ((l0 :: l).length + ([] : List Keyword).length + (if ([] : List Keyword).isEmpty then 0 else 1) < 30)) = true := by
        rw [plain_all st, h6]
        rcases mm with ⟨_, _, _, rfl⟩ | ⟨_, _, _, rfl⟩ | ⟨_, _, _, rfl⟩ | ⟨_, _, _, rfl⟩ <;> rfl
      have out : ∀ σ H Q, TX X cur W (RVx X cur) (evE G call (.mth m o es)) σ H Q → tBM X.K ty (rMt X cur W m) (TX X cur W (RVx X cur) (evE G call o)) (TX X cur W (RVsx X cur) (evEs G call es)) σ H Q := fun σ H Q ⟨mp, ρ, S, sm, lv, po⟩ => by
        simp only [evE] at po
        refine ⟨mp, ρ, S, sm, lv, po.bind.mono fun x H1 ⟨m1, a1, S1, e1, s1, r1, p1⟩ => ?_⟩
        split at p1
        · rename_i hr
          exact ⟨recv_ty hr h1 s1 r1, m1, ρ, S1, s1, lv.ext e1, p1.bind.mono fun vs H2 ⟨m2, rs, S2, e2, s2, r2, p2⟩ => ⟨m2, S2, a1, rs, σ, s2, r1.ext e2, r2, p2⟩⟩
        · exact p1.elim
      rcases mm with ⟨rfl, rfl, rfl, rfl⟩ | ⟨rfl, rfl, rfl, rfl⟩ | ⟨rfl, rfl, rfl, rfl⟩ | ⟨rfl, rfl, rfl, rfl⟩
      · exact PE.imp (pe_bm PySem.F.plainAttrs_list PySem.F.slot_list_append PySem.F.type_list_append smt_append (sE o g h2) (sEs es g h4) hbase hfew h5 s0 pl) out
      · cases h6
      · exact PE.imp (pe_bm PySem.F.plainAttrs_list PySem.F.slot_list_insert PySem.F.type_list_insert smt_insert (sE o g h2) (sEs es g h4) hbase hfew h5 s0 pl) out
      · exact PE.imp (pe_bm PySem.F.plainAttrs_list PySem.F.slot_list_extend PySem.F.type_list_extend smt_extend (sE o g h2) (sEs es g h4) hbase hfew h5 s0 pl) out
  | .lc mu own p it cd x, c, cur, X, W, e, g, h => by
    obtain ⟨e', tg, iter, ifs, scope, pos, rfl, h1, h2, h3, h4, h5, h6, h7⟩ := inv_lc h
    have cal := g.calm h1
    have cn := g.nocur cal
    subst cn
    have bo := blk_ok g h2
    have hsl : ∀ i ∈ slots p, i ∈ own.map (·.2) := fun i hi => by
      have z := List.all_eq_true.mp h3 i hi
      simpa using z
    refine PE.imp (pe_lc (g := gX X.K none p) (tt := TX X none (fun _ _ _ _ => False) relB (evC G call cd)) (te := TX X none (fun _ _ _ _ => False) (RVx X none) (evE G call x)) cal g.nd (sI it g h5) bo
      (fun s H C cl fp => sP (g.blk bo.kind s H C cl fp) p tg h4) (fun s H C cl fp => sC cd (g.blk bo.kind s H C cl fp) h6) (fun s H C cl fp => sE x (g.blk bo.kind s H C cl fp) h7) (itFold h5)) fun σ H Q ⟨m, ρ, S, sm, lv, po⟩ => ?_
    simp only [evE] at po
    exact ⟨m, ρ, S, sm, lv, po.bind.mono fun J H1 ⟨m1, ds, S1, e1, s1, r1, p1⟩ => fun D0 hD => lc_sound hsl hD s1 (lv.ext e1) r1 p1⟩
  | .gix x i, c, cur, X, W, e, g, h => by
    obtain ⟨p, r, pos, rfl, h1, h2, h3, h4⟩ := inv_gix h
    obtain ⟨q1, q2⟩ := g.gl h1
    obtain ⟨kvs, ek⟩ := Option.isSome_iff_exists.mp h2
    obtain ⟨a, em, kd⟩ := g.fx.dict x kvs ek
    refine PE.imp (pe_ix ix_kdictI (pe_glob (v := .ref a) q1 em rfl q2) (sE i g h3) (plainIx_of h4)) fun σ H Q ⟨m, ρ, S, sm, lv, po⟩ => ?_
    simp only [evE, ek] at po
    refine ⟨m, ρ, S, sm, lv, po.bind.mono fun y H1 ⟨m1, b1, S1, e1, s1, r1, p1⟩ => ?_⟩
    split at p1
    · rename_i kvs' b2 k q1
      cases q1
      cases (show y = V.int k from r1)
      cases el : kvs.lookup k with
      | none => simp only [el, resD] at p1; exact p1.elim
      | some d =>
        simp only [el, resD] at p1
        exact ⟨a, kvs, k, d, rfl, rfl, kd, el, fun v hv => PO.v0 p1 s1 (hv _ _)⟩
    · exact p1.elim
  | .dix ks vs i, c, cur, X, W, e, g, h => by
    obtain ⟨keys, vals, dpos, r, pos, rfl, h1, h2, h3, h4, h5, h6, h7, h8⟩ := inv_dix h
    obtain ⟨hk1, hk2⟩ := keys_some h1
    refine PE.imp (pe_dget (by have := g.hu; omega) (pe_disp (sPairs vs g h1 h3 h2) hk1 h3 h5 h6) (sE i g h7) (plainIx_of h8)) fun σ H Q ⟨m, ρ, S, sm, lv, po⟩ => ?_
    simp only [evE] at po
    intro p hp
    have x0 : Ext m H (m.hide p) (upd H p (.dK [])) := ⟨Kp.hide sm hp, fun a h => List.mem_cons_of_mem _ h, fun a ha => upd_ne (fun z => (sm.hid a ha).2 (by rw [z]; exact hp)), fun _ _ h => .inl h, fun _ h => h⟩
    refine tPairs_ok (by rw [hk2, h3]; exact ckEs_len h2) (sm.hide hp) (lv.ext x0) ?_
    cases hE : evEs G call vs ρ S with
    | no => rw [hE] at po; exact po.elim
    | ex cc d S1 => rw [hE] at po; exact PO.from (rel := RVsx X cur) (Q := fun _ _ => True) (show PO X W (RVsx X cur) m H σ (.ex cc d S1 : Res (List R)) (fun _ _ => True) from po) x0
    | ok rs S1 =>
      rw [hE] at po
      simp only [Res.bind_ok] at po
      intro m1 H1 ws x1 s1 r1
      split at po
      · rename_i ds S2 ed
        obtain ⟨m2, x2, s2, d2⟩ := toDs_ok ed s1 r1
        have hp2 : p ∈ m2.hd := x2.hd p (x1.hd p (List.mem_cons_self ..))
        have e2 : H1 p = some (.dK []) := by rw [x1.hid p (List.mem_cons_self ..), upd_same]
        have lk : ks.length = ws.length := by rw [← d2.len, toDs_len ed, evEs_len hE, hk2, h3, ckEs_len h2]
        refine ⟨e2, ks.zip ws, zip_map ks ws, by rw [List.length_zip]; omega, ?_⟩
        have em : mergeK [] (ks.zip ws) = ks.zip ws := by
          have z := merge_nd (acc := []) (more := ks.zip ws) (by rw [List.map_fst_zip (by omega)]; exact h4) (fun _ z => absurd z (by simp))
          simpa using z
        rw [em]
        -- the dict stands
        have x02 := (x0.trans x1).trans x2
        have xn : Ext m H m2 (upd H1 p (.dK (ks.zip ws))) := ⟨x02.keep.trans (Kp.grow (.inr hp2)), x02.hd, fun a ha => by
          rw [upd_ne (fun z => (sm.hid a ha).2 (by rw [z]; exact hp))]
          exact x02.hid a ha, x02.refs, x02.dead⟩
        have sn : Sim X.K m2 S2 (upd H1 p (.dK (ks.zip ws))) := s2.grow hp2
        have po2 := po.from xn
        refine ⟨m2, ρ, S2, sn, lv.ext xn, po2.bind.mono fun y H3 ⟨m3, b3, S3, x3, s3, r3, p3⟩ => ?_⟩
        have e3 : H3 p = some (.dK (ks.zip ws)) := by rw [x3.hid p hp2, upd_same]
        have d3 : DVs X.K (Lv m3) H3 ds ws := DVs.keep x3.keep _ _ (DVs.keep (Kp.grow (.inr hp2)) _ _ d2)
        split at p3
        · rename_i k
          cases (show y = V.int k from r3)
          cases el : lookK (ks.zip ds) (.inl k) with
          | none => simp only [el, resD] at p3; exact p3.elim
          | some d =>
            simp only [el, resD] at p3
            obtain ⟨v, ev, dv⟩ := zip_look d3 el
            have q := DGet.k (k := (.inl k : L2.Key)) e3
            rw [ev] at q
            exact ⟨p, v, rfl, q, PO.v0 p3 s3 dv⟩
        · rename_i k
          cases (show y = V.str k from r3)
          cases el : lookK (ks.zip ds) (.inr k) with
          | none => simp only [el, resD] at p3; exact p3.elim
          | some d =>
            simp only [el, resD] at p3
            obtain ⟨v, ev, dv⟩ := zip_look d3 el
            have q := DGet.k (k := (.inr k : L2.Key)) e3
            rw [ev] at q
            exact ⟨p, v, rfl, q, PO.v0 p3 s3 dv⟩
        · exact p3.elim
      · exact po.elim
  | .fld a f, c, cur, X, W, e, g, h => by
    obtain ⟨x, p, pos, i, rfl, rfl, rfl, h1⟩ := inv_fld h
    cases cur with
    | none =>
      refine ⟨fun pins s σ H Q I ⟨m, ρ, S, sm, lv, po⟩ => ?_⟩
      simp only [evE] at po
      split at po
      · rename_i r er
        simp only [Res.bind_ok] at po
        split at po
        · rename_i cc d
          obtain ⟨v, _, a, dd, w, z, _⟩ := lv.at_ i _ er
          cases z
        · exact po.elim
      · exact po.elim
    | some q =>
      obtain ⟨a, cn, dd⟩ := q
      obtain ⟨X0, oe, pn, C, l, rfl, hz, hf, hm, hl⟩ := g.cu a cn dd rfl
      obtain ⟨C', hm', ex⟩ := g.fx.excs cn l hl
      have eC : C' = C := by
        have z := hm'.symm.trans hm
        cases z
        rfl
      subst eC
      refine PE.imp (pe_xf ex.xf ex.no hz hf (sE (.loc i) (e := .Name x p) g (by unfold ckE; exact h1))) fun σ H Q ⟨m, ρ, S, sm, lv, po⟩ => ?_
      simp only [evE] at po
      refine ⟨m, ρ, S, sm, lv, ?_⟩
      have po2 : PO (Cx.suite X0 a ((a, oe) :: pn)) W (RVx (Cx.suite X0 a ((a, oe) :: pn)) (some (a, cn, dd))) m H σ ((evE G call (.loc i) ρ S).bind fun x S1 => match x with
        | .x _ d => if (("value" : Str) = "value") then .ok (.v d) S1 else .no
        | _ => .no) Q := by
        simp only [evE]
        exact po
      refine po2.bind.mono fun v H1 ⟨m1, a1, S1, e1, s1, r1, p1⟩ => ?_
      split at p1
      · rename_i cc d
        obtain ⟨a2, dd2, w, z, rfl, n, hd, dv⟩ := r1
        cases z
        rw [if_pos rfl] at p1
        refine ⟨rfl, rfl, dd, _, w, rfl, hd, by simp [List.lookup], PO.v0 p1 s1 dv⟩
      · exact p1.elim
theorem sEs : ∀ (x : Exs) {c : Ck} {cur : Cur} {X : Cx} {W : WX} {e : List Expr}, Gd G call k c cur X W → ckEs G c x e = true → PA X e (TX X cur W (RVsx X cur) (evEs G call x))
  | .nil, c, cur, X, W, [], g, h => PA.imp pa_nil fun σ H Q ⟨m, ρ, S, sm, lv, po⟩ => by
    simp only [evEs] at po
    exact po m H [] .refl sm .nil
  | .cons x xs, c, cur, X, W, l :: ls, g, h => by
    simp only [ckEs, Bool.and_eq_true] at h
    refine PA.imp (pa_cons (sE x g h.1.2) (sEs xs g h.2) (star_cons h.1.1)) fun σ H Q ⟨m, ρ, S, sm, lv, po⟩ => ?_
    simp only [evEs] at po
    exact ⟨m, ρ, S, sm, lv, po.bind.mono fun v H1 ⟨m1, a1, S1, e1, s1, r1, p1⟩ => ⟨m1, ρ, S1, s1, lv.ext e1, p1.bind.mono fun vs H2 ⟨m2, rs, S2, e2, s2, r2, p2⟩ => p2 m2 H2 _ .refl s2 (.cons (r1.ext e2) r2)⟩⟩
  | .nil, _, _, _, _, _ :: _, _, h => by simp [ckEs] at h
  | .cons _ _, _, _, _, _, [], _, h => by simp [ckEs] at h
theorem sPairs : ∀ (x : Exs) {ks : List L2.Key} {c : Ck} {cur : Cur} {X : Cx} {W : WX} {pos : Pos} {keys : List (Option Expr)} {e : List Expr}, Gd G call k c cur X W → ckKeys ks keys = true → keys.length = e.length → ckEs G c x e = true → PPs X pos keys e (trsOf G call X cur W ks x)
  | .nil, [], c, cur, X, W, pos, [], [], g, h1, h3, h => pps_nil
  | .cons x xs, k0 :: ks, c, cur, X, W, pos, ke :: keys, l :: ls, g, h1, h3, h => by
    simp only [ckEs, Bool.and_eq_true] at h
    simp only [ckKeys, Bool.and_eq_true] at h1
    obtain ⟨ke', rfl, pk⟩ := key_pe (X := X) h1.1
    exact pps_cons pk (sE x g h.1.2) (sPairs xs g h1.2 (by simpa using h3) h.2)
  | .nil, _, _, _, _, _, _, _, _ :: _, _, _, _, h => by simp [ckEs] at h
  | .cons _ _, _, _, _, _, _, _, _, [], _, _, _, h => by simp [ckEs] at h
  | .nil, [], _, _, _, _, _, _ :: _, [], _, h, _, _ => by simp [ckKeys] at h
  | .nil, _ :: _, _, _, _, _, _, [], [], _, h, _, _ => by simp [ckKeys] at h
  | .nil, _ :: _, _, _, _, _, _, _ :: _, [], _, _, h, _ => by simp at h
  | .cons _ _, [], _, _, _, _, _, [], _ :: _, _, _, h, _ => by simp at h
  | .cons _ _, [], _, _, _, _, _, _ :: _, _ :: _, _, h, _, _ => by simp [ckKeys] at h
  | .cons _ _, _ :: _, _, _, _, _, _, [], _ :: _, _, h, _, _ => by simp [ckKeys] at h
theorem sKs : ∀ (x : Exs) {ks : List Str} {c : Ck} {cur : Cur} {X : Cx} {W : WX} {e : List Keyword}, Gd G call k c cur X W → ckKs G c ks x e = true → PK X e (TX X cur W (RVsx X cur) (evEs G call x))
  | .nil, [], c, cur, X, W, [], g, h => ⟨fun pos pins s σ H Q I ⟨m, ρ, S, sm, lv, po⟩ => by
    simp only [evEs] at po
    exact pk_nil.run pos pins s σ H Q I (po m H [] .refl sm .nil)⟩
  | .cons x xs, k0 :: ks, c, cur, X, W, ⟨some n, l, p⟩ :: ls, g, h => by
    simp only [ckKs, Bool.and_eq_true] at h
    have hh := pk_cons (nm := some n) (kpos := p) (sE x g h.1.2) (sKs xs g h.2)
    refine ⟨fun pos pins s σ H Q I ⟨m, ρ, S, sm, lv, po⟩ => hh.run pos pins s σ H Q I ?_⟩
    simp only [evEs] at po
    exact ⟨m, ρ, S, sm, lv, po.bind.mono fun v H1 ⟨m1, a1, S1, e1, s1, r1, p1⟩ => ⟨m1, ρ, S1, s1, lv.ext e1, p1.bind.mono fun vs H2 ⟨m2, rs, S2, e2, s2, r2, p2⟩ => p2 m2 H2 _ .refl s2 (.cons (r1.ext e2) r2)⟩⟩
  | .nil, [], _, _, _, _, _ :: _, _, h => by simp [ckKs] at h
  | .nil, _ :: _, _, _, _, _, _, _, h => by simp [ckKs] at h
  | .cons _ _, [], _, _, _, _, _, _, h => by simp [ckKs] at h
  | .cons _ _, _ :: _, _, _, _, _, [], _, h => by simp [ckKs] at h
  | .cons _ _, _ :: _, _, _, _, _, ⟨none, _, _⟩ :: _, _, h => by simp [ckKs] at h
theorem sO : ∀ (x : Exo) {c : Ck} {cur : Cur} {X : Cx} {W : WX} {e : Option Expr}, Gd G call k c cur X W → ckO G c x e = true → L2.PO X e (TX X cur W relK (evO G call x))
  | .no, c, cur, X, W, none, g, h => ⟨fun pins s σ H Q I ⟨m, ρ, S, sm, lv, po⟩ => by
    simp only [evO] at po
    exact po_none.run pins s σ H Q I (po m H none .refl sm rfl)⟩
  | .so x, c, cur, X, W, some l, g, h => by
    simp only [ckO] at h
    have hh := po_some (sE x g h)
    refine ⟨fun pins s σ H Q I ⟨m, ρ, S, sm, lv, po⟩ => hh.run pins s σ H Q I ?_⟩
    simp only [evO] at po
    refine ⟨m, ρ, S, sm, lv, po.bind.mono fun v H1 ⟨m1, a1, S1, e1, s1, r1, p1⟩ => ?_⟩
    split at p1
    · rename_i i
      exact ⟨i, r1, p1 m1 H1 (some i) .refl s1 rfl⟩
    · exact p1.elim
  | .no, _, _, _, _, some _, _, h => by simp [ckO] at h
  | .so _, _, _, _, _, none, _, h => by simp [ckO] at h
theorem sC : ∀ (x : Exo) {c : Ck} {cur : Cur} {X : Cx} {W : WX} {e : List Expr}, Gd G call k c cur X W → ckC G c x e = true → PTs X e (TX X cur W relB (evC G call x))
  | .no, c, cur, X, W, [], g, h => ⟨fun pins s σ H Q I ⟨m, ρ, S, sm, lv, po⟩ => by
    simp only [evC] at po
    exact pts_nil.run pins s σ H Q I (po m H true .refl sm rfl)⟩
  | .so x, c, cur, X, W, [l], g, h => by
    simp only [ckC] at h
    have hh := pts_one (sT x g h)
    exact ⟨fun pins s σ H Q I ⟨m, ρ, S, sm, lv, po⟩ => hh.run pins s σ H Q I ⟨m, ρ, S, sm, lv, by simpa only [evC, evT] using po⟩⟩
  | .no, _, _, _, _, _ :: _, _, h => by simp [ckC] at h
  | .so _, _, _, _, _, [], _, h => by simp [ckC] at h
  | .so _, _, _, _, _, _ :: _ :: _, _, h => by simp [ckC] at h
theorem sI : ∀ (x : Itx) {c : Ck} {cur : Cur} {X : Cx} {W : WX} {tg e : Expr}, Gd G call k c cur X W → ckI G c x tg e = true → PI X tg e (TX X cur W (relI X.K) (evI G call x))
  | .seq x, c, cur, X, W, tg, e, g, h => by
    obtain ⟨h1, h2⟩ := inv_seq h
    refine PI.imp (pi_seq (sE x g h1)) fun σ H Rk ⟨m, ρ, S, sm, lv, po⟩ => ?_
    simp only [evI] at po
    refine ⟨m, ρ, S, sm, lv, po.bind.mono fun v H1 ⟨m1, a1, S1, e1, s1, r1, p1⟩ => ?_⟩
    split at p1
    · rename_i l
      obtain ⟨a, rfl, hq⟩ := scr_sq r1
      exact ⟨a, rfl, .inl ⟨⟨_, hq⟩, p1 m1 H1 _ .refl s1 (walkD_scr r1)⟩⟩
    · split at p1
      · rename_i ds S2 ed
        obtain ⟨m2, x2, s2, d2⟩ := toD_ok ed s1 r1
        obtain ⟨a, vs, rfl, hq, hd⟩ := dv_tup_inv d2
        exact ⟨a, rfl, .inr ⟨⟨_, hq⟩, p1 m2 H1 _ x2 s2 (walkD_tup d2)⟩⟩
      · rename_i ds S2 ed
        obtain ⟨m2, x2, s2, d2⟩ := toD_ok ed s1 r1
        obtain ⟨a, vs, rfl, n, hq, hd⟩ := dv_lst_inv d2
        exact ⟨a, rfl, .inl ⟨⟨_, SqL.of hq⟩, p1 m2 H1 _ x2 s2 (walkD_list d2)⟩⟩
      · exact p1.elim
  | .rng1 a, c, cur, X, W, tg, e, g, h => by
    obtain ⟨p, l, pos, rfl, h1, h2, h3, h4⟩ := inv_rng1 h
    obtain ⟨hg, hd⟩ := g.gl h1
    refine PI.imp (pi_range1 hg (g.fx.bis _ h2) (pa_cons (sE a g h4) pa_nil (star_cons h3)) (star_cons h3)) fun σ H Rk ⟨m, ρ, S, sm, lv, po⟩ => ?_
    simp only [evI] at po
    refine ⟨m, ρ, S, sm, lv, po.bind.mono fun v H1 ⟨m1, a1, S1, e1, s1, r1, p1⟩ => ?_⟩
    split at p1
    · rename_i n
      cases (show v = V.int n from r1)
      split at p1
      · rename_i hn
        exact ⟨n, rfl, hn.1, hn.2, p1 m1 H1 _ .refl s1 walkD_rng⟩
      · exact p1.elim
    · exact p1.elim
  | .rng2 a b, c, cur, X, W, tg, e, g, h => by
    obtain ⟨p, l, r, pos, rfl, h1, h2, h3, h4, h5, h6⟩ := inv_rng2 h
    obtain ⟨hg, hd⟩ := g.gl h1
    refine PI.imp (pi_range2 hg (g.fx.bis _ h2) (pa_cons (sE a g h5) (pa_cons (sE b g h6) pa_nil (star_cons h4)) (star_cons h3)) (by rw [star_cons h3, star_cons h4]; rfl) (by rw [star_cons h4]; rfl)) fun σ H Rk ⟨m, ρ, S, sm, lv, po⟩ => ?_
    simp only [evI] at po
    refine ⟨m, ρ, S, sm, lv, po.bind.mono fun v H1 ⟨m1, a1, S1, e1, s1, r1, p1⟩ => ⟨m1, ρ, S1, s1, lv.ext e1, p1.bind.mono fun u H2 ⟨m2, b1, S2, e2, s2, r2, p2⟩ => ?_⟩⟩
    cases a1 with
    | v d1 =>
      cases d1 with
      | int i =>
        cases b1 with
        | v d2 =>
          cases d2 with
          | int j =>
            cases (show v = V.int i from r1)
            cases (show u = V.int j from r2)
            simp only at p2
            split at p2
            · rename_i hn
              exact ⟨i, j, rfl, hn, p2 m2 H2 _ .refl s2 walkD_rng⟩
            · exact p2.elim
          | _ => exact p2.elim
        | _ => exact p2.elim
      | _ => cases b1 <;> exact p2.elim
    | _ => cases b1 <;> exact p2.elim
  | .enum a, c, cur, X, W, tg, e, g, h => by
    obtain ⟨ts, kk, p2, p, l, pos, rfl, rfl, h1, h2, h3, h4⟩ := inv_enum h
    obtain ⟨hg, hd⟩ := g.gl h1
    refine PI.imp (pi_enum hg (g.fx.bis _ h2) (pa_cons (sE a g h4) pa_nil (star_cons h3)) (star_cons h3)) fun σ H Rk ⟨m, ρ, S, sm, lv, po⟩ => ?_
    simp only [evI] at po
    refine ⟨m, ρ, S, sm, lv, po.bind.mono fun v H1 ⟨m1, a1, S1, e1, s1, r1, p1⟩ => ?_⟩
    split at p1
    · rename_i ds S2 ed
      obtain ⟨m2, x2, s2, d2⟩ := toD_ok ed s1 r1
      obtain ⟨b, vs, rfl, n, hq, hdv⟩ := dv_lst_inv d2
      exact ⟨b, vs, rfl, SqL.of hq, p1 m2 H1 _ x2 s2 (walkD_enum d2)⟩
    · exact p1.elim
  | .zip a b, c, cur, X, W, tg, e, g, h => by
    obtain ⟨ts, kk, p2, p, l, r, pos, rfl, rfl, h1, h2, h3, h4, h5, h6⟩ := inv_zip h
    obtain ⟨hg, hd⟩ := g.gl h1
    refine PI.imp (RZ.pi_zipA hg (g.fx.bis _ h2) (pa_cons (sE a g h5) (pa_cons (sE b g h6) pa_nil (star_cons h4)) (star_cons h3)) (star_cons h3) (plain_any fun x hx => by simp at hx; subst hx; exact h4)) fun σ H Rk ⟨m, ρ, S, sm, lv, po⟩ => ?_
    simp only [evI] at po
    refine ⟨m, ρ, S, sm, lv, po.bind.mono fun v H1 ⟨m1, a1, S1, e1, s1, r1, p1⟩ => ⟨m1, ρ, S1, s1, lv.ext e1, p1.bind.mono fun u H2 ⟨m2, b1, S2, e2, s2, r2, p2⟩ => ?_⟩⟩
    split at p2
    · rename_i d S3 ed
      split at p2
      · rename_i d' S4 ed'
        obtain ⟨m3, x3, s3, d3⟩ := toD_ok ed s2 (r1.ext e2)
        obtain ⟨m4, x4, s4, d4⟩ := toD_ok ed' s3 (r2.ext x3)
        have d3' := DV.keep x4.keep _ _ d3
        split at p2
        · obtain ⟨b3, vs3, rfl, n3, hq3, hd3⟩ := dv_lst_inv d3'
          obtain ⟨b4, vs4, rfl, n4, hq4, hd4⟩ := dv_lst_inv d4
          exact ⟨b3, b4, vs3, vs4, rfl, .inl ⟨SqL.of hq3, SqL.of hq4, p2 m4 H2 _ (x3.trans x4) s4 (walkD_zipL d3' d4)⟩⟩
        · obtain ⟨b3, vs3, rfl, hq3, hd3⟩ := dv_tup_inv d3'
          obtain ⟨b4, vs4, rfl, hq4, hd4⟩ := dv_tup_inv d4
          split at p2
          · exact ⟨b3, b4, vs3, vs4, rfl, .inr ⟨hq3, hq4, p2 m4 H2 _ (x3.trans x4) s4 (walkD_zipT d3' d4)⟩⟩
          · exact p2.elim
        · exact p2.elim
      · exact p2.elim
    · exact p2.elim
theorem sB : ∀ (x : Exs) {o : BoolOp} {c : Ck} {cur : Cur} {X : Cx} {W : WX} {e : List Expr} {pos : Pos}, Gd G call k c cur X W → ckEs G c x e = true → e ≠ [] → PE X (.BoolOp o e pos) (TX X cur W (RVx X cur) (evB G call o x))
  | .nil, o, c, cur, X, W, [], pos, g, h, hn => absurd rfl hn
  | .cons x .nil, o, c, cur, X, W, [l], pos, g, h, hn => by
    simp only [ckEs, Bool.and_eq_true] at h
    refine PE.imp (pe_one (sE x g h.1.2)) fun σ H Q ⟨m, ρ, S, sm, lv, po⟩ => ?_
    simp only [evB] at po
    exact ⟨m, ρ, S, sm, lv, po⟩
  | .cons x (.cons x2 xs), o, c, cur, X, W, l :: l2 :: ls, pos, g, h, hn => by
    simp only [ckEs] at h
    have h' : ckEs G c (.cons x2 xs) (l2 :: ls) = true := by
      simp only [ckEs]
      simp only [Bool.and_eq_true] at h
      simpa only [Bool.and_eq_true] using h.2
    simp only [Bool.and_eq_true] at h
    have ih := sB (.cons x2 xs) (o := o) (pos := pos) g h' (by simp)
    cases o with
    | And =>
      refine PE.imp (pe_andT (sE x g h.1.2) ih) fun σ H Q ⟨m, ρ, S, sm, lv, po⟩ => ?_
      simp only [evB] at po
      refine ⟨m, ρ, S, sm, lv, po.bind.mono fun v H1 ⟨m1, a1, S1, e1, s1, r1, p1⟩ => ?_⟩
      obtain ⟨k2, tv, p2⟩ := truthR_ok p1 s1 r1
      refine ⟨k2, tv, ?_⟩
      cases k2 with
      | true =>
        rw [if_pos (show true = goB .And from rfl)] at p2
        rw [if_pos rfl]
        exact ⟨m1, ρ, S1, s1, lv.ext e1, p2⟩
      | false =>
        rw [if_neg (show ¬ (false = goB .And) from Bool.false_ne_true)] at p2
        rw [if_neg Bool.false_ne_true]
        exact p2 m1 H1 v .refl s1 r1
    | Or =>
      refine PE.imp (pe_orT (sE x g h.1.2) ih) fun σ H Q ⟨m, ρ, S, sm, lv, po⟩ => ?_
      simp only [evB] at po
      refine ⟨m, ρ, S, sm, lv, po.bind.mono fun v H1 ⟨m1, a1, S1, e1, s1, r1, p1⟩ => ?_⟩
      obtain ⟨k2, tv, p2⟩ := truthR_ok p1 s1 r1
      refine ⟨k2, tv, ?_⟩
      cases k2 with
      | false =>
        rw [if_pos (show false = goB .Or from rfl)] at p2
        rw [if_neg Bool.false_ne_true]
        exact ⟨m1, ρ, S1, s1, lv.ext e1, p2⟩
      | true =>
        rw [if_neg (show ¬ (true = goB .Or) from fun z => Bool.noConfusion z)] at p2
        rw [if_pos rfl]
        exact p2 m1 H1 v .refl s1 r1
  | .nil, _, _, _, _, _, _ :: _, _, _, h, _ => by simp [ckEs] at h
  | .cons _ _, _, _, _, _, _, [], _, _, h, _ => by simp [ckEs] at h
  | .cons _ .nil, _, _, _, _, _, _ :: _ :: _, _, _, h, _ => by simp [ckEs] at h
  | .cons _ (.cons _ _), _, _, _, _, _, [_], _, _, h, _ => by simp [ckEs] at h
theorem sT : ∀ (x : Ex) {c : Ck} {cur : Cur} {X : Cx} {W : WX} {e : Expr}, Gd G call k c cur X W → ckE G c x e = true → PT X e (TX X cur W relB (evT G call x))
  | .not a, c, cur, X, W, e, g, h => by
    obtain ⟨l, pos, rfl, h1⟩ := inv_not h
    refine PT.imp (pt_not (sT a g h1)) fun σ H Q ⟨m, ρ, S, sm, lv, po⟩ => ?_
    rw [evT_not] at po
    refine ⟨m, ρ, S, sm, lv, po.bind.mono fun b H1 ⟨m1, a1, S1, e1, s1, r1, p1⟩ => ?_⟩
    have r1 : a1 = b := r1
    subst r1
    exact p1 m1 H1 _ .refl s1 rfl
  | .bop o es, c, cur, X, W, e, g, h => by
    obtain ⟨l, pos, rfl, h1, h2⟩ := inv_bop h
    exact PW.pt (PW.imp (sW es g h1 h2) fun σ H Q ⟨m, ρ, S, sm, lv, po⟩ => ⟨m, ρ, S, sm, lv, by unfold evBT; simpa only [evT, evE] using po⟩)
  | .cmp o a b, c, cur, X, W, e, g, h => by
    obtain ⟨l, r, pos, rfl, h1, h2, h3⟩ := inv_cmp h
    refine PT.imp (pt_cmpR (scm (cur := cur) (W := W) o g.hu) (sE a g h1) (sE b g h2) (behind_nset h3)) fun σ H Q ⟨m, ρ, S, sm, lv, po⟩ => ?_
    have po : PO X W relB m H σ (((evE G call a ρ S).bind fun x S1 => (evE G call b ρ S1).bind fun y S2 => (cmpR o x y S2).bind truthR)) Q := by
      unfold evT at po
      simp only [evE] at po
      simpa only [bind_bind] using po
    exact ⟨m, ρ, S, sm, lv, po.bind.mono fun x H1 ⟨m1, a1, S1, e1, s1, r1, p1⟩ => ⟨m1, ρ, S1, s1, lv.ext e1, p1.bind.mono fun y H2 ⟨m2, b1, S2, e2, s2, r2, p2⟩ => ⟨m2, S2, a1, b1, σ, s2, r1.ext e2, r2, cmp_end p2⟩⟩⟩
  | .chain o o2 a b d, c, cur, X, W, e, g, h => by
    obtain ⟨l, r, u, pos, rfl, h1, h2, h3, h4⟩ := inv_chain h
    refine PT.imp (pt_chain (scm (cur := cur) (W := W) o g.hu) (scm (cur := cur) (W := W) o2 g.hu) (sE a g h1) (sE b g h2) (sE d g h3) (by show behindInMarks o2 u = false; exact behind_nset h4)) fun σ H Q ⟨m, ρ, S, sm, lv, po⟩ => ?_
    unfold evT at po
    simp only [evE, bind_bind] at po
    refine ⟨m, ρ, S, sm, lv, po.bind.mono fun x H1 ⟨m1, a1, S1, e1, s1, r1, p1⟩ => ⟨m1, ρ, S1, s1, lv.ext e1, p1.bind.mono fun y H2 ⟨m2, b1, S2, e2, s2, r2, p2⟩ => ⟨m2, S2, a1, b1, σ, s2, r1.ext e2, r2, p2.bind.mono fun z H3 ⟨m3, c1, S3, e3, s3, r3, p3⟩ => ?_⟩⟩⟩
    split at p3
    · cases (show z = V.bl true from r3)
      refine ⟨true, rfl, ?_⟩
      rw [if_pos rfl]
      simp only [bind_bind] at p3
      exact ⟨m3, ρ, S3, s3, ((lv.ext e1).ext e2).ext e3, p3.bind.mono fun w H4 ⟨m4, d1, S4, e4, s4, r4, p4⟩ => ⟨m4, S4, b1, d1, σ, s4, (r2.ext e3).ext e4, r4, cmp_end p4⟩⟩
    · cases (show z = V.bl false from r3)
      refine ⟨false, rfl, ?_⟩
      rw [if_neg Bool.false_ne_true]
      exact ⟨false, rfl, p3 m3 H3 false .refl s3 rfl⟩
    · exact p3.elim
  | .ite t a b, c, cur, X, W, e, g, h => by
    obtain ⟨u, l, r, pos, rfl, h1, h2, h3⟩ := inv_ite h
    refine PT.imp (pt_ite (sT t g h1) (sT a g h2) (sT b g h3)) fun σ H Q ⟨m, ρ, S, sm, lv, po⟩ => ?_
    unfold evT at po
    simp only [evE] at po
    rw [bind_bind (x := (evE G call t ρ S).bind truthR)] at po
    refine ⟨m, ρ, S, sm, lv, PO.mono (PO.bind (x := evT G call t ρ S) po) fun x H1 ⟨m1, a1, S1, e1, s1, r1, p1⟩ => ?_⟩
    have r1 : a1 = x := r1
    subst r1
    cases a1 with
    | true =>
      rw [if_pos rfl] at p1 ⊢
      exact ⟨m1, ρ, S1, s1, lv.ext e1, p1⟩
    | false =>
      rw [if_neg Bool.false_ne_true] at p1 ⊢
      exact ⟨m1, ρ, S1, s1, lv.ext e1, p1⟩
  | .loc i, c, cur, X, W, e, g, h => by
    have hh := sE (.loc i) g h
    obtain ⟨_, _, rfl, _⟩ := inv_loc h
    exact PT.imp (pt_truth hh fun _ => rfl) (truthT _)
  | .gl x, c, cur, X, W, e, g, h => by
    have hh := sE (.gl x) g h
    obtain ⟨_, rfl, _⟩ := inv_gl h
    exact PT.imp (pt_truth hh fun _ => rfl) (truthT _)
  | .lit d, c, cur, X, W, e, g, h => by
    have hh := sE (.lit d) g h
    obtain ⟨_, _, _, rfl, _⟩ := inv_lit h
    exact PT.imp (pt_truth hh fun _ => rfl) (truthT _)
  | .op o a b, c, cur, X, W, e, g, h => by
    have hh := sE (.op o a b) g h
    obtain ⟨_, _, _, rfl, _⟩ := inv_op h
    exact PT.imp (pt_truth hh fun _ => rfl) (truthT _)
  | .neg a, c, cur, X, W, e, g, h => by
    have hh := sE (.neg a) g h
    obtain ⟨_, _, rfl, _⟩ := inv_neg h
    exact PT.imp (pt_truth hh fun _ => rfl) (truthT _)
  | .tup es, c, cur, X, W, e, g, h => by
    have hh := sE (.tup es) g h
    obtain ⟨_, _, _, rfl, _⟩ := inv_tup h
    exact PT.imp (pt_truth hh fun _ => rfl) (truthT _)
  | .lst mu es, c, cur, X, W, e, g, h => by
    have hh := sE (.lst mu es) g h
    obtain ⟨_, _, rfl, _⟩ := inv_lst h
    exact PT.imp (pt_truth hh fun _ => rfl) (truthT _)
  | .ix a i, c, cur, X, W, e, g, h => by
    have hh := sE (.ix a i) g h
    obtain ⟨_, _, _, rfl, _⟩ := inv_ix h
    exact PT.imp (pt_truth hh fun _ => rfl) (truthT _)
  | .slc a lo hi, c, cur, X, W, e, g, h => by
    have hh := sE (.slc a lo hi) g h
    obtain ⟨_, _, _, _, _, rfl, _⟩ := inv_slc h
    exact PT.imp (pt_truth hh fun _ => rfl) (truthT _)
  | .rev a, c, cur, X, W, e, g, h => by
    have hh := sE (.rev a) g h
    obtain ⟨_, _, _, _, _, _, rfl, _⟩ := inv_rev h
    exact PT.imp (pt_truth hh fun _ => rfl) (truthT _)
  | .call f es ks kes, c, cur, X, W, e, g, h => by
    have hh := sE (.call f es ks kes) g h
    obtain ⟨_, _, _, _, rfl, _⟩ := inv_call h
    exact PT.imp (pt_truth hh fun _ => rfl) (truthT _)
  | .bi b es, c, cur, X, W, e, g, h => by
    have hh := sE (.bi b es) g h
    obtain ⟨_, _, _, _, rfl, _⟩ := inv_bi h
    exact PT.imp (pt_truth hh fun _ => rfl) (truthT _)
  | .isi a tu ts, c, cur, X, W, e, g, h => by
    have hh := sE (.isi a tu ts) g h
    obtain ⟨_, _, _, _, rfl, _⟩ := inv_isi h
    exact PT.imp (pt_truth hh fun _ => rfl) (truthT _)
  | .mth m o es, c, cur, X, W, e, g, h => by
    have hh := sE (.mth m o es) g h
    obtain ⟨_, _, _, _, _, _, _, rfl, _⟩ := inv_mth h
    exact PT.imp (pt_truth hh fun _ => rfl) (truthT _)
  | .lc mu own p it cd y, c, cur, X, W, e, g, h => by
    have hh := sE (.lc mu own p it cd y) g h
    obtain ⟨_, _, _, _, _, _, rfl, _⟩ := inv_lc h
    exact PT.imp (pt_truth hh fun _ => rfl) (truthT _)
  | .fld a f, c, cur, X, W, e, g, h => by
    have hh := sE (.fld a f) g h
    obtain ⟨_, _, _, _, rfl, _⟩ := inv_fld h
    exact PT.imp (pt_truth hh fun _ => rfl) (truthT _)
  | .gix x i, c, cur, X, W, e, g, h => by
    have hh := sE (.gix x i) g h
    obtain ⟨_, _, _, rfl, _⟩ := inv_gix h
    exact PT.imp (pt_truth hh fun _ => rfl) (truthT _)
  | .dix ks vs i, c, cur, X, W, e, g, h => by
    have hh := sE (.dix ks vs i) g h
    obtain ⟨_, _, _, _, _, rfl, _⟩ := inv_dix h
    exact PT.imp (pt_truth hh fun _ => rfl) (truthT _)
theorem sW : ∀ (x : Exs) {o : BoolOp} {c : Ck} {cur : Cur} {X : Cx} {W : WX} {e : List Expr} {pos : Pos}, Gd G call k c cur X W → ckEs G c x e = true → e ≠ [] → PW X (.BoolOp o e pos) (TX X cur W relB (evBT (G := G) (call := call) o x))
  | .nil, o, c, cur, X, W, [], pos, g, h, hn => absurd rfl hn
  | .cons x .nil, o, c, cur, X, W, [l], pos, g, h, hn => by
    simp only [ckEs, Bool.and_eq_true] at h
    have hh := sT x g h.1.2
    cases o with
    | And => exact PW.imp (pw_and1 hh) fun σ H Q ⟨m, ρ, S, sm, lv, po⟩ => ⟨m, ρ, S, sm, lv, by rw [evBT_one] at po; exact po⟩
    | Or => exact PW.imp (pw_or1 hh) fun σ H Q ⟨m, ρ, S, sm, lv, po⟩ => ⟨m, ρ, S, sm, lv, by rw [evBT_one] at po; exact po⟩
  | .cons x (.cons x2 xs), o, c, cur, X, W, l :: l2 :: ls, pos, g, h, hn => by
    simp only [ckEs] at h
    have h' : ckEs G c (.cons x2 xs) (l2 :: ls) = true := by
      simp only [ckEs]
      simp only [Bool.and_eq_true] at h
      simpa only [Bool.and_eq_true] using h.2
    simp only [Bool.and_eq_true] at h
    have ih := sW (.cons x2 xs) (o := o) (pos := pos) g h' (by simp)
    have hh := sT x g h.1.2
    cases o with
    | And =>
      refine PW.imp (pw_and hh ih) fun σ H Q ⟨m, ρ, S, sm, lv, po⟩ => ?_
      rw [evBT_cons] at po
      refine ⟨m, ρ, S, sm, lv, po.bind.mono fun b H1 ⟨m1, a1, S1, e1, s1, r1, p2⟩ => ?_⟩
      have r1 : a1 = b := r1
      subst r1
      cases a1 with
      | true =>
        rw [if_pos (show true = goB .And from rfl)] at p2
        rw [if_pos rfl]
        exact ⟨m1, ρ, S1, s1, lv.ext e1, p2⟩
      | false =>
        rw [if_neg (show ¬ (false = goB .And) from Bool.false_ne_true)] at p2
        rw [if_neg Bool.false_ne_true]
        exact p2 m1 H1 _ .refl s1 rfl
    | Or =>
      refine PW.imp (pw_or hh ih) fun σ H Q ⟨m, ρ, S, sm, lv, po⟩ => ?_
      rw [evBT_cons] at po
      refine ⟨m, ρ, S, sm, lv, po.bind.mono fun b H1 ⟨m1, a1, S1, e1, s1, r1, p2⟩ => ?_⟩
      have r1 : a1 = b := r1
      subst r1
      cases a1 with
      | false =>
        rw [if_pos (show false = goB .Or from rfl)] at p2
        rw [if_neg Bool.false_ne_true]
        exact ⟨m1, ρ, S1, s1, lv.ext e1, p2⟩
      | true =>
        rw [if_neg (show ¬ (true = goB .Or) from fun z => Bool.noConfusion z)] at p2
        rw [if_pos rfl]
        exact p2 m1 H1 _ .refl s1 rfl
  | .nil, _, _, _, _, _, _ :: _, _, _, h, _ => by simp [ckEs] at h
  | .cons _ _, _, _, _, _, _, [], _, _, h, _ => by simp [ckEs] at h
  | .cons _ .nil, _, _, _, _, _, _ :: _ :: _, _, _, h, _ => by simp [ckEs] at h
  | .cons _ (.cons _ _), _, _, _, _, _, [_], _, _, h, _ => by simp [ckEs] at h
end
end
end EV

set_option Elab.async false
set_option linter.all false
set_option maxRecDepth 100000
set_option maxHeartbeats 8000000
/-! EV, part 12: statements: try with several named clauses; the checker. -/
namespace L2
open PySem PySem.Spec PyProof.Rows
/-- where a clause leads: its name's slot is emptied behind the suite -/
def endsX (nm : Option Nat) (D : Ends) : Ends := match nm with
  | some i => { nx := fun σ' H' => D.nx (σ'.set i none) H', rt := D.rt, bk := fun σ' H' => D.bk (σ'.set i none) H', ct := fun σ' H' => D.ct (σ'.set i none) H' }
  | none => D
def slotX (nm : Option Nat) (a : Addr) (σ : St) : St := match nm with
  | some i => σ.set i (some (.ref a))
  | none => σ
abbrev HdX := Value × Option Nat × (Addr → Value → Option Addr → TS)
def wTryX (K : PySem.W.Frag) (Wout : WX) (D : Ends) : List HdX → WX
  | [] => Wout
  | (c, nm, ts) :: r => fun cls d σ H => ∃ b, PySem.W.exmOne K cls c = some b ∧ (b = true → ∀ a, H a = none → ts a cls d (endsX nm D) (slotX nm a σ) H) ∧ (b = false → wTryX K Wout D r cls d σ H)
inductive HdsX (X : Cx) : List ExceptHandler → List HdX → Prop
  | nil : HdsX X [] []
  | consN {x n : Str} {c : Value} {i : Nat} {ts : Addr → Value → Option Addr → TS} {b₀ : Stmt} {suite : List Stmt} {np pos' : Pos} {hds : List ExceptHandler} {l : List HdX} (hc : Names X x c) (hi : X.N[i]? = some n) (hln : X.env.kindOf n = some .local)
      (hsu : ∀ (a : Addr) (oe : Obj) (cls : Value) (d : Option Addr) (pn : List (Addr × Obj)), Zc cls d oe → (∃ vs, oe.data = .fields vs) → PSs (X.suite a ((a, oe) :: pn)) (b₀ :: suite) (ts a cls d)) (r : HdsX X hds l) :
      HdsX X (.ExceptHandler (some (.Name x np)) (some n) (b₀ :: suite) pos' :: hds) ((c, some i, ts) :: l)
  | cons {x : Str} {c : Value} {ts : Addr → Value → Option Addr → TS} {b₀ : Stmt} {suite : List Stmt} {np pos' : Pos} {hds : List ExceptHandler} {l : List HdX} (hc : Names X x c)
      (hsu : ∀ (a : Addr) (oe : Obj) (cls : Value) (d : Option Addr) (pn : List (Addr × Obj)), Zc cls d oe → (∃ vs, oe.data = .fields vs) → PSs (X.suite a ((a, oe) :: pn)) (b₀ :: suite) (ts a cls d)) (r : HdsX X hds l) :
      HdsX X (.ExceptHandler (some (.Name x np)) none (b₀ :: suite) pos' :: hds) ((c, none, ts) :: l)
section
variable {X : Cx} {body : List Stmt} {h₀ : ExceptHandler} {hds : List ExceptHandler} {l : List HdX} {pos : Pos} {tb : WX → TS} {Wout : WX}
theorem ps_tryX (hs : X.stack = X.env :: X.outer) (hf : X.env.frame = some X.env.locals) (hN : X.N.Nodup) (tk : Takes X Wout)
    (hb : ∀ (W : WX) (pn : List (Addr × Obj)) (xe : Value → Shared → Prop), Takes (X.tr pn xe) W → PassesOwn (model X.prog X.w) X.A X.env xe → PSs (X.tr pn xe) body (tb W))
    (hh : HdsX X (h₀ :: hds) l) : PS X (.Try body (h₀ :: hds) [] [] pos) (fun D σ H => tb (wTryX X.K Wout D l) D σ H) := by
  refine ⟨fun pins s σ H D I h => ?_⟩
  have ok := I.ok
  have hfr : X.A.frames = some (X.env :: X.outer) := by rw [ok.frames, hs]
  refine wpAny_Try_except ?_
  refine wpAny_mono ((hb (wTryX X.K Wout D l) (X.pn ++ pins) (fun e s₁ => wpAny (model X.prog X.w) X.A (noteFrame e X.env) (fun _ s₂ => wpAny (model X.prog X.w) X.A (setFlight e none) (fun _ s₃ =>
    wpAny (model X.prog X.w) X.A (handleBy e X.env (h₀ :: hds)) (SP X pins D) X.xe s₃) X.xe s₂) X.xe s₁) (fun u s' xx => ?_) PassesOwn.looking).run [] s σ H D (I.toTry _) h) (fun f s1 hsp => ?_) (fun e s1 he => he)
  · -- the catch
    obtain ⟨a, B, sI, pins', σ', H', cls, d, rfl, J', nb, up, sky, na, os, ag, w⟩ := xx
    have J : Inv X pins σ' H' sI := J'.ofTry ok
    have sky' : Sky B (X.env :: X.outer) a (Zc cls d) X.env.locals s'.heap := by rw [← hs]; exact sky
    show wpAny (model X.prog X.w) X.A (noteFrame (.ref a) X.env) _ _ _
    refine Sky.land Zc.steady hfr hf sky' fun h3 fl3 up3 => ?_
    have J3 : Inv X pins σ' H' { s' with heap := h3 } := J.landed nb fl3.1 (up.trans up3) os ag
    obtain ⟨oe3, vs3, he3, hz3, hd3⟩ := fl3.there
    have notFr : ∀ {h : Heap} {o : Obj} {vs : Array Value}, h.FunFrames B (X.env :: X.outer) → h.get? a = some o → o.data = .fields vs → a ∉ frs (X.env :: X.outer) := fun {h o vs} ff e dd hm => by
      obtain ⟨_, o', e', hnf⟩ := ff.mem hm
      rw [e] at e'; cases e'
      exact hnf _ dd
    have nfr := notFr fl3.2.2.1 he3 hd3
    have nL : a ≠ X.env.locals := fun z => nfr (List.mem_filterMap.mpr ⟨X.env, List.mem_cons_self, by rw [hf, z]⟩)
    have nF : a ∉ X.fs := fun hm => by
      obtain ⟨e, he, q⟩ := List.mem_filterMap.mp hm
      exact nfr (List.mem_filterMap.mpr ⟨e, List.mem_cons_of_mem _ he, q⟩)
    have S3 := J3.suite he3 hd3 na nL nF
    have test : ∀ {x : Str} {np : Pos} {c : Value} {Q : Value → Shared → Prop} {E : Value → Shared → Prop}, Names X x c → Q c { s' with heap := h3 } → wpAny (model X.prog X.w) (X.A.mark (some (.ref a))) (eval (.Name x np) X.env) Q E { s' with heap := h3 } := fun {x np c Q E} hc q => by
      obtain ⟨hg, hdbg, hm | ⟨hm, hv, hnn⟩⟩ := hc
      · exact ld_glob (X := X.suite a ((a, oe3) :: (X.pn ++ pins))) S3 hg hm q hdbg
      · exact ld_blt (X := X.suite a ((a, oe3) :: (X.pn ++ pins))) S3 hg hm hv q hnn hdbg
    have LT : PySem.W.Looks (model X.prog X.w) h3 (typeOf (.ref a)) cls := fun A Q E s k q => wpAny_typeOf_ref (k _ _ he3) (by rw [hz3.1]; exact q)
    have go : ∀ {hds' : List ExceptHandler} {l' : List HdX}, HdsX X hds' l' → wTryX X.K Wout D l' cls d σ' H' →
        wpAny (model X.prog X.w) X.A (handleBy (.ref a) X.env hds') (SP X pins D) X.xe { s' with heap := h3 } := by
      intro hds' l' hk
      induction hk with
      | nil =>
        intro w
        refine wpAny_handleBy_nil ?_
        obtain ⟨k1, k2, k3, oe, vs, T, oT, ts', he, hz, hd, h1, hr⟩ := id fl3
        unfold PySem.passOn
        refine wpAny_bind (wpAny_field he hd h1 ?_)
        rw [if_neg (show ¬ ((Value.ref T == Value.none) = true) from by simp)]
        have fin : wpAny (model X.prog X.w) X.A (setFlight (.ref a) X.env.frame) (fun _ s4 => wpAny (model X.prog X.w) X.A (throw (.ref a) : Sem Flow) (SP X pins D) X.xe s4) X.xe { s' with heap := h3 } := by
          rw [hf]
          refine HandSPX.setFlight_upZ fl3 fun h4 hh4 up4 => wpAny_throw (tk _ _ ?_)
          exact ⟨a, B, sI, pins, σ', H', cls, d, rfl, J, nb, (up.trans up3).trans up4, .inr (.inr (by rw [hs]; exact hh4)), na, os, ag, w⟩
        first
          | exact wpAny_bind (wpAny_pure (wpAny_bind fin))
          | exact wpAny_bind fin
      | @cons x c ts b₀ suite np pos' hds2 l2 hc hsu r ih =>
        intro w
        obtain ⟨b, hb1, hyes, hno⟩ := w
        refine wpAny_handleBy_cons (codeAny_handlers_test ?_) (by intro q; cases q)
        have LM := PySem.W.exm_one (M := model X.prog X.w) (J3.kIn) LT hb1
        refine test hc (LM.here ?_)
        cases b with
        | true =>
          refine codeAny_handlers_suite ?_
          refine HandSPX.lands_againZ fl3 fun h4 fl4 up4 => ?_
          have J4 : Inv X pins σ' H' { s' with heap := h4 } := J.landed nb fl4.1 ((up.trans up3).trans up4) os ag
          obtain ⟨oe4, vs4, he4, hz4, hd4⟩ := fl4.there
          have S4 := J4.suite he4 hd4 na nL nF
          refine wpAny_mono ((hsu a oe4 cls d (X.pn ++ pins) hz4 ⟨_, hd4⟩).run [] _ _ H' _ S4 (hyes rfl a na)) (fun f s6 hsp => ?_) (fun _ _ z => False.elim z)
          cases f with
          | next =>
            obtain ⟨σ6, H6, S6, q6⟩ := hsp
            exact ⟨_, _, S6.unsuite ok, q6⟩
          | brk =>
            obtain ⟨σ6, H6, S6, q6⟩ := hsp
            exact ⟨_, _, S6.unsuite ok, q6⟩
          | cont =>
            obtain ⟨σ6, H6, S6, q6⟩ := hsp
            exact ⟨_, _, S6.unsuite ok, q6⟩
          | ret u =>
            obtain ⟨v6, σ6, H6, S6, r6, q6⟩ := hsp
            exact ⟨_, _, _, S6.unsuite ok, r6, q6⟩
        | false =>
          show wpAny _ X.A (handleBy (.ref a) X.env hds2) _ _ _
          exact ih (hno rfl)
      | @consN x n c i ts b₀ suite np pos' hds2 l2 hc hi hln hsu r ih =>
        intro w
        obtain ⟨b, hb1, hyes, hno⟩ := w
        refine wpAny_handleBy_cons (codeAny_handlers_test ?_) (by intro q; cases q)
        have LM := PySem.W.exm_one (M := model X.prog X.w) (J3.kIn) LT hb1
        refine test hc (LM.here ?_)
        cases b with
        | true =>
          refine codeAny_handlers_suite_as ?_
          refine HandSPX.lands_againZ fl3 fun h4 fl4 up4 => ?_
          have J4 : Inv X pins σ' H' { s' with heap := h4 } := J.landed nb fl4.1 ((up.trans up3).trans up4) os ag
          obtain ⟨oe4, vs4, he4, hz4, hd4⟩ := fl4.there
          have S4 := J4.suite he4 hd4 na nL nF
          refine store_ok (X := X.suite a ((a, oe4) :: (X.pn ++ pins))) (v := .ref a) S4 hN hi (.inl hln) rfl (fun s5 S5 => ?_) (.inr hln)
          refine wpAny_mono ((hsu a oe4 cls d (X.pn ++ pins) hz4 ⟨_, hd4⟩).run [] s5 _ H' _ S5 (hyes rfl a na)) (fun f s6 hsp => ?_) (fun _ _ z => False.elim z)
          have end_ : ∀ {σ6 : St} {H6 : Hp} {Q : Shared → Prop}, Inv (X.suite a ((a, oe4) :: (X.pn ++ pins))) [] σ6 H6 s6 → (∀ s7, Inv X pins (σ6.set i none) H6 s7 → Q s7) →
              wpAny (model X.prog X.w) X.A (do bindName X.env n .none; unbindBehindTheSuite X.env n pos') (fun _ s7 => Q s7) X.xe s6 := fun {σ6 H6 Q} S6 hq => gone_ok (S6.unsuite ok) hN hi hln hq
          cases f with
          | next =>
            obtain ⟨σ6, H6, S6, q6⟩ := hsp
            exact end_ S6 fun s7 J7 => ⟨_, _, J7, q6⟩
          | brk =>
            obtain ⟨σ6, H6, S6, q6⟩ := hsp
            exact end_ S6 fun s7 J7 => ⟨_, _, J7, q6⟩
          | cont =>
            obtain ⟨σ6, H6, S6, q6⟩ := hsp
            exact end_ S6 fun s7 J7 => ⟨_, _, J7, q6⟩
          | ret u =>
            obtain ⟨v6, σ6, H6, S6, r6, q6⟩ := hsp
            exact end_ S6 fun s7 J7 => ⟨_, _, _, J7, r6, q6⟩
        | false =>
          show wpAny _ X.A (handleBy (.ref a) X.env hds2) _ _ _
          exact ih (hno rfl)
    exact go hh w
  · cases f with
    | next =>
      obtain ⟨σ', H', J', q⟩ := hsp
      exact wpAny_execs_nil ⟨σ', H', J'.ofTry ok, q⟩
    | brk =>
      obtain ⟨σ', H', J', q⟩ := hsp
      exact ⟨σ', H', J'.ofTry ok, q⟩
    | cont =>
      obtain ⟨σ', H', J', q⟩ := hsp
      exact ⟨σ', H', J'.ofTry ok, q⟩
    | ret u =>
      obtain ⟨v, σ', H', J', r, q⟩ := hsp
      exact ⟨v, σ', H', J'.ofTry ok, r, q⟩
end
end L2
namespace EV
open PySem PySem.Spec PyProof.Rows L2
/-! ### stores from the right -/
def isStar : Expr → Bool
  | .Starred .. => true
  | _ => false
def tnames (kind : Str → Option NameKind) (line : Nat) (ts : List Expr) : List Str := ts.filterMap fun
    | .Name id pos => if kind id == some .local && pos.line == line then some id else none
    | _ => none
def lineOf (ts : List Expr) : Nat := (ts.head?.map (·.pos.line)).getD 0
theorem swap_eq {env : Env} {ts vs : List Expr} {kt k2 : Nat} {pt pt2 : Pos} : swappedStores [.Tuple ts kt pt] (.Tuple vs k2 pt2) env =
    if (!(ts.length == 2 || ts.length == 3) || vs.length != ts.length || env.blockKind != .function) = true then pure none else
    if vs.any isStar = true then pure none else
    if ((tnames env.kindOf (lineOf ts) ts).length != ts.length || (tnames env.kindOf (lineOf ts) ts).eraseDups.length != (tnames env.kindOf (lineOf ts) ts).length) = true then pure none else
    if vs.all (foldedForSure 8) = true then pure none else
    if vs.all (constantsAlone 8) = true then (do unsupported "assign.tuple-of-constant-expressions:order-of-the-stores"; pure (some (tnames env.kindOf (lineOf ts) ts))) else pure (some (tnames env.kindOf (lineOf ts) ts)) := by
  unfold swappedStores
  rfl
def nsw (kind : Str → Option NameKind) (ts vs : List Expr) : Bool :=
  (!(ts.length == 2 || ts.length == 3) || vs.length != ts.length) || vs.any isStar || ((tnames kind (lineOf ts) ts).length != ts.length || (tnames kind (lineOf ts) ts).eraseDups.length != (tnames kind (lineOf ts) ts).length) || vs.all (foldedForSure 8)
def ysw (kind : Str → Option NameKind) (ts vs : List Expr) (names : List Str) : Bool :=
  !(!(ts.length == 2 || ts.length == 3) || vs.length != ts.length) && !vs.any isStar && decide (tnames kind (lineOf ts) ts = names) && !(names.length != ts.length || names.eraseDups.length != names.length) && !vs.all (foldedForSure 8) && !vs.all (constantsAlone 8)
theorem nsw_ok {env : Env} {ts vs : List Expr} {kt k2 : Nat} {pt pt2 : Pos} (h : nsw env.kindOf ts vs = true) : swappedStores [.Tuple ts kt pt] (.Tuple vs k2 pt2) env = pure none := by
  rw [swap_eq]
  unfold nsw at h
  simp only [Bool.or_eq_true] at h
  split
  · rfl
  · rename_i h1
    simp only [Bool.or_eq_true, not_or] at h1
    split
    · rfl
    · rename_i h2
      split
      · rfl
      · rename_i h3
        simp only [Bool.or_eq_true, not_or] at h3
        split
        · rfl
        · rename_i h4
          rcases h with (((h | h) | h) | h) | h
          · exact absurd h h1.1.1
          · exact absurd h h1.1.2
          · exact absurd h h2
          · rcases h with h | h
            · exact absurd h h3.1
            · exact absurd h h3.2
          · exact absurd h h4
theorem ysw_ok {env : Env} {ts vs : List Expr} {kt k2 : Nat} {pt pt2 : Pos} {names : List Str} (hk : env.blockKind = .function) (h : ysw env.kindOf ts vs names = true) : swappedStores [.Tuple ts kt pt] (.Tuple vs k2 pt2) env = pure (some names) := by
  rw [swap_eq]
  unfold ysw at h
  simp only [Bool.and_eq_true, decide_eq_true_eq, Bool.not_eq_true'] at h
  obtain ⟨⟨⟨⟨⟨h1, h2⟩, h3⟩, h4⟩, h5⟩, h6⟩ := h
  rw [h3, if_neg (by rw [h1, hk]; decide), if_neg (by rw [h2]; decide), if_neg (by rw [h4]; decide), if_neg (by rw [h5]; decide), if_neg (by rw [h6]; decide)]
/-! ### the checker of statements -/
def isComp : Expr → Bool
  | .ListComp .. | .SetComp .. | .DictComp .. => true
  | _ => false
def loc2 (c : Ck) (i j : Nat) (x y : Str) : Bool := decide (c.N[i]? = some x) && decide (c.N[j]? = some y) && decide (i ≠ j) && decide (c.names.lookup x = some .local) && decide (c.names.lookup y = some .local)
def swOk (c : Ck) (y : Str) (py : Pos) : Expr → Bool
  | .SetComp .. | .DictComp .. => false
  | _ => true
variable (G : Pg)
mutual
def ckS (c : Ck) : T → Stmt → Bool
  | .asg (.nm i) e, .Assign [.Name y py] v _ => ckSt c i y && ckE G c e v && swOk c y py v
  | .asg (.tp ps) e, .Assign [.Tuple es k p] v _ => ckP c (.tp ps) (.Tuple es k p) && ckE G c e v && (match v with | .Tuple vs _ _ => nsw (fun x => c.names.lookup x) es vs | _ => true)
  | .par2 i j a b, .Assign [.Tuple [.Name x px, .Name y py] _ _] (.Tuple [l, r] _ _) _ => c.calm && loc2 c i j x y && ckE G c a l && ckE G c b r && nstar l && nstar r && ysw (fun x => c.names.lookup x) [.Name x px, .Name y py] [l, r] [x, y]
  | .par3 i j k a b d, .Assign [.Tuple [.Name x px, .Name y py, .Name z pz] _ _] (.Tuple [l, r, u] _ _) _ => c.calm && loc2 c i j x y && loc2 c i k x z && loc2 c j k y z && ckE G c a l && ckE G c b r && ckE G c d u && nstar l && nstar r && nstar u &&
      ysw (fun x => c.names.lookup x) [.Name x px, .Name y py, .Name z pz] [l, r, u] [x, y, z]
  | .set o i e, .Assign [.Subscript o' i' _] v _ => ckE G c o o' && ckE G c i i' && ckE G c e v && nslice i'
  | .aug i o e, .AugAssign (.Name x _) o' v _ => o == o' && ckSt c i x && ckE G c e v
  | .ex e, .Expr v _ => ckE G c e v && !isComp v
  | .iff t a b, .If t' a' b' _ => ckE G c t t' && ckSs c a a' && ckSs c b b'
  | .for_ p it b, .For tg iter body [] _ => c.calm && ckP c p tg && ckI G c it tg iter && ckSs c b body
  | .wh t b, .While t' body [] _ => ckE G c t t' && ckSs c b body
  | .ret e, .Return (some v) _ => ckE G c e v
  | .retN, .Return none _ => true
  | .rai f e, .Raise (some (.Call (.Name y _) [l] [] _)) none _ => f == y && ckGl c y && c.calm && nstar l && ckE G c e l && (G.subs.lookup f).isSome
  | .try_ b hs, .Try body (h :: hds) [] [] _ => c.calm && c.own.isNone && ckSs c b body && ckHs { c with calm := false } hs (h :: hds)
  | .pas, .Pass _ => true
  | .brk, .Break _ => true
  | .cnt, .Continue _ => true
  | _, _ => false
def ckSs (c : Ck) : Ts → List Stmt → Bool
  | .nil, [] => true
  | .cons (.frz _) ts, l => ckSs c ts l
  | .cons t ts, s :: ss => ckS c t s && ckSs c ts ss
  | _, _ => false
def ckHs (c : Ck) : Hs → List ExceptHandler → Bool
  | .nil, [] => true
  | .cons h (some i) b hs, .ExceptHandler (some (.Name x _)) (some n) (s :: ss) _ :: hds => h == x && ckGl c x && (G.subs.lookup h).isSome && decide (c.N[i]? = some n) && decide (c.names.lookup n = some .local) && ckSs c b (s :: ss) && ckHs c hs hds
  | .cons h none b hs, .ExceptHandler (some (.Name x _)) none (s :: ss) _ :: hds => h == x && ckGl c x && (G.subs.lookup h).isSome && ckSs c b (s :: ss) && ckHs c hs hds
  | _, _ => false
end
end EV

set_option Elab.async false
set_option linter.all false
set_option maxRecDepth 100000
set_option maxHeartbeats 8000000
/-! EV, part 13: statements are sound. -/
namespace EV
open PySem PySem.Spec PyProof.Rows L2
section
variable {G : Pg} {c : Ck} {s : Stmt}
theorem inv_asgN {i : Nat} {x : Ex} (h : ckS G c (.asg (.nm i) x) s = true) : ∃ y py v pos, s = .Assign [.Name y py] v pos ∧ ckSt c i y = true ∧ ckE G c x v = true ∧ swOk c y py v = true := by
  unfold ckS at h
  split at h <;> first | exact absurd h Bool.false_ne_true | (rename_i q; cases q)
  simp only [Bool.and_eq_true] at h
  exact ⟨_, _, _, _, rfl, h.1.1, h.1.2, h.2⟩
theorem inv_asgT {ps : Pts} {x : Ex} (h : ckS G c (.asg (.tp ps) x) s = true) : ∃ es k p v pos, s = .Assign [.Tuple es k p] v pos ∧ ckP c (.tp ps) (.Tuple es k p) = true ∧ ckE G c x v = true ∧ (match v with | .Tuple vs _ _ => nsw (fun x => c.names.lookup x) es vs | _ => true) = true := by
  unfold ckS at h
  split at h <;> first | exact absurd h Bool.false_ne_true | (rename_i q; cases q)
  simp only [Bool.and_eq_true] at h
  exact ⟨_, _, _, _, _, rfl, h.1.1, h.1.2, h.2⟩
theorem inv_par2 {i j : Nat} {a b : Ex} (h : ckS G c (.par2 i j a b) s = true) : ∃ x px y py k p l r k2 p2 pos, s = .Assign [.Tuple [.Name x px, .Name y py] k p] (.Tuple [l, r] k2 p2) pos ∧ c.calm = true ∧ loc2 c i j x y = true ∧ ckE G c a l = true ∧ ckE G c b r = true ∧ nstar l = true ∧ nstar r = true ∧
    ysw (fun x => c.names.lookup x) [.Name x px, .Name y py] [l, r] [x, y] = true := by
  unfold ckS at h
  split at h <;> first | exact absurd h Bool.false_ne_true | (rename_i q; cases q)
  simp only [Bool.and_eq_true] at h
  obtain ⟨⟨⟨⟨⟨⟨h1, h2⟩, h3⟩, h4⟩, h5⟩, h6⟩, h7⟩ := h
  exact ⟨_, _, _, _, _, _, _, _, _, _, _, rfl, h1, h2, h3, h4, h5, h6, h7⟩
theorem inv_par3 {i j k : Nat} {a b d : Ex} (h : ckS G c (.par3 i j k a b d) s = true) : ∃ x px y py z pz n p l r u k2 p2 pos, s = .Assign [.Tuple [.Name x px, .Name y py, .Name z pz] n p] (.Tuple [l, r, u] k2 p2) pos ∧ c.calm = true ∧ loc2 c i j x y = true ∧ loc2 c i k x z = true ∧ loc2 c j k y z = true ∧
    ckE G c a l = true ∧ ckE G c b r = true ∧ ckE G c d u = true ∧ nstar l = true ∧ nstar r = true ∧ nstar u = true ∧ ysw (fun x => c.names.lookup x) [.Name x px, .Name y py, .Name z pz] [l, r, u] [x, y, z] = true := by
  unfold ckS at h
  split at h <;> first | exact absurd h Bool.false_ne_true | (rename_i q; cases q)
  simp only [Bool.and_eq_true] at h
  obtain ⟨⟨⟨⟨⟨⟨⟨⟨⟨⟨h1, h2⟩, h3⟩, h4⟩, h5⟩, h6⟩, h7⟩, h8⟩, h9⟩, h10⟩, h11⟩ := h
  exact ⟨_, _, _, _, _, _, _, _, _, _, _, _, _, _, rfl, h1, h2, h3, h4, h5, h6, h7, h8, h9, h10, h11⟩
theorem inv_set {o i x : Ex} (h : ckS G c (.set o i x) s = true) : ∃ o' i' p v pos, s = .Assign [.Subscript o' i' p] v pos ∧ ckE G c o o' = true ∧ ckE G c i i' = true ∧ ckE G c x v = true ∧ nslice i' = true := by
  unfold ckS at h
  split at h <;> first | exact absurd h Bool.false_ne_true | (rename_i q; cases q)
  simp only [Bool.and_eq_true] at h
  exact ⟨_, _, _, _, _, rfl, h.1.1.1, h.1.1.2, h.1.2, h.2⟩
theorem inv_aug {i : Nat} {o : Operator} {x : Ex} (h : ckS G c (.aug i o x) s = true) : ∃ y p v pos, s = .AugAssign (.Name y p) o v pos ∧ ckSt c i y = true ∧ ckE G c x v = true := by
  unfold ckS at h
  split at h <;> first | exact absurd h Bool.false_ne_true | (rename_i q; cases q)
  simp only [Bool.and_eq_true, beq_iff_eq] at h
  obtain ⟨⟨rfl, h1⟩, h2⟩ := h
  exact ⟨_, _, _, _, rfl, h1, h2⟩
theorem inv_ex {x : Ex} (h : ckS G c (.ex x) s = true) : ∃ v pos, s = .Expr v pos ∧ ckE G c x v = true ∧ isComp v = false := by
  unfold ckS at h
  split at h <;> first | exact absurd h Bool.false_ne_true | (rename_i q; cases q)
  simp only [Bool.and_eq_true, Bool.not_eq_true'] at h
  exact ⟨_, _, rfl, h.1, h.2⟩
theorem inv_iff {t : Ex} {a b : Ts} (h : ckS G c (.iff t a b) s = true) : ∃ t' a' b' pos, s = .If t' a' b' pos ∧ ckE G c t t' = true ∧ ckSs G c a a' = true ∧ ckSs G c b b' = true := by
  unfold ckS at h
  split at h <;> first | exact absurd h Bool.false_ne_true | (rename_i q; cases q)
  simp only [Bool.and_eq_true] at h
  exact ⟨_, _, _, _, rfl, h.1.1, h.1.2, h.2⟩
theorem inv_for {p : Pt} {it : Itx} {b : Ts} (h : ckS G c (.for_ p it b) s = true) : ∃ tg iter body pos, s = .For tg iter body [] pos ∧ c.calm = true ∧ ckP c p tg = true ∧ ckI G c it tg iter = true ∧ ckSs G c b body = true := by
  unfold ckS at h
  split at h <;> first | exact absurd h Bool.false_ne_true | (rename_i q; cases q)
  simp only [Bool.and_eq_true] at h
  exact ⟨_, _, _, _, rfl, h.1.1.1, h.1.1.2, h.1.2, h.2⟩
theorem inv_wh {t : Ex} {b : Ts} (h : ckS G c (.wh t b) s = true) : ∃ t' body pos, s = .While t' body [] pos ∧ ckE G c t t' = true ∧ ckSs G c b body = true := by
  unfold ckS at h
  split at h <;> first | exact absurd h Bool.false_ne_true | (rename_i q; cases q)
  simp only [Bool.and_eq_true] at h
  exact ⟨_, _, _, rfl, h.1, h.2⟩
theorem inv_ret {x : Ex} (h : ckS G c (.ret x) s = true) : ∃ v pos, s = .Return (some v) pos ∧ ckE G c x v = true := by
  unfold ckS at h
  split at h <;> first | exact absurd h Bool.false_ne_true | (rename_i q; cases q)
  exact ⟨_, _, rfl, h⟩
theorem inv_retN (h : ckS G c .retN s = true) : ∃ pos, s = .Return none pos := by
  unfold ckS at h
  split at h <;> first | exact absurd h Bool.false_ne_true | (rename_i q; cases q)
  exact ⟨_, rfl⟩
theorem inv_rai {f : Str} {x : Ex} (h : ckS G c (.rai f x) s = true) : ∃ p l pos pos2, s = .Raise (some (.Call (.Name f p) [l] [] pos)) none pos2 ∧ ckGl c f = true ∧ c.calm = true ∧ nstar l = true ∧ ckE G c x l = true ∧ (G.subs.lookup f).isSome = true := by
  unfold ckS at h
  split at h <;> first | exact absurd h Bool.false_ne_true | (rename_i q; cases q)
  simp only [Bool.and_eq_true, beq_iff_eq] at h
  obtain ⟨⟨⟨⟨⟨rfl, h1⟩, h2⟩, h3⟩, h4⟩, h5⟩ := h
  exact ⟨_, _, _, _, rfl, h1, h2, h3, h4, h5⟩
theorem inv_try {b : Ts} {hs : Hs} (h : ckS G c (.try_ b hs) s = true) : ∃ body h0 hds pos, s = .Try body (h0 :: hds) [] [] pos ∧ c.calm = true ∧ c.own = none ∧ ckSs G c b body = true ∧ ckHs G { c with calm := false } hs (h0 :: hds) = true := by
  unfold ckS at h
  split at h <;> first | exact absurd h Bool.false_ne_true | (rename_i q; cases q)
  simp only [Bool.and_eq_true, Option.isNone_iff_eq_none] at h
  exact ⟨_, _, _, _, rfl, h.1.1.1, h.1.1.2, h.1.2, h.2⟩
theorem inv_pas (h : ckS G c .pas s = true) : ∃ pos, s = .Pass pos := by
  unfold ckS at h
  split at h <;> first | exact absurd h Bool.false_ne_true | (rename_i q; cases q)
  exact ⟨_, rfl⟩
theorem inv_brk (h : ckS G c .brk s = true) : ∃ pos, s = .Break pos := by
  unfold ckS at h
  split at h <;> first | exact absurd h Bool.false_ne_true | (rename_i q; cases q)
  exact ⟨_, rfl⟩
theorem inv_cnt (h : ckS G c .cnt s = true) : ∃ pos, s = .Continue pos := by
  unfold ckS at h
  split at h <;> first | exact absurd h Bool.false_ne_true | (rename_i q; cases q)
  exact ⟨_, rfl⟩
theorem no_frz {i : Nat} (h : ckS G c (.frz i) s = true) : False := by
  unfold ckS at h
  exact absurd h Bool.false_ne_true
theorem lc_only {x : Ex} {e : Expr} {gs : List Comprehension} {scope : Scope} {pos : Pos} (h : ckE G c x (.ListComp e gs scope pos) = true) : ∃ mu own p it cd y, x = .lc mu own p it cd y := by
  cases x <;> first | exact absurd h Bool.false_ne_true | exact ⟨_, _, _, _, _, _, rfl⟩ | skip
  all_goals first
    | (obtain ⟨_, _, q, _⟩ := inv_loc h; cases q) | (obtain ⟨_, q, _⟩ := inv_gl h; cases q) | (obtain ⟨_, _, _, q, _⟩ := inv_lit h; cases q)
    | (obtain ⟨_, _, _, _, q, _⟩ := inv_isi h; cases q)
theorem no_comp {x : Ex} {v : Expr} (h : ckE G c x v = true) (hc : isComp v = true) : ∃ e gs scope pos, v = .ListComp e gs scope pos := by
  cases v <;> first | exact absurd hc Bool.false_ne_true | exact ⟨_, _, _, _, rfl⟩ | skip
  all_goals cases x <;> first | exact absurd h Bool.false_ne_true | (obtain ⟨_, _, _, _, q, _⟩ := inv_isi h; cases q)
end
end EV

set_option Elab.async false
set_option linter.all false
set_option maxRecDepth 100000
set_option maxHeartbeats 8000000
/-! EV, part 14: what a statement's result promises. -/
namespace EV
open PySem PySem.Spec PyProof.Rows L2
def FlP (K : PySem.W.Frag) (cur : Cur) (m : Mp) (H : Hp) (σ : L2.St) (D : Ends) : Fl → Prop
  | .nx => D.nx σ H
  | .bk => D.bk σ H
  | .ct => D.ct σ H
  | .rt r => ∀ v, RV K cur m H r v → D.rt v H
def POS (X : Cx) (cur : Cur) (W : WX) (m : Mp) (H : Hp) (x : ResS) (D : Ends) : Prop := match x with
  | .ok fl ρ' S' => ∀ m' H' σ', Ext m H m' H' → Sim X.K m' S' H' → LV X.K cur m' H' ρ' σ' → FlP X.K cur m' H' σ' D fl
  | .ex c d ρ' S' => ∀ m' H' σ' C dd w, Ext m H m' H' → Sim X.K m' S' H' → LV X.K cur m' H' ρ' σ' → X.mg c = some (.ref C) → ¬ Lv m' dd → H' dd = some (.xd [(("value" : Str), w)]) → DV X.K (Lv m') H' d w → W (.ref C) (some dd) σ' H'
  | .no => False
def TXS (X : Cx) (cur : Cur) (W : WX) (f : Rho → Sto → ResS) : TS := fun D σ H => ∃ m ρ S, Sim X.K m S H ∧ LV X.K cur m H ρ σ ∧ POS X cur W m H (f ρ S) D
section
variable {X : Cx} {cur : Cur} {W : WX} {m m1 : Mp} {H H1 : Hp} {σ : L2.St} {ρ : Rho} {S : Sto} {D : Ends} {α β : Type} {rel : Mp → Hp → α → β → Prop}
theorem POS.from {x : ResS} (h : POS X cur W m H x D) (e : Ext m H m1 H1) : POS X cur W m1 H1 x D := by
  cases x with
  | ok fl ρ' S' => exact fun m' H' σ' e' => h m' H' σ' (e.trans e')
  | ex c d ρ' S' => exact fun m' H' σ' C dd w e' => h m' H' σ' C dd w (e.trans e')
  | no => exact h
theorem POS.st {x : Res α} {f : α → Sto → ResS} (lv : LV X.K cur m H ρ σ) (h : POS X cur W m H (x.st ρ f) D) : PO X W rel m H σ x (fun b H1 => ∃ m1 a S1, Ext m H m1 H1 ∧ Sim X.K m1 S1 H1 ∧ rel m1 H1 a b ∧ LV X.K cur m1 H1 ρ σ ∧ POS X cur W m1 H1 (f a S1) D) := by
  cases x with
  | ok a S => exact fun m' H' b e s r => ⟨m', a, S, e, s, r, lv.ext e, POS.from h e⟩
  | ex c d S => exact fun m' H' C dd w e s => h m' H' σ C dd w e s (lv.ext e)
  | no => exact h
theorem POS.next {x : ResS} {f : Rho → Sto → ResS} (h : POS X cur W m H (x.next f) D) : POS X cur W m H x { D with nx := TXS X cur W f D } := by
  cases x with
  | ok fl ρ' S' =>
    cases fl with
    | nx => exact fun m' H' σ' e s l => ⟨m', ρ', S', s, l, POS.from (x := f ρ' S') h e⟩
    | rt r => exact fun m' H' σ' e s l => h m' H' σ' e s l
    | bk => exact fun m' H' σ' e s l => h m' H' σ' e s l
    | ct => exact fun m' H' σ' e s l => h m' H' σ' e s l
  | ex c d ρ' S' => exact h
  | no => exact h
theorem POS.turn {x : ResS} {f : Rho → Sto → ResS} {N : L2.St → Hp → Prop} (hN : ∀ m' ρ S σ' H', Ext m H m' H' → Sim X.K m' S H' → LV X.K cur m' H' ρ σ' → POS X cur W m' H' (f ρ S) D → N σ' H') (h : POS X cur W m H (x.turn f) D) :
    POS X cur W m H x { D with nx := N, ct := N, bk := D.nx } := by
  cases x with
  | ok fl ρ' S' =>
    cases fl with
    | nx => exact fun m' H' σ' e s l => hN m' ρ' S' σ' H' e s l (POS.from (x := f ρ' S') h e)
    | ct => exact fun m' H' σ' e s l => hN m' ρ' S' σ' H' e s l (POS.from (x := f ρ' S') h e)
    | rt r => exact fun m' H' σ' e s l => h m' H' σ' e s l
    | bk => exact fun m' H' σ' e s l => h m' H' σ' e s l
  | ex c d ρ' S' => exact h
  | no => exact h
theorem PS.imp {st : Stmt} {t t' : TS} (h : PS X st t) (k : ∀ D σ H, t' D σ H → t D σ H) : PS X st t' := ⟨fun pins s σ H D I hw => h.run pins s σ H D I (k D σ H hw)⟩
theorem PSs.imp {st : List Stmt} {t t' : TS} (h : PSs X st t) (k : ∀ D σ H, t' D σ H → t D σ H) : PSs X st t' := ⟨fun pins s σ H D I hw => h.run pins s σ H D I (k D σ H hw)⟩
theorem LV.setρ {K : PySem.W.Frag} {r : R} {v : V} (h : LV K cur m H ρ σ) {i : Nat} (e : σ[i]? = some (some v)) (q : RV K cur m H r v) : LV K cur m H (ρ.set i (some r)) σ := by
  have z := h.set i q
  have e2 : σ.set i (some v) = σ := by
    apply List.ext_getElem?
    intro j
    by_cases hj : i = j
    · subst hj
      rw [List.getElem?_set_self (List.getElem?_eq_some_iff.mp e).1, e]
    · rw [List.getElem?_set_ne hj]
  rw [e2] at z
  exact z
theorem LV.setN {K : PySem.W.Frag} (h : LV K cur m H ρ σ) (i : Nat) : LV K cur m H (ρ.set i none) (σ.set i none) := by
  refine ⟨by simp [h.len], fun j x e => ?_⟩
  by_cases hj : i = j
  · subst hj
    by_cases hi : i < ρ.length
    · rw [List.getElem?_set_self hi] at e
      cases e
    · rw [List.getElem?_eq_none (by simpa using hi)] at e
      cases e
  · rw [List.getElem?_set_ne hj] at e
    obtain ⟨w, e1, e2⟩ := h.at_ j x e
    exact ⟨w, by rw [List.getElem?_set_ne hj]; exact e1, e2⟩
theorem LV.scrub {K : PySem.W.Frag} (h : LV K cur m H ρ σ) : LV K none m H (EV.scrub ρ) σ := by
  refine ⟨by simp [EV.scrub, h.len], fun j x e => ?_⟩
  unfold EV.scrub at e
  rw [List.getElem?_map] at e
  cases q : ρ[j]? with
  | none => rw [q] at e; cases e
  | some r0 =>
    rw [q] at e
    cases r0 with
    | none => cases e
    | some r =>
      obtain ⟨v, e1, e2⟩ := h.at_ j r q
      cases r with
      | x c d => cases e
      | v d => cases e; exact ⟨v, e1, RV.nocur e2 rfl⟩
      | r i => cases e; exact ⟨v, e1, RV.nocur e2 rfl⟩
      | s l => cases e; exact ⟨v, e1, RV.nocur e2 rfl⟩
theorem LV.anycur {K : PySem.W.Frag} (h : LV K none m H ρ σ) : LV K cur m H ρ σ := ⟨h.len, fun j x e => let ⟨v, e1, e2⟩ := h.at_ j x e; ⟨v, e1, RV.anycur e2⟩⟩
/-- behind a clause's suite -/
theorem suite_end {cu : Cur} {nm : Option Nat} {x : ResS} (h : POS X none W m H (suiteEnd nm x) D) : POS X cu (fun _ _ _ _ => False) m H x (endsX nm D) := by
  cases x with
  | no => exact h
  | ex c d ρ' S' => exact h.elim
  | ok fl ρ' S' =>
    cases nm with
    | none =>
      cases fl with
      | nx => exact fun m' H' σ' e s l => h m' H' σ' e s l.scrub
      | bk => exact fun m' H' σ' e s l => h m' H' σ' e s l.scrub
      | ct => exact fun m' H' σ' e s l => h m' H' σ' e s l.scrub
      | rt r =>
        cases r with
        | x c d => exact h.elim
        | v d => exact fun m' H' σ' e s l v hv => h m' H' σ' e s l.scrub v (RV.nocur hv rfl)
        | r i => exact fun m' H' σ' e s l v hv => h m' H' σ' e s l.scrub v (RV.nocur hv rfl)
        | s l0 => exact fun m' H' σ' e s l v hv => h m' H' σ' e s l.scrub v (RV.nocur hv rfl)
    | some i =>
      cases fl with
      | nx => exact fun m' H' σ' e s l => h m' H' _ e s (l.scrub.setN i)
      | bk => exact fun m' H' σ' e s l => h m' H' _ e s (l.scrub.setN i)
      | ct => exact fun m' H' σ' e s l => h m' H' _ e s (l.scrub.setN i)
      | rt r =>
        cases r with
        | x c d => exact h.elim
        | v d => exact fun m' H' σ' e s l v hv => h m' H' _ e s (l.scrub.setN i) v (RV.nocur hv rfl)
        | r j => exact fun m' H' σ' e s l v hv => h m' H' _ e s (l.scrub.setN i) v (RV.nocur hv rfl)
        | s l0 => exact fun m' H' σ' e s l v hv => h m' H' _ e s (l.scrub.setN i) v (RV.nocur hv rfl)
/-- for -/
theorem for_sound {p : Pt} {body : Rho → Sto → ResS} {ds : List EV.D} {J : It} (wk : WalkD X.K m1 H1 ds J) (sm : Sim X.K m1 S H1) (lv : LV X.K cur m1 H1 ρ σ) (po : POS X cur W m1 H1 (forL body p ds ρ S) D) :
    ∃ Wn : Nat → Nat → L2.St → Hp → Prop, (∃ n, Wn 0 n σ H1) ∧ ∀ i n σ H, Wn i n σ H →
      (J.stop i H ∧ D.nx σ H) ∨ (J.go i H ∧ ∃ N : L2.St → Hp → Prop, (∀ σ' H', N σ' H' → ∃ n', n' < n ∧ Wn (i + 1) n' σ' H') ∧ ∀ x H', J.yld i H x H' → gX X.K cur p x σ H' fun σ2 H2 => TXS X cur W body { D with nx := N, ct := N, bk := D.nx } σ2 H2) := by
  let Inv : Nat → L2.St → Hp → Prop := fun i σ H => i ≤ ds.length ∧ ∃ m ρ S, Ext m1 H1 m H ∧ Sim X.K m S H ∧ LV X.K cur m H ρ σ ∧ POS X cur W m H (forL body p (ds.drop i) ρ S) D
  refine ⟨fun i n σ H => n = ds.length - i ∧ Inv i σ H, ⟨_, rfl, Nat.zero_le _, m1, ρ, S, .refl, sm, lv, po⟩, ?_⟩
  rintro i n σ2 H ⟨rfl, hi, m, ρ2, S2, x, s, l, po2⟩
  obtain ⟨w1, w2⟩ := wk m S2 H x s
  by_cases hlt : i < ds.length
  · refine .inr ?_
    have e0 : ds[i]? = some ds[i] := List.getElem?_eq_getElem hlt
    obtain ⟨go, step⟩ := w1 i _ e0
    refine ⟨go, Inv (i + 1), fun σ' H' inv => ⟨_, by omega, rfl, inv⟩, fun y H3 hy => ?_⟩
    obtain ⟨x3, s3, d3⟩ := step y H3 hy
    rw [List.drop_eq_getElem_cons hlt] at po2
    unfold forL at po2
    split at po2
    · rename_i ρ' eb
      refine ⟨m, ρ2, ds[i], ρ', l.ext x3, d3, eb, fun σ4 lv4 _ => ⟨m, ρ', S2, s3, lv4, ?_⟩⟩
      exact POS.turn (f := fun ρ2 S2 => forL body p (ds.drop (i + 1)) ρ2 S2) (fun m' ρ5 S5 σ5 H5 x5 s5 l5 po5 => ⟨hlt, m', ρ5, S5, (x.trans x3).trans x5, s5, l5, po5⟩) (po2.from x3)
    · exact po2.elim
  · have hi' : i = ds.length := by omega
    subst hi'
    rw [List.drop_length] at po2
    exact .inl ⟨w2, po2 m H σ2 .refl s l⟩
/-- while -/
theorem wh_sound {n : Nat} {test : Rho → Sto → Res Bool} {body : Rho → Sto → ResS} (sm : Sim X.K m S H) (lv : LV X.K cur m H ρ σ) (po : POS X cur W m H (whL test body n ρ S) D) : tWhile (TX X cur W relB test) (TXS X cur W body) D σ H := by
  refine ⟨fun n σ H => ∃ m ρ S, Sim X.K m S H ∧ LV X.K cur m H ρ σ ∧ POS X cur W m H (whL test body n ρ S) D, ⟨n, m, ρ, S, sm, lv, po⟩, ?_⟩
  rintro n σ H ⟨m, ρ, S, sm, lv, po⟩
  cases n with
  | zero => exact po.elim
  | succ n =>
    unfold whL at po
    refine ⟨m, ρ, S, sm, lv, (POS.st (rel := relB) lv po).mono fun b H1 ⟨m1, a, S1, e1, s1, r1, l1, p1⟩ => ?_⟩
    have r1 : a = b := r1
    subst r1
    cases a with
    | true =>
      rw [if_pos rfl] at p1 ⊢
      refine ⟨fun σ H => ∃ m ρ S, Sim X.K m S H ∧ LV X.K cur m H ρ σ ∧ POS X cur W m H (whL test body n ρ S) D, fun σ' H' q => ⟨n, by omega, q⟩, m1, ρ, S1, s1, l1, ?_⟩
      exact POS.turn (fun m' ρ5 S5 σ5 H5 x5 s5 l5 po5 => ⟨m', ρ5, S5, s5, l5, po5⟩) p1
    | false =>
      rw [if_neg Bool.false_ne_true] at p1 ⊢
      exact p1 m1 H1 σ .refl s1 l1
end
end EV

set_option Elab.async false
set_option linter.all false
set_option maxRecDepth 100000
set_option maxHeartbeats 8000000
/-! EV, part 15: statements are sound: the theorem. -/
namespace EV
open PySem PySem.Spec PyProof.Rows L2
structure Gs (G : Pg) (call : Str → List R → Sto → Res R) (k : Nat) (c : Ck) (cur : Cur) (X : Cx) (W : WX) : Prop where
  g : Gd G call k c cur X W
  own : c.own = none
  po : PassesOwn (model X.prog X.w) X.A X.env X.xe
  stk : X.stack = X.env :: X.outer
  fr : X.env.frame = some X.env.locals
section
variable {G : Pg} {call : Str → List R → Sto → Res R} {k wl : Nat} {c : Ck} {cur : Cur} {X : Cx} {W : WX}
theorem Gd.kof (g : Gd G call k c cur X W) : X.env.kindOf = fun x => c.names.lookup x := by
  funext x
  unfold Env.kindOf
  rw [g.names]
theorem Gd.fnb (g : Gd G call k c cur X W) : X.env.blockKind = .function := by
  unfold Env.blockKind
  rw [g.kind]
  rfl
theorem sw_plain {v : Expr} {t : Option Expr} {l : Nat} {env : Env} (h : isComp v = false) : swapsWith v t l env = pure false := by
  cases v <;> first | rfl | cases h
theorem sw_sole {v t : Expr} {l : Nat} {env : Env} (ht : isName t = false) : swapsWithSole [t] v l env = pure false := by
  cases v <;> first | rfl | (cases t <;> first | rfl | cases ht)
theorem sws_sub {o i v : Expr} {p : Pos} {env : Env} : swappedStores [.Subscript o i p] v env = pure none := by
  cases v <;> rfl
theorem sws_tup {es : List Expr} {n : Nat} {p : Pos} {v : Expr} (g : Gd G call k c cur X W) (h : (match v with | .Tuple vs _ _ => nsw (fun x => c.names.lookup x) es vs | _ => true) = true) : swappedStores [.Tuple es n p] v X.env = pure none := by
  cases v <;> first | rfl | skip
  rw [← g.kof] at h
  exact nsw_ok h
theorem asg_sub {o i : Expr} {p : Pos} {env : Env} (h : nslice i = true) (v : Value) : assign (.Subscript o i p) env v = (do
      let ov ← holding [v] (eval o env)
      let iv ← holding [v, ov] (eval i env)
      standAt p
      holding [v, ov, iv] (setItem ov iv v)
      release [v, ov, iv] []) := by
  cases i <;> first | rfl | cases h
theorem PSs.ex {α : Type} {P : α → Prop} {st : List Stmt} {t : α → TS} (h : ∀ x, P x → PSs X st (t x)) : PSs X st (fun D σ H => ∃ x, P x ∧ t x D σ H) := ⟨fun pins s σ H D I ⟨x, hp, hw⟩ => (h x hp).run pins s σ H D I hw⟩
/-- a try's body -/
theorem Gs.tr (g : Gs G call k c cur X W) (hc : c.calm = true) {W' : WX} {pn : List (Addr × Obj)} {xe : Value → Shared → Prop} (tk : Takes (X.tr pn xe) W') (po : PassesOwn (model X.prog X.w) X.A X.env xe) : Gs G call k c cur (X.tr pn xe) W' where
  g := {
    fx := g.g.fx
    N := g.g.N
    nd := g.g.nd
    names := g.g.names
    kind := g.g.kind
    fn := g.g.fn
    room := g.g.room
    un := g.g.un
    tk := tk
    calm := g.g.calm
    cu := fun a cn dd e => by
      have z := g.g.nocur (g.g.calm hc)
      rw [z] at e
      cases e }
  own := g.own
  po := po
  stk := g.stk
  fr := g.fr
/-- a clause's suite -/
theorem Gs.suite (g : Gs G call k c cur X W) {a : Addr} {oe : Obj} {pn : List (Addr × Obj)} {C dd : Addr} {cn : Str} {l : List Str} (hz : Zc (.ref C) (some dd) oe) (hf : ∃ vs, oe.data = .fields vs) (hm : X.mg cn = some (.ref C)) (hl : G.subs.lookup cn = some l) :
    Gs G call k { c with calm := false } (some (a, cn, dd)) (X.suite a ((a, oe) :: pn)) (fun _ _ _ _ => False) where
  g := {
    fx := g.g.fx
    N := g.g.N
    nd := g.g.nd
    names := g.g.names
    kind := g.g.kind
    fn := g.g.fn
    room := fun z => absurd (show false = true from z) Bool.false_ne_true
    un := g.g.un
    tk := takes0
    calm := fun z => absurd (show false = true from z) Bool.false_ne_true
    cu := fun a' cn' dd' e => by
      cases e
      exact ⟨X, oe, pn, C, l, rfl, hz, hf, hm, hl⟩ }
  own := g.own
  po := PassesOwn.never
  stk := g.stk
  fr := g.fr
/-- a new exception -/
theorem rai_end {m : Mp} {H1 : Hp} {S : Sto} {σ : L2.St} {ρ : Rho} {D : Ends} {cn : Str} {d : EV.D} {C : Addr} {v : V} (po : POS X cur W m H1 (.ex cn d ρ S) D) (s : Sim X.K m S H1) (lv : LV X.K cur m H1 ρ σ) (dv : DV X.K (Lv m) H1 d v) (hm : X.mg cn = some (.ref C)) (a dx : Addr) (ha : H1 a = none) (hd : H1 dx = none) (ne : dx ≠ a) :
    W (.ref C) (some dx) σ (upd (del (upd (upd (upd H1 a (exo a C none)) dx (exd dx [(("value" : Str), v)])) a (exo a C (some dx))) a) dx (.xd [(("value" : Str), v)])) := by
  have e : upd (del (upd (upd (upd H1 a (exo a C none)) dx (exd dx [(("value" : Str), v)])) a (exo a C (some dx))) a) dx (.xd [(("value" : Str), v)]) = upd H1 dx (.xd [(("value" : Str), v)]) := by
    funext b
    by_cases h1 : b = dx
    · subst h1
      rw [upd_same, upd_same]
    · rw [upd_ne h1, upd_ne h1]
      by_cases h2 : b = a
      · subst h2
        rw [del_same, ha]
      · rw [del_ne h2, upd_ne h2, upd_ne h1, upd_ne h2]
  rw [e]
  have x := Ext.new (o := .xd [(("value" : Str), v)]) s hd
  exact po m _ σ C dx v x (s.new hd) (lv.ext x) hm (s.fresh hd) upd_same (DV.keep x.keep _ _ dv)
def tsX (G : Pg) (call : Str → List R → Sto → Res R) (wl : Nat) (X : Cx) (b : Ts) : Addr → Value → Option Addr → TS := fun a cls d D σ H => ∃ q : Str × Addr × Addr × List Str, (cls = .ref q.2.1 ∧ d = some q.2.2.1 ∧ X.mg q.1 = some (.ref q.2.1) ∧ G.subs.lookup q.1 = some q.2.2.2) ∧
  TXS X (some (a, q.1, q.2.2.1)) (fun _ _ _ _ => False) (evSs G call wl b) D σ H
/-- what the clauses promise -/
def HsOk (G : Pg) (call : Str → List R → Sto → Res R) (wl : Nat) (X : Cx) (W : WX) (hs : Hs) (l : List HdX) : Prop := ∀ (D : Ends) (m : Mp) (H : Hp) (σ : L2.St) (ρ : Rho) (S : Sto) (cn : Str) (d : EV.D) (C dd : Addr) (w : V), POS X none W m H (evH G call wl hs cn d ρ S) D → Sim X.K m S H → LV X.K none m H ρ σ →
  X.mg cn = some (.ref C) → ¬ Lv m dd → H dd = some (.xd [(("value" : Str), w)]) → DV X.K (Lv m) H d w → wTryX X.K W D l (.ref C) (some dd) σ H
theorem nm_of (g : Gd G call k c cur X W) {h : Str} (h1 : ckGl c h = true) {C : Addr} (hm : X.mg h = some (.ref C)) : Names X h (.ref C) := by
  obtain ⟨q1, q2⟩ := g.gl h1
  exact ⟨q1, q2, .inl hm⟩
theorem hs_step {h : Str} {nm : Option Nat} {b : Ts} {hs : Hs} {l : List HdX} {C' : Addr} (fx : Fct G call k X.prog X.w X.K X.mg X.base) (hm : X.mg h = some (.ref C')) (hsub : (G.subs.lookup h).isSome = true) (ih : HsOk G call wl X W hs l) : HsOk G call wl X W (.cons h nm b hs) ((.ref C', nm, tsX G call wl X b) :: l) := by
  intro D m H σ ρ S cn d C dd w po s lv hc nl hd dv
  unfold evH at po
  cases e : G.subs.lookup cn with
  | none => rw [e] at po; exact po.elim
  | some lc =>
    rw [e] at po
    refine ⟨decide (h ∈ lc), fx.cat cn lc h C e hc C' hm (Option.isSome_iff_exists.mp hsub), fun hb a ha => ?_, fun hb => ?_⟩
    · have hb := of_decide_eq_true hb
      simp only [if_pos hb] at po
      refine ⟨(cn, C, dd, lc), ⟨rfl, rfl, hc, e⟩, ?_⟩
      cases nm with
      | none => exact ⟨m, ρ, S, s, lv.anycur, suite_end (nm := none) po⟩
      | some i => exact ⟨m, ρ.set i (some (.x cn d)), S, s, LV.set lv.anycur i (r := .x cn d) ⟨a, dd, w, rfl, rfl, nl, hd, dv⟩, suite_end (nm := some i) po⟩
    · have hb := of_decide_eq_false hb
      simp only [if_neg hb] at po
      exact ih D m H σ ρ S cn d C dd w po s lv hc nl hd dv
end
end EV

set_option Elab.async false
set_option linter.all false
set_option maxRecDepth 100000
set_option maxHeartbeats 8000000
/-! EV, part 16: statements are sound: the theorem. -/
namespace EV
open PySem PySem.Spec PyProof.Rows L2
section
variable {G : Pg} {call : Str → List R → Sto → Res R} {k wl : Nat}
theorem sw_lc {e : Expr} {gs : List Comprehension} {scope : Scope} {vp py : Pos} {y : Str} {l : Nat} {env : Env} : swapsWith (.ListComp e gs scope vp) (some (.Name y py)) l env = pure (env.blockKind == .function && env.kindOf y == some .local && py.line == vp.line && !(scope.names.any fun (n, k) => n == y && (k == .local || k == .cell))) := by
  unfold swapsWith
  rfl
/-- name = [.. for ..] -/
theorem s_asgLc {c : Ck} {cur : Cur} {X : Cx} {W : WX} {i : Nat} {x : Ex} {y : Str} {py : Pos} {e : Expr} {gs : List Comprehension} {scope : Scope} {vp pos : Pos} (g : Gs G call k c cur X W) (h1 : ckSt c i y = true) (h2 : ckE G c x (.ListComp e gs scope vp) = true) (h3 : (X.env.blockKind == .function && X.env.kindOf y == some .local && py.line == vp.line && !(scope.names.any fun (n, k) => n == y && (k == .local || k == .cell))) = true) :
    PS X (.Assign [.Name y py] (.ListComp e gs scope vp) pos) (TXS X cur W (evS G call wl (.asg (.nm i) x))) := by
  obtain ⟨mu, own, p, it, cd, x, rfl⟩ := lc_only h2
  obtain ⟨e', tg, iter, ifs, scope', vp', q, a1, a2, a3, a4, a5, a6, a7⟩ := inv_lc h2
  cases q
  have cal := g.g.calm a1
  have cn := g.g.nocur cal
  subst cn
  have bo := blk_ok g.g a2
  have hsl : ∀ i ∈ slots p, i ∈ own.map (·.2) := fun i hi => by
    have z := List.all_eq_true.mp a3 i hi
    simpa using z
  have h4 := h3
  simp only [Bool.and_eq_true, beq_iff_eq] at h4
  obtain ⟨⟨⟨_, s1⟩, _⟩, _⟩ := h4
  obtain ⟨b1, b2, b3⟩ := g.g.st h1
  have hyl : X.env.scope.names.lookup y = some .local := s1
  refine PS.imp (ps_setLc (g := gX X.K none p) (tt := TX X none (fun _ _ _ _ => False) relB (evC G call cd)) (te := TX X none (fun _ _ _ _ => False) (RVx X none) (evE G call x)) cal g.g.nd b1 hyl (by rw [sw_lc, h3]) (sI it g.g a5) bo
    (fun s H C cl fp => sP (g.g.blk bo.kind s H C cl fp) p tg a4) (fun s H C cl fp => sC cd (g.g.blk bo.kind s H C cl fp) a6) (fun s H C cl fp => sE x (g.g.blk bo.kind s H C cl fp) a7) (itFold a5)) fun D σ H ⟨m, ρ, S, sm, lv, po⟩ => ?_
  unfold evS at po
  have po2 := (POS.st (rel := RVx X none) lv po).mono (Q' := fun v H1 => D.nx (σ.set i (some v)) H1) fun v H1 ⟨m1, a, S1, e1, s1, r1, l1, p1⟩ => by
    simp only [bindR] at p1
    exact p1 m1 H1 _ .refl s1 (l1.set i r1)
  simp only [evE] at po2
  exact ⟨m, ρ, S, sm, lv, po2.bind.mono fun J H1 ⟨m1, ds, S1, e1, s1, r1, p1⟩ => fun D0 hD => lc_sound (Q := fun v H1 => D.nx (σ.set i (some v)) H1) hsl hD s1 (lv.ext e1) r1 p1⟩
theorem inv_hnil {c : Ck} {hds : List ExceptHandler} (h : ckHs G c .nil hds = true) : hds = [] := by
  cases hds with
  | nil => rfl
  | cons _ _ => exact absurd h (by simp [ckHs])
theorem inv_hsN {c : Ck} {hn : Str} {i : Nat} {b : Ts} {hs : Hs} {hds : List ExceptHandler} (h : ckHs G c (.cons hn (some i) b hs) hds = true) : ∃ np n s0 ss pos r, hds = .ExceptHandler (some (.Name hn np)) (some n) (s0 :: ss) pos :: r ∧ ckGl c hn = true ∧ (G.subs.lookup hn).isSome = true ∧ c.N[i]? = some n ∧ c.names.lookup n = some .local ∧ ckSs G c b (s0 :: ss) = true ∧ ckHs G c hs r = true := by
  unfold ckHs at h
  split at h <;> first | exact absurd h Bool.false_ne_true | (rename_i q; cases q)
  simp only [Bool.and_eq_true, beq_iff_eq, decide_eq_true_eq] at h
  obtain ⟨⟨⟨⟨⟨⟨rfl, h1⟩, h2⟩, h3⟩, h4⟩, h5⟩, h6⟩ := h
  exact ⟨_, _, _, _, _, _, rfl, h1, h2, h3, h4, h5, h6⟩
theorem inv_hs {c : Ck} {hn : Str} {b : Ts} {hs : Hs} {hds : List ExceptHandler} (h : ckHs G c (.cons hn none b hs) hds = true) : ∃ np s0 ss pos r, hds = .ExceptHandler (some (.Name hn np)) none (s0 :: ss) pos :: r ∧ ckGl c hn = true ∧ (G.subs.lookup hn).isSome = true ∧ ckSs G c b (s0 :: ss) = true ∧ ckHs G c hs r = true := by
  unfold ckHs at h
  split at h <;> first | exact absurd h Bool.false_ne_true | (rename_i q; cases q)
  simp only [Bool.and_eq_true, beq_iff_eq] at h
  obtain ⟨⟨⟨⟨rfl, h1⟩, h2⟩, h5⟩, h6⟩ := h
  exact ⟨_, _, _, _, _, rfl, h1, h2, h5, h6⟩
mutual
theorem sS : ∀ (t : T) {c : Ck} {cur : Cur} {X : Cx} {W : WX} {s : Stmt}, Gs G call k c cur X W → ckS G c t s = true → PS X s (TXS X cur W (evS G call wl t))
  | .asg (.nm i) x, c, cur, X, W, s, g, h => by
    obtain ⟨y, py, v, pos, rfl, h1, h2, h3⟩ := inv_asgN h
    obtain ⟨b1, b2, b3⟩ := g.g.st h1
    have plain : swapsWith v (some (.Name y py)) pos.line X.env = pure false → PS X (.Assign [.Name y py] v pos) (TXS X cur W (evS G call wl (.asg (.nm i) x))) := fun hw => by
      refine PS.imp (ps_set g.g.nd b1 b2 (sE x g.g h2) hw b3) fun D σ H ⟨m, ρ, S, sm, lv, po⟩ => ?_
      unfold evS at po
      refine ⟨m, ρ, S, sm, lv, (POS.st lv po).mono fun v H1 ⟨m1, a, S1, e1, s1, r1, l1, p1⟩ => ?_⟩
      simp only [bindR] at p1
      exact p1 m1 H1 _ .refl s1 (l1.set i r1)
    cases hc : isComp v with
    | true =>
      obtain ⟨e, gs, scope, vp, rfl⟩ := no_comp h2 hc
      cases hb : (X.env.blockKind == .function && X.env.kindOf y == some .local && py.line == vp.line && !(scope.names.any fun (n, k) => n == y && (k == .local || k == .cell))) with
      | true => exact s_asgLc g h1 h2 hb
      | false => exact plain (by rw [sw_lc, hb])
    | false => exact plain (sw_plain hc)
  | .asg (.tp ps) x, c, cur, X, W, s, g, h => by
    obtain ⟨es, n, p, v, pos, rfl, h1, h2, h3⟩ := inv_asgT h
    refine PS.imp (ps_asg (sE x g.g h2) (sP g.g (.tp ps) _ h1) (sw_sole rfl) (sws_tup g.g h3) rfl) fun D σ H ⟨m, ρ, S, sm, lv, po⟩ => ?_
    unfold evS at po
    refine ⟨m, ρ, S, sm, lv, (POS.st lv po).mono fun v H1 ⟨m1, a, S1, e1, s1, r1, l1, p1⟩ => ?_⟩
    simp only [bindR] at p1
    cases ed : toD S1 a with
    | none => simp only [ed] at p1; exact p1.elim
    | some q =>
      obtain ⟨d, S2⟩ := q
      simp only [ed] at p1
      obtain ⟨m2, x2, s2, d2⟩ := toD_ok ed s1 r1
      cases eb : bindP (.tp ps) d ρ with
      | none => simp only [eb, Option.map_none] at p1; exact p1.elim
      | some ρ' =>
        simp only [eb, Option.map_some] at p1
        exact ⟨m2, ρ, d, ρ', l1.ext x2, d2, eb, fun σ' l' _ => p1 m2 H1 σ' x2 s2 l'⟩
  | .par2 i j a b, c, cur, X, W, s, g, h => by
    obtain ⟨x, px, y, py, n, p, l, r, k2, p2, pos, rfl, hc, h1, h2, h3, h4, h5, h6⟩ := inv_par2 h
    simp only [loc2, Bool.and_eq_true, decide_eq_true_eq] at h1
    obtain ⟨⟨⟨⟨q1, q2⟩, q3⟩, q4⟩, q5⟩ := h1
    rw [← g.g.kof] at h6
    refine PS.imp (ps_par (g.g.calm hc) g.g.nd (by rw [g.g.N]; exact q1) (by rw [g.g.N]; exact q2) q3 (by rw [g.g.names]; exact q4) (by rw [g.g.names]; exact q5) (pa_cons (sE a g.g h2) (pa_cons (sE b g.g h3) pa_nil (star_cons h5)) (star_cons h4)) (ysw_ok g.g.fnb h6) (sw_sole rfl)) fun D σ H ⟨m, ρ, S, sm, lv, po⟩ => ?_
    unfold evS at po
    exact ⟨m, ρ, S, sm, lv, (POS.st lv po).mono fun v H1 ⟨m1, a1, S1, e1, s1, r1, l1, p1⟩ => ⟨m1, ρ, S1, s1, l1, (POS.st l1 p1).mono fun w H2 ⟨m2, a2, S2, e2, s2, r2, l2, p2⟩ =>
      ⟨v, w, rfl, p2 m2 H2 _ .refl s2 ((l2.set i (r1.ext e2)).set j r2)⟩⟩⟩
  | .par3 i j l a b d, c, cur, X, W, s, g, h => by
    obtain ⟨x, px, y, py, z, pz, n, p, e1, e2, e3, k2, p2, pos, rfl, hc, h1, h2, h3, h4, h5, h6, h7, h8, h9, h10⟩ := inv_par3 h
    simp only [loc2, Bool.and_eq_true, decide_eq_true_eq] at h1 h2 h3
    obtain ⟨⟨⟨⟨q1, q2⟩, q3⟩, q4⟩, q5⟩ := h1
    obtain ⟨⟨⟨⟨_, r2⟩, r3⟩, _⟩, r5⟩ := h2
    obtain ⟨⟨⟨⟨_, _⟩, t3⟩, _⟩, _⟩ := h3
    rw [← g.g.kof] at h10
    refine PS.imp (ps_par3 (g.g.calm hc) g.g.nd (by rw [g.g.N]; exact q1) (by rw [g.g.N]; exact q2) (by rw [g.g.N]; exact r2) q3 r3 t3 (by rw [g.g.names]; exact q4) (by rw [g.g.names]; exact q5) (by rw [g.g.names]; exact r5)
      (pa_cons (sE a g.g h4) (pa_cons (sE b g.g h5) (pa_cons (sE d g.g h6) pa_nil (star_cons h9)) (star_cons h8)) (star_cons h7)) (ysw_ok g.g.fnb h10) (sw_sole rfl)) fun D σ H ⟨m, ρ, S, sm, lv, po⟩ => ?_
    unfold evS at po
    exact ⟨m, ρ, S, sm, lv, (POS.st lv po).mono fun v H1 ⟨m1, a1, S1, e1, s1, r1, l1, p1⟩ => ⟨m1, ρ, S1, s1, l1, (POS.st l1 p1).mono fun w H2 ⟨m2, a2, S2, e2, s2, r2, l2, p2⟩ =>
      ⟨m2, ρ, S2, s2, l2, (POS.st l2 p2).mono fun u H3 ⟨m3, a3, S3, e3, s3, r3, l3, p3⟩ => ⟨v, w, u, rfl, p3 m3 H3 _ .refl s3 (((l3.set i ((r1.ext e2).ext e3)).set j (r2.ext e3)).set l r3)⟩⟩⟩⟩
  | .set o i x, c, cur, X, W, s, g, h => by
    obtain ⟨o', i', p, v, pos, rfl, h1, h2, h3, h4⟩ := inv_set h
    refine PS.imp (ps_asg (sE x g.g h3) (pg_sub (sE o g.g h1) (sE i g.g h2) set_list (asg_sub h4)) (sw_sole rfl) sws_sub rfl) fun D σ H ⟨m, ρ, S, sm, lv, po⟩ => ?_
    unfold evS at po
    refine ⟨m, ρ, S, sm, lv, (POS.st lv po).mono fun v H1 ⟨m1, a1, S1, e1, s1, r1, l1, p1⟩ => ?_⟩
    cases ed : toD S1 a1 with
    | none => simp only [ed] at p1; exact p1.elim
    | some q =>
      obtain ⟨d, S2⟩ := q
      simp only [ed] at p1
      obtain ⟨m2, x2, s2, d2⟩ := toD_ok ed s1 r1
      have l2 := l1.ext x2
      refine ⟨m2, ρ, S2, s2, l2, (POS.st l2 (p1.from x2)).mono fun ov H3 ⟨m3, a3, S3, e3, s3, r3, l3, p3⟩ => ⟨m3, ρ, S3, s3, l3, (POS.st l3 p3).mono fun iv H4 ⟨m4, a4, S4, e4, s4, r4, l4, p4⟩ => ?_⟩⟩
      cases a3 with
      | r j =>
        cases a4 with
        | v d4 =>
          cases d4 with
          | int kk =>
            simp only at p4
            split at p4
            · rename_i l el
              split at p4
              · rename_i n en
                cases (show iv = V.int kk from r4)
                obtain ⟨pa, rfl, hq⟩ := r3.ext e4
                obtain ⟨q1, vs, q2, q3⟩ := s4.at_ el hq
                have d5 := DV.keep (e3.trans e4).keep _ _ d2
                refine ⟨pa, vs, kk, n, rfl, rfl, q2, by rw [← q3.len]; exact en, ?_⟩
                have x5 := Ext.write (o := .lst (vs.set n v)) s4 q1
                exact p4 m4 _ σ x5 (s4.write q1 (q3.set n d5)) (l4.ext x5)
              · exact p4.elim
            · exact p4.elim
          | _ => exact p4.elim
        | _ => exact p4.elim
      | _ => exact p4.elim
  | .aug i o x, c, cur, X, W, s, g, h => by
    obtain ⟨y, p, v, pos, rfl, h1, h2⟩ := inv_aug h
    obtain ⟨b1, b2, b3⟩ := g.g.st h1
    have key : ∀ D σ H, TXS X cur W (evS G call wl (.aug i o x)) D σ H → ∃ a : Int, σ[i]? = some (some (.int a)) ∧ TX X cur W (RVx X cur) (evE G call x) σ H fun z H1 => ∃ b : Int, z = .int b ∧ ((o = .Add ∧ D.nx (σ.set i (some (.int (a + b)))) H1) ∨ (o = .Sub ∧ D.nx (σ.set i (some (.int (a - b)))) H1)) := fun D σ H ⟨m, ρ, S, sm, lv, po⟩ => by
      unfold evS at po
      split at po
      · rename_i a ea
        obtain ⟨v, ev, rv⟩ := lv.at_ i _ ea
        cases (show v = V.int a from rv)
        refine ⟨a, ev, m, ρ, S, sm, lv, (POS.st lv po).mono fun z H1 ⟨m1, a1, S1, e1, s1, r1, l1, p1⟩ => ?_⟩
        split at p1
        · rename_i b
          cases (show z = V.int b from r1)
          refine ⟨b, rfl, ?_⟩
          split at p1
          · exact .inl ⟨rfl, p1 m1 H1 _ .refl s1 (l1.set i (r := .v (.int (a + b))) (dv_int (K := X.K) (L := Lv m1) (H := H1)))⟩
          · exact .inr ⟨rfl, p1 m1 H1 _ .refl s1 (l1.set i (r := .v (.int (a - b))) (dv_int (K := X.K) (L := Lv m1) (H := H1)))⟩
          · exact p1.elim
        · exact p1.elim
      · exact po.elim
    by_cases ho : o = .Add
    · subst ho
      refine PS.imp (ps_aug g.g.nd b1 b2 (sE x g.g h2) ip_add b3) fun D σ H z => ?_
      obtain ⟨a, ev, m, ρ, S, sm, lv, q⟩ := key D σ H z
      refine ⟨_, ev, m, ρ, S, sm, lv, q.mono fun z H1 ⟨b, e, q⟩ => ⟨a, b, rfl, e, ?_⟩⟩
      rcases q with ⟨_, q⟩ | ⟨e, _⟩
      · exact q
      · cases e
    · by_cases ho2 : o = .Sub
      · subst ho2
        refine PS.imp (ps_aug g.g.nd b1 b2 (sE x g.g h2) ip_sub b3) fun D σ H z => ?_
        obtain ⟨a, ev, m, ρ, S, sm, lv, q⟩ := key D σ H z
        refine ⟨_, ev, m, ρ, S, sm, lv, q.mono fun z H1 ⟨b, e, q⟩ => ⟨a, b, rfl, e, ?_⟩⟩
        rcases q with ⟨e, _⟩ | ⟨_, q⟩
        · cases e
        · exact q
      · have hip : PIp X o (fun _ _ _ _ => False) := fun _ _ _ _ _ _ _ _ _ _ _ _ z => z.elim
        refine PS.imp (ps_aug g.g.nd b1 b2 (sE x g.g h2) hip b3) fun D σ H z => ?_
        obtain ⟨a, ev, m, ρ, S, sm, lv, q⟩ := key D σ H z
        refine ⟨_, ev, m, ρ, S, sm, lv, q.mono fun z H1 ⟨b, e, q⟩ => ?_⟩
        rcases q with ⟨e, _⟩ | ⟨e, _⟩
        · exact ho e
        · exact ho2 e
  | .ex x, c, cur, X, W, s, g, h => by
    obtain ⟨v, pos, rfl, h1, h2⟩ := inv_ex h
    refine PS.imp (ps_expr (sE x g.g h1) (sw_plain h2)) fun D σ H ⟨m, ρ, S, sm, lv, po⟩ => ?_
    unfold evS at po
    exact ⟨m, ρ, S, sm, lv, (POS.st lv po).mono fun v H1 ⟨m1, a1, S1, e1, s1, r1, l1, p1⟩ => p1 m1 H1 σ .refl s1 l1⟩
  | .iff t a b, c, cur, X, W, s, g, h => by
    obtain ⟨t', a', b', pos, rfl, h1, h2, h3⟩ := inv_iff h
    refine PS.imp (ps_if (sT t g.g h1) (sSs a g h2) (sSs b g h3)) fun D σ H ⟨m, ρ, S, sm, lv, po⟩ => ?_
    unfold evS at po
    refine ⟨m, ρ, S, sm, lv, (POS.st (rel := relB) lv po).mono fun v H1 ⟨m1, a1, S1, e1, s1, r1, l1, p1⟩ => ?_⟩
    have r1 : a1 = v := r1
    subst r1
    cases a1 with
    | true =>
      rw [if_pos rfl] at p1 ⊢
      exact ⟨m1, ρ, S1, s1, l1, p1⟩
    | false =>
      rw [if_neg Bool.false_ne_true] at p1 ⊢
      exact ⟨m1, ρ, S1, s1, l1, p1⟩
  | .for_ p it b, c, cur, X, W, s, g, h => by
    obtain ⟨tg, iter, body, pos, rfl, hc, h1, h2, h3⟩ := inv_for h
    refine PS.imp (ps_for g.po (g.g.calm hc) (sI it g.g h2) (sP g.g p tg h1) (sSs b g h3) (itFold h2)) fun D σ H ⟨m, ρ, S, sm, lv, po⟩ => ?_
    unfold evS at po
    exact ⟨m, ρ, S, sm, lv, (POS.st (rel := relI X.K) lv po).mono fun J H1 ⟨m1, ds, S1, e1, s1, r1, l1, p1⟩ => for_sound r1 s1 l1 p1⟩
  | .wh t b, c, cur, X, W, s, g, h => by
    obtain ⟨t', body, pos, rfl, h1, h2⟩ := inv_wh h
    refine PS.imp (ps_while g.po (sT t g.g h1) (sSs b g h2)) fun D σ H ⟨m, ρ, S, sm, lv, po⟩ => ?_
    unfold evS at po
    exact wh_sound sm lv po
  | .ret x, c, cur, X, W, s, g, h => by
    obtain ⟨v, pos, rfl, h1⟩ := inv_ret h
    refine PS.imp (ps_ret (sE x g.g h1)) fun D σ H ⟨m, ρ, S, sm, lv, po⟩ => ?_
    unfold evS at po
    exact ⟨m, ρ, S, sm, lv, (POS.st lv po).mono fun v H1 ⟨m1, a1, S1, e1, s1, r1, l1, p1⟩ => p1 m1 H1 σ .refl s1 l1 v r1⟩
  | .retN, c, cur, X, W, s, g, h => by
    obtain ⟨pos, rfl⟩ := inv_retN h
    refine PS.imp ps_retN fun D σ H ⟨m, ρ, S, sm, lv, po⟩ => ?_
    unfold evS at po
    exact po m H σ .refl sm lv .non (dv_none (K := X.K) (L := Lv m) (H := H))
  | .rai f x, c, cur, X, W, s, g, h => by
    obtain ⟨p, l, pos, pos2, rfl, h1, hc, h2, h3, h4⟩ := inv_rai h
    obtain ⟨hg, hd⟩ := g.g.gl h1
    obtain ⟨lc, el⟩ := Option.isSome_iff_exists.mp h4
    obtain ⟨C, hm, ex⟩ := g.g.fx.excs f lc el
    obtain ⟨fI, fd, i1, i2, i3, i4⟩ := ex.ini
    refine PS.imp (ps_raise (g.g.calm hc) g.g.tk (pmk_oex ex.oex i1 i2 i4 ((g.g.room hc).mono g.g.fx.lev) i3 .nil (fun _ _ _ _ _ _ _ z => z.elim) hg hm (pa_cons (sE x g.g h3) pa_nil (star_cons h2)) hd (star_cons h2) rfl)) fun D σ H ⟨m, ρ, S, sm, lv, po⟩ => ?_
    unfold evS at po
    refine ⟨m, ρ, S, sm, lv, (POS.st lv po).mono fun v H1 ⟨m1, a1, S1, e1, s1, r1, l1, p1⟩ => ⟨by simp, fun a ha => ?_⟩⟩
    cases ed : toD S1 a1 with
    | none => simp only [ed] at p1; exact p1.elim
    | some q =>
      obtain ⟨d, S2⟩ := q
      simp only [ed] at p1
      obtain ⟨m2, x2, s2, d2⟩ := toD_ok ed s1 r1
      refine ⟨a, v, rfl, upd_same, fun dx n ne => ⟨rfl, dx, _, upd_same, by rw [upd_ne ne, upd_same], by rw [upd_ne ne] at n; exact n, ?_⟩⟩
      exact rai_end (p1.from x2) s2 (l1.ext x2) d2 hm a dx ha (by rw [upd_ne ne] at n; exact n) ne
  | .try_ b hs, c, cur, X, W, s, g, h => by
    obtain ⟨body, h0, hds, pos, rfl, hc, ho, h1, h2⟩ := inv_try h
    have cn := g.g.nocur (g.g.calm hc)
    subst cn
    obtain ⟨l, q1, q2⟩ := sHs hs g h2
    refine PS.imp (ps_tryX (tb := fun W' => TXS X none W' (evSs G call wl b)) g.stk g.fr g.g.nd g.g.tk (fun W' pn xe tk po => sSs b (g.tr hc tk po) h1) q1) fun D σ H ⟨m, ρ, S, sm, lv, po⟩ => ?_
    unfold evS at po
    refine ⟨m, ρ, S, sm, lv, ?_⟩
    cases e : evSs G call wl b ρ S with
    | ok fl ρ' S' => rw [e] at po; exact po
    | no => rw [e] at po; exact po.elim
    | ex cn d ρ1 S1 =>
      simp only [e] at po
      exact fun m' H' σ' C dd w x s l hm nl hd dv => q2 D m' H' σ' ρ1 S1 cn d C dd w (po.from x) s l hm nl hd dv
  | .pas, c, cur, X, W, s, g, h => by
    obtain ⟨pos, rfl⟩ := inv_pas h
    refine PS.imp ps_pass fun D σ H ⟨m, ρ, S, sm, lv, po⟩ => ?_
    unfold evS at po
    exact po m H σ .refl sm lv
  | .brk, c, cur, X, W, s, g, h => by
    obtain ⟨pos, rfl⟩ := inv_brk h
    refine PS.imp ps_break fun D σ H ⟨m, ρ, S, sm, lv, po⟩ => ?_
    unfold evS at po
    exact po m H σ .refl sm lv
  | .cnt, c, cur, X, W, s, g, h => by
    obtain ⟨pos, rfl⟩ := inv_cnt h
    refine PS.imp ps_continue fun D σ H ⟨m, ρ, S, sm, lv, po⟩ => ?_
    unfold evS at po
    exact po m H σ .refl sm lv
  | .frz i, c, cur, X, W, s, g, h => (no_frz h).elim
theorem sSs : ∀ (t : Ts) {c : Ck} {cur : Cur} {X : Cx} {W : WX} {s : List Stmt}, Gs G call k c cur X W → ckSs G c t s = true → PSs X s (TXS X cur W (evSs G call wl t))
  | .nil, c, cur, X, W, [], g, h => by
    refine PSs.imp pss_nil fun D σ H ⟨m, ρ, S, sm, lv, po⟩ => ?_
    unfold evSs at po
    exact po m H σ .refl sm lv
  | .nil, c, cur, X, W, _ :: _, g, h => absurd h (by simp [ckSs])
  | .cons t ts, c, cur, X, W, s, g, h => by
    by_cases hf : ∃ i, t = .frz i
    · obtain ⟨i, rfl⟩ := hf
      have h : ckSs G c ts s = true := by
        cases s <;> (unfold ckSs at h; exact h)
      refine PSs.imp (sSs ts g h) fun D σ H ⟨m, ρ, S, sm, lv, po⟩ => ?_
      unfold evSs evS at po
      split at po
      · rename_i j ej
        split at po
        · rename_i l el
          obtain ⟨v, ev, a, rfl, hq⟩ := lv.at_ i _ ej
          have x := Ext.freeze (m := m) (H := H) (i := j)
          exact ⟨m.clr j, _, _, sm.freeze, (lv.ext x).setρ ev (r := .v (.list l)) (frozen_dv sm el hq), POS.from po x⟩
        · exact po.elim
      · exact po.elim
    · have h' : ∃ s0 ss, s = s0 :: ss ∧ ckS G c t s0 = true ∧ ckSs G c ts ss = true := by
        cases s with
        | nil => cases t <;> first | exact (hf ⟨_, rfl⟩).elim | exact absurd h (by simp [ckSs])
        | cons s0 ss =>
          refine ⟨s0, ss, rfl, ?_⟩
          cases t <;> first | exact (hf ⟨_, rfl⟩).elim | (simp only [ckSs, Bool.and_eq_true] at h; exact h)
      obtain ⟨s0, ss, rfl, h1, h2⟩ := h'
      refine PSs.imp (pss_cons (sS t g h1) (sSs ts g h2)) fun D σ H ⟨m, ρ, S, sm, lv, po⟩ => ?_
      unfold evSs at po
      exact ⟨m, ρ, S, sm, lv, POS.next po⟩
theorem sHs : ∀ (hs : Hs) {c : Ck} {X : Cx} {W : WX} {hds : List ExceptHandler}, Gs G call k c none X W → ckHs G { c with calm := false } hs hds = true → ∃ l, HdsX X hds l ∧ HsOk G call wl X W hs l
  | .nil, c, X, W, hds, g, h => by
    have e := inv_hnil h
    subst e
    exact ⟨[], .nil, fun D m H σ ρ S cn d C dd w po s lv hc nl hd dv => by
      unfold evH at po
      exact po m H σ C dd w .refl s lv hc nl hd dv⟩
  | .cons hn (some i) b hs, c, X, W, hds, g, h => by
    obtain ⟨np, n, s0, ss, pos, r, rfl, h1, h2, h3, h4, h5, h6⟩ := inv_hsN h
    obtain ⟨l, q1, q2⟩ := sHs hs g h6
    obtain ⟨lc, el⟩ := Option.isSome_iff_exists.mp h2
    obtain ⟨C, hm, ex⟩ := g.g.fx.excs hn lc el
    refine ⟨_, .consN (nm_of g.g h1 hm) (by rw [g.g.N]; exact h3) (by rw [g.g.kof]; exact h4) (ts := tsX G call wl X b) (fun a oe cls d pn hz hf => ?_) q1, hs_step g.g.fx hm h2 q2⟩
    refine PSs.ex fun q hq => ?_
    obtain ⟨rfl, rfl, e3, e4⟩ := hq
    exact sSs b (g.suite hz hf e3 e4) h5
  | .cons hn none b hs, c, X, W, hds, g, h => by
    obtain ⟨np, s0, ss, pos, r, rfl, h1, h2, h5, h6⟩ := inv_hs h
    obtain ⟨l, q1, q2⟩ := sHs hs g h6
    obtain ⟨lc, el⟩ := Option.isSome_iff_exists.mp h2
    obtain ⟨C, hm, ex⟩ := g.g.fx.excs hn lc el
    refine ⟨_, .cons (nm_of g.g h1 hm) (ts := tsX G call wl X b) (fun a oe cls d pn hz hf => ?_) q1, hs_step g.g.fx hm h2 q2⟩
    refine PSs.ex fun q hq => ?_
    obtain ⟨rfl, rfl, e3, e4⟩ := hq
    exact sSs b (g.suite hz hf e3 e4) h5
end
end
end EV

set_option Elab.async false
set_option linter.all false
set_option maxRecDepth 100000
set_option maxHeartbeats 8000000
/-! EV, part 17: defs are sound. -/
namespace EV
open PySem PySem.Spec PyProof.Rows L2
section
variable {K : PySem.W.Frag} {m m' : Mp} {H H' : Hp} {S : Sto}
/-- a mutable list that a call hands back -/
theorem keepR {n i : Nat} {a : Addr} {l : List EV.D} (x : Ext m H m' H') (s : Sim K m' S H') (hn : n = m.l.length) (hi : ¬ i < n) (e : S[i]? = some (some l)) (e1 : m'.l[i]? = some (some a)) :
    Ext m H ⟨m'.l.take n ++ [some a], m'.hd⟩ H' ∧ Sim K ⟨m'.l.take n ++ [some a], m'.hd⟩ (S.take n ++ [some l]) H' := by
  have sub : ∀ b, Lv ⟨m'.l.take n ++ [some a], m'.hd⟩ b → Lv m' b := fun b z => by
    rcases z with z | z
    · rcases List.mem_append.mp z with z | z
      · exact .inl (List.mem_of_mem_take z)
      · have : b = a := by simpa using z
        subst this
        exact .inl (List.mem_of_getElem? e1)
    · exact .inr z
  have k : Kp (Lv m') H' (Lv ⟨m'.l.take n ++ [some a], m'.hd⟩) H' := fun b o nb eb => ⟨fun z => nb (sub b z), eb⟩
  have lt : n ≤ m'.l.length := by
    have := (List.getElem?_eq_some_iff.mp e1).1
    omega
  have lenT : (m'.l.take n).length = n := by rw [List.length_take]; omega
  have lenS : (S.take n).length = n := by rw [List.length_take, ← s.len]; omega
  have na : some a ∉ m'.l.take n := fun z => by
    obtain ⟨j, hj, ej⟩ := List.getElem_of_mem z
    have q : (m'.l.take n)[j]? = some (some a) := by rw [List.getElem?_eq_getElem hj, ej]
    obtain ⟨q1, q2⟩ := take_get q
    have := s.inj i j a e1 q2
    omega
  have hget : ∀ (j : Nat) o, m.l[j]? = some o → j < n := fun j o ej => by rw [hn]; exact (List.getElem?_eq_some_iff.mp ej).1
  have at_ : ∀ j : Nat, j < n → (m'.l.take n ++ [some a])[j]? = m'.l[j]? := fun j hj => by
    rw [List.getElem?_append_left (by omega), List.getElem?_take_of_lt hj]
  refine ⟨⟨x.keep.trans k, x.hd, x.hid, fun j b ej => ?_, fun j ej => ?_⟩, ⟨?_, fun j j2 b q1 q2 => ?_, fun j q => ?_, fun b hb => ⟨fun z => ?_, (s.hid b hb).2⟩, fun j l' q => ?_⟩⟩
  · show (m'.l.take n ++ [some a])[j]? = _ ∨ (m'.l.take n ++ [some a])[j]? = _
    rw [at_ j (hget j _ ej)]
    exact x.refs j b ej
  · show (m'.l.take n ++ [some a])[j]? = _
    rw [at_ j (hget j _ ej)]
    exact x.dead j ej
  · show (m'.l.take n ++ [some a]).length = (S.take n ++ [some l]).length
    rw [List.length_append, List.length_append, lenT, lenS]
    rfl
  · rcases snoc_get q1 with ⟨_, w1⟩ | ⟨r1, w1⟩
    · rcases snoc_get q2 with ⟨_, w2⟩ | ⟨r2, w2⟩
      · exact s.inj j j2 b (take_get w1).2 (take_get w2).2
      · cases w2
        exact absurd (List.mem_of_getElem? w1) na
    · cases w1
      rcases snoc_get q2 with ⟨_, w2⟩ | ⟨r2, w2⟩
      · exact absurd (List.mem_of_getElem? w2) na
      · rw [r1, r2]
  · rcases snoc_get q with ⟨hj, q⟩ | ⟨_, q⟩
    · show (m'.l.take n ++ [some a])[j]? = _
      obtain ⟨hk, q⟩ := take_get q
      rw [at_ j hk]
      exact s.dead j q
    · cases q
  · rcases List.mem_append.mp (show some b ∈ m'.l.take n ++ [some a] from z) with z | z
    · exact (s.hid b hb).1 (List.mem_of_mem_take z)
    · have : b = a := by simpa using z
      subst this
      exact (s.hid b hb).1 (List.mem_of_getElem? e1)
  · rcases snoc_get q with ⟨hj, q⟩ | ⟨hj, q⟩
    · obtain ⟨hk, q⟩ := take_get q
      obtain ⟨b, vs, q1, q2, q3⟩ := s.live j l' q
      refine ⟨b, vs, ?_, q2, DVs.keep k l' vs q3⟩
      show (m'.l.take n ++ [some a])[j]? = _
      rw [at_ j hk]
      exact q1
    · cases q
      obtain ⟨b, vs, q1, q2, q3⟩ := s.live i l e
      rw [e1] at q1
      cases q1
      refine ⟨a, vs, ?_, q2, DVs.keep k l vs q3⟩
      show (m'.l.take n ++ [some a])[j]? = _
      rw [hj, lenS, List.getElem?_append_right (by omega), lenT]
      simp
theorem keepD {n i : Nat} {a : Addr} {l : List EV.D} (s : Sim K m' S H') (hi : ¬ i < n) (e : S[i]? = some (some l)) (e1 : m'.l[i]? = some (some a)) : DV K (Lv (m'.cut n)) H' (.list l) (.ref a) := by
  obtain ⟨b, vs, q1, q2, q3⟩ := s.live i l e
  rw [e1] at q1
  cases q1
  refine dv_lst (fun z => ?_) q2 (DVs.keep Kp.cut l vs q3)
  rcases z with z | z
  · obtain ⟨j, hj, ej⟩ := List.getElem_of_mem z
    have q : (m'.l.take n)[j]? = some (some a) := by rw [← ej]; exact List.getElem?_eq_getElem hj
    obtain ⟨q1, q2⟩ := take_get q
    have := s.inj i j a e1 q2
    omega
  · exact (s.hid a z).1 (List.mem_of_getElem? e1)
/-- what a call hands back -/
theorem gc_ok {mg : Str → Option Value} {mu : Bool} {n : Nat} {r : R} {v : V} {Q : V → Hp → Prop} {E : XK} (hn : n = m.l.length) (x : Ext m H m' H') (s : Sim K m' S H') (rv : RV K none m' H' r v) (h : PQ K mg (RV K none) m H (gcR mu n r S) Q E) : Q v H' := by
  have xc : Ext m H (m'.cut n) H' := hn ▸ x.cut
  cases r with
  | v d => exact h _ H' v xc (s.cut n) (DV.keep Kp.cut d v rv)
  | x c d => exact h.elim
  | s l =>
    refine h _ H' v xc (s.cut n) ?_
    obtain ⟨a, rfl, q⟩ := rv
    refine ⟨a, rfl, ?_⟩
    rcases q with ⟨nl, q⟩ | q
    · exact .inl (Kp.cut.rd nl q)
    · exact .inr q
  | r i =>
    obtain ⟨a, rfl, q⟩ := rv
    by_cases hi : i < n
    · simp only [gcR, if_pos hi] at h
      refine h _ H' (.ref a) xc (s.cut n) ⟨a, rfl, ?_⟩
      show (m'.l.take n)[i]? = _ ∨ (m'.l.take n)[i]? = _
      rw [List.getElem?_take_of_lt hi]
      exact q
    · simp only [gcR, if_neg hi] at h
      split at h
      · rename_i l el
        obtain ⟨e1, _⟩ := s.at_ el q
        cases mu with
        | true =>
          rw [if_pos rfl] at h
          obtain ⟨x2, s2⟩ := keepR x s hn hi el e1
          refine h _ H' (.ref a) x2 s2 ⟨a, rfl, .inl ?_⟩
          show (m'.l.take n ++ [some a])[(S.take n).length]? = _
          have : (m'.l.take n).length = (S.take n).length := by rw [List.length_take, List.length_take, s.len]
          rw [← this, List.getElem?_append_right (Nat.le_refl _)]
          simp
        | false =>
          rw [if_neg Bool.false_ne_true] at h
          exact h _ H' (.ref a) xc (s.cut n) (keepD s hi el e1)
      · exact h.elim
end
section
variable {P : Program} {w : World} {K : PySem.W.Frag} {mg : Str → Option Value} {base : Heap} {G : Pg} {call : Str → List R → Sto → Res R} {k wl : Nat}
theorem rvs_get {m : Mp} {H : Hp} : ∀ {rs : List R} {vs : List V} {i : Nat} {r : R}, RVs K none m H rs vs → rs[i]? = some r → ∃ v, vs[i]? = some v ∧ RV K none m H r v
  | _, _, i, r, .nil, e => by simp at e
  | _, _, 0, r, .cons h t, e => by
    simp at e
    subst e
    exact ⟨_, rfl, h⟩
  | _, _, i + 1, r, .cons h t, e => by
    simp at e
    obtain ⟨v, e1, e2⟩ := rvs_get t e
    exact ⟨v, by simpa using e1, e2⟩
theorem lv_start {m : Mp} {H : Hp} {N : List Str} {rs : List R} {vs : List V} (h : RVs K none m H rs vs) : LV K none m H (rs.map some ++ List.replicate (N.length - rs.length) none) (L2.start N vs) := by
  have hl := Paired.length h
  refine ⟨by simp [L2.start, hl], fun i r e => ?_⟩
  unfold L2.start
  by_cases hi : i < rs.length
  · rw [List.getElem?_append_left (by simpa using hi), List.getElem?_map] at e
    cases q : rs[i]? with
    | none => rw [q] at e; cases e
    | some r' =>
      rw [q] at e
      cases e
      obtain ⟨v, e1, e2⟩ := rvs_get h q
      exact ⟨v, by rw [List.getElem?_append_left (by simpa [← hl] using hi), List.getElem?_map, e1]; rfl, e2⟩
  · rw [List.getElem?_append_right (by simpa using hi), List.getElem?_replicate] at e
    split at e <;> cases e
theorem df_ok (fx : Fct G call k P w K mg base) {x qual : Str} {st : Stmt} {f : Addr} {fd : FuncData} {df : Df} (F : Fun K x qual st f fd) (S : FnScope df.N df.ps (defScope st)) (ck : ckSs G ⟨df.N, (defScope st).names, true, none⟩ df.body (defBody st) = true) :
    FnOk P w K mg base (L2.CX P w) (k + 1) f fd df.ps (spC K mg df.ps fun rs S => runDf G call wl df rs S) := by
  refine F.okX S (fun vs H Q E h => h.1) (fun cdv A outer s H vs Q E hr h => ?_)
  obtain ⟨hl, m, S0, rs, sm, rvs, pq⟩ := h
  have pq : PQ K mg (RV K none) m H (runDf G call wl df rs S0) Q E := pq
  have g : Gs G call k ⟨df.N, (defScope st).names, true, none⟩ none (cxOf (L2.CX P w) P w K mg base df.N qual (defScope st) f cdv A outer s H E) (fun cls d _ H => E cls d H) := {
    g := {
      fx := fx
      N := rfl
      nd := S.nd
      names := rfl
      kind := S.kind
      fn := fun _ => rfl
      room := fun _ => hr
      un := hr.units
      tk := takes_of rfl rfl rfl rfl
      calm := fun _ => rfl
      cu := fun _ _ _ z => by cases z }
    own := rfl
    po := passes_of rfl
    stk := rfl
    fr := rfl }
  refine ⟨_, sSs (wl := wl) df.body g ck, m, _, S0, sm, lv_start rvs, ?_⟩
  unfold runDf at pq
  have hn : S0.length = m.l.length := sm.len.symm
  split at pq
  · cases e : evSs G call wl df.body (rs.map some ++ List.replicate (df.N.length - rs.length) none) S0 with
    | no => rw [e] at pq; exact pq.elim
    | ex c d ρ' S1 =>
      simp only [e] at pq
      exact fun m' H' σ' C dd wv x s _ hm nl hd dv => pq (m'.cut S0.length) H' C dd wv (hn ▸ x.cut) (s.cut _) hm (Kp.cut dd _ nl hd).1 hd (DV.keep Kp.cut _ _ dv)
    | ok fl ρ' S1 =>
      cases fl with
      | nx =>
        simp only [e] at pq
        exact fun m' H' σ' x s _ => pq (m'.cut S0.length) H' .non (hn ▸ x.cut) (s.cut _) (dv_none (K := K) (L := Lv (m'.cut S0.length)) (H := H'))
      | rt r =>
        simp only [e] at pq
        exact fun m' H' σ' x s _ v rv => gc_ok hn x s rv pq
      | bk => simp only [e] at pq; exact pq.elim
      | ct => simp only [e] at pq; exact pq.elim
  · exact pq.elim
/-- what the top has written of a program's defs, and more of what is known -/
structure Txt (G : Pg) (P : Program) (w : World) (K : PySem.W.Frag) (mg : Str → Option Value) (base : Heap) : Prop where
  defs : ∀ f df, G.defs.lookup f = some df → ∃ (a : Addr) (fd : FuncData) (qual : Str) (st : Stmt), mg f = some (.ref a) ∧ Fun K f qual st a fd ∧ FnScope df.N df.ps (defScope st) ∧ ckSs G ⟨df.N, (defScope st).names, true, none⟩ df.body (defBody st) = true ∧
    ∀ n ks, (n, ks) ∈ df.forms → KBn K fd df.ps n ks (arr df.ps ks) (arr df.ps ks)
  glob : ∀ x d, G.glob.lookup x = some d → ∃ u v, mg x = some u ∧ RelV v u ∧ ∀ L H, DV K L H d v
  bis : ∀ b ∈ G.bis, mg b = none
  imps : ∀ x id, G.imps.lookup x = some id → mg x = some (.builtin id)
  excs : ∀ c l, G.subs.lookup c = some l → ∃ C, mg c = some (.ref C) ∧ ExF P w K mg base C
  cat : ∀ c l h C, G.subs.lookup c = some l → mg c = some (.ref C) → ∀ C', mg h = some (.ref C') → (∃ l', G.subs.lookup h = some l') → PySem.W.exmOne K (.ref C) (.ref C') = some (decide (h ∈ l))
  dict : ∀ x kvs, G.dict.lookup x = some kvs → ∃ a, mg x = some (.ref a) ∧ KDI K a kvs
theorem fct_of (T : Txt G P w K mg base) : ∀ n, Fct G (callN G wl n) (n + 2) P w K mg base
  | 0 => ⟨fun f df e => by
      obtain ⟨a, fd, qual, st, h1, h2, h3, h4, h5⟩ := T.defs f df e
      refine ⟨a, fd, h1, h2.kp, ⟨fun vs H Q E h => h.1, fun A outer s H args us vs Q E _ _ _ _ h => ?_⟩, h5⟩
      obtain ⟨_, m, S0, rs, _, _, pq⟩ := h
      unfold callN at pq
      exact pq.elim, T.glob, T.bis, T.imps, T.excs, T.cat, T.dict, Nat.le_refl _⟩
  | n + 1 => ⟨fun f df e => by
      obtain ⟨a, fd, qual, st, h1, h2, h3, h4, h5⟩ := T.defs f df e
      refine ⟨a, fd, h1, h2.kp, (df_ok (wl := wl) (fct_of T n) h2 h3 h4).imp fun vs H Q E h => ?_, h5⟩
      obtain ⟨hl, m, S0, rs, q1, q2, pq⟩ := h
      refine ⟨hl, m, S0, rs, q1, q2, ?_⟩
      unfold callN at pq
      simp only [e] at pq
      exact pq, T.glob, T.bis, T.imps, T.excs, T.cat, T.dict, by omega⟩
end
end EV

set_option Elab.async false
set_option linter.all false
set_option maxRecDepth 100000
set_option maxHeartbeats 8000000
/-! EV, part 18: what the top has written. -/
namespace EV
open PySem PySem.Spec PyProof.Rows L2 He
/-! ### the exceptions' __init__ -/
structure InitS (s : Stmt) : Prop where
  body : ∃ p1 p2 p3 p4 p5 p6 p7 p8 p9 p10, defBody s = [.Expr (.Call (.Attribute (.Name "ValueError" p1) "__init__" p2) [.Name "self" p3, .Name "value" p4] [] p5) p6, .Assign [.Attribute (.Name "self" p7) "value" p8] (.Name "value" p9) p10] ∧
    ∀ env : Env, ∃ pl : Sem Bool, eval (.Call (.Attribute (.Name "ValueError" p1) "__init__" p2) [.Name "self" p3, .Name "value" p4] [] p5) env = (do
      let ov ← eval (.Name "ValueError" p1) env
      standAt p2.atName
      let (f, first) ← holding [ov] (getMethod ov "__init__" pl)
      callWith p5 f first (backTo p5 (starEach [.Name "self" p3, .Name "value" p4] env)) (backToKw p5 (keywordEach [] env)))
  sc : FnScope ["self", "value"] ["self", "value"] (defScope s)
  ve : (defScope s).names.lookup ("ValueError" : Str) = some .globalImplicit
  bi : ∀ (kV doc pm : Value) (an : Option Addr) (cdv ct : Value) (us : List Value), us.length = (["self", "value"] : List Str).length → bindArgs (PySem.W.fnOf "__init__" "FloorError.__init__" (defArgs s) (defBody s) (defScope s) .none kV doc pm an cdv ct) ⟨us, []⟩ = pure ((["self", "value"] : List Str).zip us)
theorem vV_ok {K : PySem.W.Frag} : PySem.W.findCls K (.type "ValueError") (.type "type") "__init__" = some (.val (.builtin "ValueError.__init__")) := by kernel_rfl
section
variable {P : Program} {w : World} {K : PySem.W.Frag} {mg : Str → Option Value} {base : Heap}
theorem ini_ok {C fI : Addr} {fd : FuncData} {sI : Stmt} (T : OexC K C) (no : PySem.W.findIn K (.ref C) "value" = some none) (F : Fun K "__init__" "FloorError.__init__" sI fI fd) (S : InitS sI) (mV : mg "ValueError" = none) :
    FnOk P w K mg base L2.CX0 1 fI fd ["self", "value"] (fun vs H Q _ => ∃ a v, vs = [.ref a, v] ∧ H a = some (exo a C none) ∧
      ∀ dx, H dx = none → dx ≠ a → Q .non (upd (upd H dx (exd dx [(("value" : Str), v)])) a (exo a C (some dx)))) := by
  refine F.ok S.sc (fun vs H Q E h => ?_) (fun cdv A outer s H vs Q E hr h => ?_)
  · obtain ⟨a, v, rfl, _⟩ := h
    rfl
  · obtain ⟨a, v, rfl, ha, k⟩ := h
    obtain ⟨p1, p2, p3, p4, p5, p6, p7, p8, p9, p10, eb, hc⟩ := S.body
    rw [eb]
    obtain ⟨pl, hc⟩ := hc (cxOf L2.CX0 P w K mg base ["self", "value"] "FloorError.__init__" (defScope sI) fI cdv A outer s H E).nox.env
    have v0 : Vis (defScope sI) "self" := by
      rcases S.sc.par "self" (by simp) with z | z
      · exact .inl z
      · exact .inr (.inl z)
    have v1 : Vis (defScope sI) "value" := by
      rcases S.sc.par "value" (by simp) with z | z
      · exact .inl z
      · exact .inr (.inl z)
    refine ⟨_, pss_cons (ps_expr (pe_veinit S.ve mV vV_ok (pa_cons (pv 0 rfl v0) (pa_cons (pv 1 rfl v1) pa_nil)) hc)) (pss_one (ps_ost (pv 0 rfl v0) (pv 1 rfl v1) rfl)), ?_⟩
    refine ⟨_, rfl, _, rfl, a, C, _, rfl, by simp, T, ha, ?_⟩
    refine ⟨_, rfl, _, rfl, a, C, rfl, T, no, .inl ⟨ha, fun dx n ne => k dx n ne⟩⟩
end
end EV

set_option Elab.async false
set_option linter.all false
set_option maxRecDepth 100000
set_option maxHeartbeats 8000000
/-! EV, part 19: what the top has written: the look at it, and what follows. -/
namespace EV
open PySem PySem.Spec PyProof.Rows L2 He
/-! ### constants -/
mutual
def constB (K : PySem.W.Frag) : D → Value → Bool
  | .none, .none => true
  | .bool b, .bool c => b == c
  | .int i, .int j _ => decide (i = j)
  | .str s, .str t _ => decide (s = t)
  | .tuple ds, .ref a => match K.lookup a with
    | some ⟨.type c, _, .seq its _, _⟩ => decide (c = "tuple") && (decide (its.size ≤ sizeLine) && constsB K ds its.toList)
    | _ => false
  | _, _ => false
def constsB (K : PySem.W.Frag) : List D → List Value → Bool
  | [], [] => true
  | d :: ds, v :: vs => constB K d v && constsB K ds vs
  | _, _ => false
end
section
variable {K : PySem.W.Frag}
mutual
theorem const_ok : ∀ (d : D) (u : Value), constB K d u = true → ∃ v, RelV v u ∧ ∀ L H, DV K L H d v
  | .none, u, h => by
    cases u with
    | none => exact ⟨.non, rfl, fun _ _ => dv_none⟩
    | _ => exact absurd h (by simp [constB])
  | .bool b, u, h => by
    cases u with
    | bool c =>
      have e : b = c := by simpa [constB] using h
      subst e
      exact ⟨.bl b, rfl, fun _ _ => dv_bool⟩
    | _ => exact absurd h (by simp [constB])
  | .int i, u, h => by
    cases u with
    | int j t =>
      have e : i = j := by simpa [constB] using h
      subst e
      exact ⟨.int i, ⟨_, rfl⟩, fun _ _ => dv_int⟩
    | _ => exact absurd h (by simp [constB])
  | .str s, u, h => by
    cases u with
    | str t n =>
      have e : s = t := by simpa [constB] using h
      subst e
      exact ⟨.str s, ⟨_, rfl⟩, fun _ _ => dv_str⟩
    | _ => exact absurd h (by simp [constB])
  | .tuple ds, u, h => by
    cases u with
    | ref a =>
      unfold constB at h
      split at h
      · rename_i c od its n sl e
        obtain ⟨h1, h⟩ := ba h
        obtain ⟨h2, h3⟩ := ba h
        obtain ⟨vs, q1, q2⟩ := consts_ok ds its.toList h3
        refine ⟨.ref a, rfl, fun L H => ?_⟩
        simp only [DV]
        exact ⟨a, vs, rfl, .inl ⟨_, its, n, e, congrArg Value.type (of_decide_eq_true h1), rfl, of_decide_eq_true h2, q1⟩, q2 L H⟩
      · cases h
    | _ => exact absurd h (by simp [constB])
  | .list _, _, h => by simp [constB] at h
  | .dict _, _, h => by simp [constB] at h
theorem consts_ok : ∀ (ds : List D) (us : List Value), constsB K ds us = true → ∃ vs, Vals vs us ∧ ∀ L H, DVs K L H ds vs
  | [], [], _ => ⟨[], .nil, fun _ _ => rfl⟩
  | d :: ds, v :: us, h => by
    simp only [constsB] at h
    obtain ⟨h1, h2⟩ := ba h
    obtain ⟨x, r, q⟩ := const_ok d v h1
    obtain ⟨xs, rs, qs⟩ := consts_ok ds us h2
    exact ⟨x :: xs, .cons r rs, fun L H => ⟨x, xs, rfl, q L H, qs L H⟩⟩
  | [], _ :: _, h => by simp [constsB] at h
  | _ :: _, [], h => by simp [constsB] at h
end
/-! ### classes of exceptions -/
def excC (K : PySem.W.Frag) (C : Addr) : Bool := match K.lookup C with
  | some ⟨.type t, _, .cls cd, sl⟩ => (match cd.mro, sl.toList with
    | .ref C' :: bm, [_, _, _, _, some (.builtin n), _] => decide (t = "type") && (decide (C' = C) && (decide (n = "ValueError.__new__") && (!cd.hasDel && (cd.hasDict && PySem.HandSPX.refsVE bm))))
    | _, _ => false)
  | _ => false
theorem excC_ok {C : Addr} (q : excC K C = true) : ∃ nm q N bs bm sn sub ab col dd k0 k1 k2 k3 k5, K.lookup C = some (excClassObj nm q C N bs bm true sn sub ab col dd k0 k1 k2 k3 k5 "ValueError.__new__") ∧ PySem.HandSPX.refsVE bm = true := by
  unfold excC at q
  split at q
  · rename_i t dd cd sl ho
    split at q
    · rename_i C' bm k0 k1 k2 k3 n k5 hm hs
      obtain ⟨q0, q⟩ := ba q
      obtain ⟨q1, q⟩ := ba q
      obtain ⟨q2, q⟩ := ba q
      obtain ⟨q3, q⟩ := ba q
      obtain ⟨q4, q5⟩ := ba q
      have q0 := of_decide_eq_true q0
      have q1 := of_decide_eq_true q1
      have q2 := of_decide_eq_true q2
      obtain ⟨nm, bs, mro, ns, qn, hd, sn, sub, ab, col, del⟩ := cd
      dsimp only at hm q3 q4
      subst hm q0 q1 q2
      have q3 : del = false := by simpa using q3
      subst q3 q4
      have hsl : sl = #[k0, k1, k2, k3, some (.builtin "ValueError.__new__"), k5] := by
        obtain ⟨l⟩ := sl
        simp only at hs
        rw [hs]
      subst hsl
      exact ⟨nm, qn, ns, bs, bm, sn, sub, ab, col, dd, k0, k1, k2, k3, k5, ho, q5⟩
    · cases q
  · cases q
/-- a class that takes cb's __init__ -/
def clsB (K : PySem.W.Frag) (cb c : Str) : Bool := eqO (PySem.W.nsIn K mainGlobals c) (some (some (.ref (ga K c)))) && (excC K (ga K c) && (eqO (PySem.W.findIn K (.ref (ga K c)) "__setattr__") (some (some (.builtin "object.__setattr__"))) &&
  (decide (PySem.W.typeIn K (.ref (ga K c)) = some (.type "type")) && (PySem.W.keepIn K (.ref (ga K c)) && (xfB K (ga K c) && (eqO (PySem.W.findIn K (.ref (ga K c)) "value") (some none) &&
  eqO (PySem.W.findIn K (.ref (ga K c)) "__init__") (some (some (.ref (ma K (ga K cb) "__init__"))))))))))
theorem clsB_ok {P : Program} {w : World} {mg : Str → Option Value} {base h : Heap} (X : K.In h) (Gn : h.Ns mainGlobals mg) {cb c : Str} {fd : FuncData} {sI : Stmt} (q : clsB K cb c = true) (S : InitS sI) (mV : mg "ValueError" = none) (F : Fun K "__init__" "FloorError.__init__" sI (ma K (ga K cb) "__init__") fd)
    (hty : PySem.W.typeIn K (.ref (ma K (ga K cb) "__init__")) = some (.type "function")) : mg c = some (.ref (ga K c)) ∧ ExF P w K mg base (ga K c) := by
  unfold clsB at q
  obtain ⟨q1, q⟩ := ba q
  obtain ⟨q2, q⟩ := ba q
  obtain ⟨q3, q⟩ := ba q
  obtain ⟨q4, q⟩ := ba q
  obtain ⟨q5, q⟩ := ba q
  obtain ⟨q6, q⟩ := ba q
  obtain ⟨q7, q8⟩ := ba q
  have xf := xfB_ok q6
  have ox : OexC K (ga K c) := ⟨excC_ok q2, eqO_ok q3, xf.exC, of_decide_eq_true q4, q5⟩
  refine ⟨PySem.W.mg_of X Gn (eqO_ok q1), ox, xf, eqO_ok q7, _, fd, eqO_ok q8, hty, F.binds S.bi, ini_ok ox (eqO_ok q7) F S mV⟩
end
/-! ### the look -/
structure Rw where
  nm : Str
  st : Stmt
  df : Df
def Rw.fn (r : Rw) : FnD := ⟨(r.nm, none), r.nm, r.nm, defArgs r.st, defBody r.st, defScope r.st⟩
def fnI (cb : Str) (sI : Stmt) : FnD := ⟨(cb, some "__init__"), "__init__", "FloorError.__init__", defArgs sI, defBody sI, defScope sI⟩
def defB (K : PySem.W.Frag) (f : Str) : Bool := eqO (PySem.W.nsIn K mainGlobals f) (some (some (.ref (ga K f)))) && PySem.W.keepIn K (.ref (ga K f))
def globB (K : PySem.W.Frag) (p : Str × D) : Bool := match PySem.W.nsIn K mainGlobals p.1 with
  | some (some u) => constB K p.2 u
  | _ => false
def entsB (K : PySem.W.Frag) : List (Int × D) → List DictEntry → Bool
  | [], [] => true
  | p :: r, e :: es => (match e.key with | .int j _ => decide (j = p.1) | _ => false) && (decide (e.hash = hashInt p.1) && (constB K p.2 e.val && entsB K r es))
  | _, _ => false
def dictB (K : PySem.W.Frag) (p : Str × List (Int × D)) : Bool := match PySem.W.nsIn K mainGlobals p.1 with
  | some (some (.ref a)) => match K.lookup a with
    | some ⟨.type c, none, .dict es _, ⟨[]⟩⟩ => decide (c = "dict") && entsB K p.2 es.toList
    | _ => false
  | _ => false
theorem ents_ok {K : PySem.W.Frag} : ∀ {kvs : List (Int × D)} {l : List DictEntry}, entsB K kvs l = true → EntsI K kvs l
  | [], [], _ => True.intro
  | p :: r, e :: es, h => by
    simp only [entsB] at h
    obtain ⟨h1, h⟩ := ba h
    obtain ⟨h2, h⟩ := ba h
    obtain ⟨h3, h4⟩ := ba h
    refine ⟨?_, of_decide_eq_true h2, const_ok _ _ h3, ents_ok h4⟩
    split at h1
    · rename_i j t ek
      exact ⟨t, by rw [ek, of_decide_eq_true h1]⟩
    · cases h1
  | [], _ :: _, h => by simp [entsB] at h
  | _ :: _, [], h => by simp [entsB] at h
theorem dict_ok {K : PySem.W.Frag} {x : Str} {kvs : List (Int × D)} (h : dictB K (x, kvs) = true) : ∃ a, PySem.W.nsIn K mainGlobals x = some (some (.ref a)) ∧ KDI K a kvs := by
  unfold dictB at h
  split at h
  · rename_i a ea
    split at h
    · rename_i c es n el
      obtain ⟨h1, h2⟩ := ba h
      have h1 := of_decide_eq_true h1
      subst h1
      exact ⟨a, ea, es, n, el, ents_ok h2⟩
    · cases h
  · cases h
def exB (G : Pg) (cb : Str) (K : PySem.W.Frag) : Bool :=
  (G.bis.all fun b => eqO (PySem.W.nsIn K mainGlobals b) (some none)) && ((G.dict.all fun p => dictB K p) && ((G.imps.all fun p => eqO (PySem.W.nsIn K mainGlobals p.1) (some (some (.builtin p.2)))) && ((G.glob.all fun p => globB K p) && ((G.defs.all fun p => defB K p.1) && ((G.subs.all fun p => clsB K cb p.1) &&
    ((G.subs.all fun p => G.subs.all fun p' => decide (PySem.W.exmOne K (.ref (ga K p.1)) (.ref (ga K p'.1)) = some (decide (p'.1 ∈ p.2)))) &&
      (eqO (PySem.W.nsIn K mainGlobals "ValueError") (some none) && (decide (PySem.W.typeIn K (.ref (ma K (ga K cb) "__init__")) = some (.type "function")) && PySem.W.keepIn K (.ref (ma K (ga K cb) "__init__"))))))))))
def obsK (ex : PySem.W.Frag → Bool) (fn : List FnD) (K : PySem.W.Frag) : Al := (ex K && fn.all fun d => (Fa.code d.at_ d.qual).ok K, fn.map fun d => fnObs K d.at_)
/-- what an object leads to -/
def refsQ (o : Obj) : List Addr := match o.data with
  | .seq its _ => its.toList.flatMap refV
  | .dict es _ => es.toList.flatMap fun e => refV e.val
  | .func fd => refV fd.code
  | .cls cd => [cd.ns]
  | _ => []
def growQ (g : Addr → Option Obj) (as : List Addr) : List Addr := as.flatMap fun a => match g a with
  | some o => refsQ o
  | none => []
def asQ (g : Addr → Option Obj) : List Addr :=
  (fun a1 => (fun a2 => (fun a3 => mainGlobals :: (a1 ++ (a2 ++ (a3 ++ growQ g a3)))) (growQ g a2)) (growQ g a1)) (growQ g [mainGlobals])
def obsV (ex : PySem.W.Frag → Bool) (fn : List FnD) (g : Addr → Option Obj) : Al := obsK ex fn (frG g (asQ g))
def SaysV (ex : PySem.W.Frag → Bool) (fn : List FnD) (K : PySem.W.Frag) : Prop := obsK ex fn K = (true, fn.map FnD.val)
def hookV (ex : PySem.W.Frag → Bool) (fn : List FnD) : PySem.W.Hook where
  α := Al
  obs := fun s => obsV ex fn s.heap.get?
  val := fun _ => (true, fn.map FnD.val)
  says := fun _ h => ∃ K : PySem.W.Frag, K.In h ∧ SaysV ex fn K
  of := fun _ _ e => ⟨_, frG_in, e⟩
  keeps := fun _ _ _ ⟨K, hK, c⟩ k => ⟨K, PySem.W.Frag.In.keeps hK k, c⟩
theorem obsV_eq {ex : PySem.W.Frag → Bool} {fn : List FnD} {g : Addr → Option Obj} {s : Shared} (h : ∀ a, g a = s.heap.get? a) : obsV ex fn g = (hookV ex fn).obs s := by
  have e : g = s.heap.get? := funext h
  rw [e] <;> rfl
section
variable {ex : PySem.W.Frag → Bool} {fn : List FnD} {K : PySem.W.Frag}
theorem SaysV.more (c : SaysV ex fn K) : ex K = true := (ba (show (ex K && fn.all fun d => (Fa.code d.at_ d.qual).ok K) = true from congrArg (fun z : Al => z.1) c)).1
theorem SaysV.def_ (c : SaysV ex fn K) {d : FnD} (h : d ∈ fn) :
    ∃ oc od osl kV doc pm an cdv ct, K.lookup (fAd K d.at_) = some ⟨oc, od, .func (PySem.W.fnOf d.name d.qual d.params d.body d.scope .none kV doc pm an cdv ct), osl⟩ ∧ PySem.W.codeIn K cdv d.qual = true := by
  have c2 := (ba (show (ex K && fn.all fun d => (Fa.code d.at_ d.qual).ok K) = true from congrArg (fun z : Al => z.1) c)).2
  have e : fn.map (fun d => fnObs K d.at_) = fn.map FnD.val := congrArg (fun z : Al => z.2) c
  obtain ⟨i, hi, ei⟩ := List.mem_iff_getElem.mp h
  have h' : fn[i]? = some d := by rw [List.getElem?_eq_getElem hi, ei]
  have e2 : (fn.map fun d => fnObs K d.at_)[i]? = (fn.map FnD.val)[i]? := by rw [e]
  rw [List.getElem?_map, List.getElem?_map, h'] at e2
  exact fn_ok (Option.some.inj e2) (List.all_eq_true.mp c2 d h)
end
/-! ### the text's checks -/
def fnScB (N P : List Str) (sc : Scope) : Bool := (match sc.kind with | .function => true | _ => false) && (!sc.isCoroutine && (!sc.isGenerator && (decide N.Nodup && (decide (N.take P.length = P) && ((P.all fun x => decide (sc.names.lookup x = some .local) || decide (sc.names.lookup x = some .cell)) && sc.names.all fun y => decide (y.2 ≠ .free))))))
theorem fnSc_ok {N P : List Str} {sc : Scope} (h : fnScB N P sc = true) : FnScope N P sc := by
  unfold fnScB at h
  obtain ⟨h1, h⟩ := ba h
  obtain ⟨h2, h⟩ := ba h
  obtain ⟨h3, h⟩ := ba h
  obtain ⟨h4, h⟩ := ba h
  obtain ⟨h5, h⟩ := ba h
  obtain ⟨h6, h7⟩ := ba h
  refine ⟨?_, by simpa using h2, by simpa using h3, of_decide_eq_true h4, of_decide_eq_true h5, fun x hx => ?_, fun y hy => of_decide_eq_true (List.all_eq_true.mp h7 y hy)⟩
  · split at h1
    · assumption
    · cases h1
  · have z := List.all_eq_true.mp h6 x hx
    simpa using z
def rowB (G : Pg) (r : Rw) : Bool := fnScB r.df.N r.df.ps (defScope r.st) && ckSs G ⟨r.df.N, (defScope r.st).names, true, none⟩ r.df.body (defBody r.st)
/-- how a def's calls bind -/
def KbAll (r : Rw) : Prop := ∀ (K : PySem.W.Frag) (kV doc pm : Value) (an : Option Addr) (cdv ct : Value) (n : Nat) (ks : List Str), (n, ks) ∈ r.df.forms →
  KBn K (PySem.W.fnOf r.nm r.nm (defArgs r.st) (defBody r.st) (defScope r.st) .none kV doc pm an cdv ct) r.df.ps n ks (arr r.df.ps ks) (arr r.df.ps ks)
theorem kbn_mk {K : PySem.W.Frag} {fd : FuncData} {ps ks : List Str} {n : Nat} (h : ∀ us ws : List Value, us.length = n → ws.length = ks.length → bindArgs fd ⟨us, ks.zip ws⟩ = pure (ps.zip (arr ps ks us ws))) : KBn K fd ps n ks (arr ps ks) (arr ps ks) :=
  ⟨fun _ us ws _ h1 h2 => .of_eq (h us ws h1 h2), fun r z => arr_rel r z⟩
theorem lookup_rows {f : Str} {df : Df} : ∀ {rows : List Rw}, (rows.map fun r => (r.nm, r.df)).lookup f = some df → ∃ r ∈ rows, r.nm = f ∧ r.df = df
  | [], h => by cases h
  | r :: rs, h => by
    rw [List.map_cons, List.lookup_cons] at h
    by_cases e : f == r.nm
    · simp only [e] at h
      cases h
      exact ⟨r, List.mem_cons_self .., (eq_of_beq e).symm, rfl⟩
    · simp only [e] at h
      obtain ⟨r', h1, h2⟩ := lookup_rows h
      exact ⟨r', List.mem_cons_of_mem _ h1, h2⟩
theorem mem_of_lk {α : Type} {x : Str} {d : α} : ∀ {l : List (Str × α)}, l.lookup x = some d → (x, d) ∈ l
  | [], h => by cases h
  | (y, e) :: l, h => by
    rw [List.lookup_cons] at h
    by_cases q : x == y
    · simp only [q] at h
      cases h
      rw [eq_of_beq q]
      exact List.mem_cons_self ..
    · simp only [q] at h
      exact List.mem_cons_of_mem _ (mem_of_lk h)
theorem txt_of {G : Pg} {rows : List Rw} {cb : Str} {sI : Stmt} {P : Program} {w : World} {K : PySem.W.Frag} {mg : Str → Option Value} {base h : Heap} (hG : G.defs = rows.map fun r => (r.nm, r.df)) (hr : rows.all (rowB G) = true) (hk : ∀ r ∈ rows, KbAll r) (S : InitS sI)
    (X : K.In h) (Gn : h.Ns mainGlobals mg) (c : SaysV (exB G cb) (rows.map Rw.fn ++ [fnI cb sI]) K) : Txt G P w K mg base := by
  have m := c.more
  unfold exB at m
  obtain ⟨m1, m⟩ := ba m
  obtain ⟨mD, m⟩ := ba m
  obtain ⟨m2, m⟩ := ba m
  obtain ⟨m3, m⟩ := ba m
  obtain ⟨m4, m⟩ := ba m
  obtain ⟨m5, m⟩ := ba m
  obtain ⟨m6, m⟩ := ba m
  obtain ⟨m7, m⟩ := ba m
  obtain ⟨m8, m9⟩ := ba m
  have mV : mg "ValueError" = none := PySem.W.mg_none_of X Gn (eqO_ok m7)
  obtain ⟨oc, od, osl, kV, doc, pm, an, cdv, ct, l1, l2⟩ := c.def_ (d := fnI cb sI) (List.mem_append_right _ (List.mem_singleton.mpr rfl))
  have FI : Fun K "__init__" "FloorError.__init__" sI (ma K (ga K cb) "__init__") _ := fun_mk l1 l2 m9
  have hcls : ∀ c l, G.subs.lookup c = some l → mg c = some (.ref (ga K c)) ∧ ExF P w K mg base (ga K c) := fun c l e => clsB_ok X Gn (List.all_eq_true.mp m5 (c, l) (mem_of_lk e)) S mV FI (of_decide_eq_true m8)
  refine ⟨fun f df e => ?_, fun x d e => ?_, fun b hb => PySem.W.mg_none_of X Gn (eqO_ok (List.all_eq_true.mp m1 b hb)), fun x id e => PySem.W.mg_of X Gn (eqO_ok (List.all_eq_true.mp m2 (x, id) (mem_of_lk e))), fun c l e => ⟨_, hcls c l e⟩, fun c l h' C e1 e2 C' e3 ⟨l', e4⟩ => ?_, fun x kvs e => ?_⟩
  · have d4 := List.all_eq_true.mp m4 (f, df) (mem_of_lk e)
    rw [hG] at e
    obtain ⟨r, hm, rfl, rfl⟩ := lookup_rows e
    obtain ⟨g1, g2⟩ := ba d4
    obtain ⟨oc, od, osl, kV, doc, pm, an, cdv, ct, l1, l2⟩ := c.def_ (d := r.fn) (List.mem_append_left _ (List.mem_map_of_mem hm))
    obtain ⟨r1, r2⟩ := ba (List.all_eq_true.mp hr r hm)
    exact ⟨ga K r.nm, _, r.nm, r.st, PySem.W.mg_of X Gn (eqO_ok g1), fun_mk l1 l2 g2, fnSc_ok r1, r2, fun n ks hf => hk r hm K kV doc pm an cdv ct n ks hf⟩
  · have g := List.all_eq_true.mp m3 (x, d) (mem_of_lk e)
    unfold globB at g
    split at g
    · rename_i u eu
      obtain ⟨v, q1, q2⟩ := const_ok d u g
      exact ⟨u, v, PySem.W.mg_of X Gn eu, q1, q2⟩
    · cases g
  · have c1 := (hcls c l e1).1
    have c2 := (hcls h' l' e4).1
    have z1 := c1.symm.trans e2
    have z2 := c2.symm.trans e3
    cases z1
    cases z2
    exact of_decide_eq_true (List.all_eq_true.mp (List.all_eq_true.mp m6 (c, l) (mem_of_lk e1)) (h', l') (mem_of_lk e4))
  · obtain ⟨a, q1, q2⟩ := dict_ok (List.all_eq_true.mp mD (x, kvs) (mem_of_lk e))
    exact ⟨a, PySem.W.mg_of X Gn q1, q2⟩
/-! ### the law -/
def spLaw (K : PySem.W.Frag) : Sp := fun vs H Q _ => ∃ (a : Addr) (ns : List Int), vs = [.ref a] ∧ SqL K H a (ns.map V.int) ∧ ns.length ≤ 63 ∧ ∀ H', Q (.bl true) H'
theorem sim0 {K : PySem.W.Frag} {H : Hp} : Sim K ⟨[], []⟩ [] H := by
  refine ⟨rfl, ?_, ?_, ?_, ?_⟩
  · intro i j a z
    simp at z
  · intro i z
    simp at z
  · intro a z
    cases z
  · intro i l z
    simp at z
theorem lv0 {a : Addr} : ¬ Lv ⟨[], []⟩ a := fun z => by
  rcases z with z | z
  · cases z
  · cases z
theorem law_end {G : Pg} {rows : List Rw} {cb : Str} {sI : Stmt} {P : Program} {w : World} {K : PySem.W.Frag} {mg : Str → Option Value} {h : Heap} {n : Nat} {rL : Rw} {fa : Addr} (hG : G.defs = rows.map fun r => (r.nm, r.df)) (hr : rows.all (rowB G) = true) (hk : ∀ r ∈ rows, KbAll r) (S : InitS sI)
    (hm : rL ∈ rows) (hp : rL.df.ps = [("script" : Str)]) (hlk : G.defs.lookup rL.nm = some rL.df)
    (hb : ∀ (kV doc pm : Value) (an : Option Addr) (cdv ct u : Value), bindArgs (PySem.W.fnOf rL.nm rL.nm (defArgs rL.st) (defBody rL.st) (defScope rL.st) .none kV doc pm an cdv ct) ⟨[u], []⟩ = pure [(("script" : Str), u)])
    (hl : ∀ ns : List Int, ns.length ≤ 63 → ∃ wl S', callN G wl (n + 1) rL.nm [.s ns] [] = .ok (.v (.bool true)) S')
    (X : K.In h) (Gn : h.Ns mainGlobals mg) (hfa : mg rL.nm = some (.ref fa)) (c : SaysV (exB G cb) (rows.map Rw.fn ++ [fnI cb sI]) K) :
    ∃ fd : FuncData, (∀ (s : Shared) (u : Value), BindsTo s fd ⟨[u], []⟩ [(("script" : Str), u)]) ∧ ∀ base : Heap, K.In base → base.Ns mainGlobals mg → FnOk P w K mg base (L2.CX P w) (n + 3) fa fd [("script" : Str)] (spLaw K) := by
  have m := c.more
  unfold exB at m
  obtain ⟨m1, m⟩ := ba m
  obtain ⟨mD, m⟩ := ba m
  obtain ⟨m2, m⟩ := ba m
  obtain ⟨m3, m⟩ := ba m
  obtain ⟨m4, m⟩ := ba m
  obtain ⟨g1, g2⟩ := ba (List.all_eq_true.mp m4 (rL.nm, rL.df) (mem_of_lk hlk))
  have e := hfa.symm.trans (PySem.W.mg_of X Gn (eqO_ok g1))
  cases e
  obtain ⟨oc, od, osl, kV, doc, pm, an, cdv, ct, l1, l2⟩ := c.def_ (d := rL.fn) (List.mem_append_left _ (List.mem_map_of_mem hm))
  obtain ⟨r1, r2⟩ := ba (List.all_eq_true.mp hr rL hm)
  have F : Fun K rL.nm rL.nm rL.st (ga K rL.nm) (PySem.W.fnOf rL.nm rL.nm (defArgs rL.st) (defBody rL.st) (defScope rL.st) .none kV doc pm an cdv ct) := fun_mk l1 l2 g2
  refine ⟨_, fun s u => .of_eq (hb kV doc pm an cdv ct u), fun base _ _ => ⟨fun vs H Q E h => ?_, fun A outer s H args us vs Q E hro e0 hbi r hh => ?_⟩⟩
  · obtain ⟨_, _, rfl, _⟩ := h
    rfl
  · obtain ⟨p, ns, rfl, hq, hlen, k⟩ := hh
    obtain ⟨wl, S', ec⟩ := hl ns hlen
    have T : Txt G P w K mg base := txt_of hG hr hk S X Gn c
    have F2 := df_ok (wl := wl) (fct_of (wl := wl) T n) F (fnSc_ok r1) r2
    refine F2.run A outer s H args us [.ref p] Q E hro e0 (by rw [hp]; exact hbi) r ⟨by rw [hp]; rfl, ⟨[], []⟩, [], [.s ns], sim0, .cons ⟨p, rfl, ?_⟩ .nil, ?_⟩
    · rcases hq with z | z
      · exact .inl ⟨lv0, z⟩
      · exact .inr z
    · have e2 : runDf G (callN G wl n) wl rL.df [.s ns] [] = .ok (.v (.bool true)) S' := by
        unfold callN at ec
        simp only [hlk] at ec
        exact ec
      show PQ K mg (RV K none) ⟨[], []⟩ H (runDf G (callN G wl n) wl rL.df [.s ns] []) Q E
      rw [e2]
      intro m' H' b _ _ rv
      cases (show b = V.bl true from rv)
      exact k H'
/-! ### a world, by what one of its settings says (a display of a dict at the top asks it) -/
def wB (w : World) (b : Bool) : World := { w with params := { w.params with followText := fun row => match decide (row = "special-get-raises") with | true => b | false => w.params.followText row } }
theorem wB_eq (w : World) : wB w (w.params.followText "special-get-raises") = w := by
  have e : (fun row => match decide (row = "special-get-raises") with | true => w.params.followText "special-get-raises" | false => w.params.followText row) = w.params.followText := funext fun row => by
    by_cases h : row = "special-get-raises"
    · rw [decide_eq_true h, h]
    · rw [decide_eq_false h]
  unfold wB
  rw [e]
end EV

set_option Elab.async false
set_option linter.all false
set_option maxRecDepth 100000
set_option maxHeartbeats 8000000
/-! EV, part 20: the end. -/
namespace EV
open PySem PySem.Spec PyProof.Rows L2 He
/-- as walk_ofE, CX by the world -/
theorem walk_ofW {l : PySem.W.OpenLaw} {n k : Nat} {q : Program} {loose : List Str} {XP : (Str → Option Value) → Heap → Prop} {YP : World → Heap → Prop} {d : DefRec} {CX : World → CXT} {x : Str}
    (hn : l.most = some n) (hn2 : n ≤ sizeLine) (hdf : d.params.defaults = []) (hr : Room k callerA)
    (F : ∀ (w : World) (mg : Str → Option Value) (fa : Addr) (h : Heap), YP w h → h.Ns mainGlobals mg → mg d.name = some (.ref fa) →
      ∃ (K : PySem.W.Frag) (fd : FuncData) (sp : Sp), K.In h ∧ (∀ (s : Shared) (u : Value), BindsTo s fd ⟨[u], []⟩ [(x, u)]) ∧
        (∀ (H : Hp) (a : Addr) (ns : List Int), ns.length ≤ n → Only H → SqL K H a (ns.map V.int) → sp [.ref a] H (fun v _ => v = .bl true) fun _ _ _ => False) ∧
        ∀ base : Heap, K.In base → base.Ns mainGlobals mg → FnOk l.prog w K mg base (CX w) k fa fd [x] sp)
    (hCX : ∀ (w : World) (H : Hp) (s : Shared) (e : Value) (s' : Shared), CX w [] H s (fun _ _ _ => False) e s' → False) :
    PySem.W.WalkO q loose XP YP l.row.toRowW d [] (fun f vs => PySem.call f vs) := by
  refine Att.attach_call hn hdf fun w s₀ s₁ mg mb fa o pm cd doc a vs ns G Y ho hd hcd hmg hobj hints hlen hg => ?_
  obtain ⟨K, fd, sp, KX, hb, hsp, hF⟩ := F w mg fa _ Y G.T.g hmg
  exact law_call KX G.T.g G.T.b G.T.builtins G.T.nolimit hg hobj hints (Nat.le_trans hlen hn2) hr hF hb (fun H hO hS => hsp H a ns hlen hO hS) fun H e s' => hCX w H s₁ e s'
theorem cx_no {P : Program} {w : World} {H : Hp} {s : Shared} {e : Value} {s' : Shared} (h : L2.CX P w [] H s (fun _ _ _ => False) e s') : False := by
  obtain ⟨_, _, _, _, _, _, _, _, _, _, _, _, z⟩ := h
  exact z.elim
theorem walk_end {l : PySem.W.OpenLaw} {G : Pg} {rows : List Rw} {cb : Str} {sI : Stmt} {n : Nat} {q : Program} {loose : List Str} {XP : (Str → Option Value) → Heap → Prop} {d : DefRec} {rL : Rw}
    (hn : l.most = some 63) (hdf : d.params.defaults = []) (hd : d.name = rL.nm) (hrm : Room (n + 3) callerA) (hG : G.defs = rows.map fun r => (r.nm, r.df)) (hr : rows.all (rowB G) = true) (hk : ∀ r ∈ rows, KbAll r) (S : InitS sI)
    (hm : rL ∈ rows) (hp : rL.df.ps = [("script" : Str)]) (hlk : G.defs.lookup rL.nm = some rL.df)
    (hb : ∀ (kV doc pm : Value) (an : Option Addr) (cdv ct u : Value), bindArgs (PySem.W.fnOf rL.nm rL.nm (defArgs rL.st) (defBody rL.st) (defScope rL.st) .none kV doc pm an cdv ct) ⟨[u], []⟩ = pure [(("script" : Str), u)])
    (hl : ∀ ns : List Int, ns.length ≤ 63 → ∃ wl S', callN G wl (n + 1) rL.nm [.s ns] [] = .ok (.v (.bool true)) S') :
    PySem.W.WalkO q loose XP (hookV (exB G cb) (rows.map Rw.fn ++ [fnI cb sI])).says l.row.toRowW d [] (fun f vs => PySem.call f vs) := by
  refine walk_ofW (n := 63) (k := n + 3) (x := "script") (CX := fun w => L2.CX l.prog w) hn (by decide) hdf hrm (fun w mg fa h Y Gn hmg => ?_) fun _ _ _ _ _ z => cx_no z
  obtain ⟨K, KX, c⟩ := Y
  rw [hd] at hmg
  obtain ⟨fd, h1, h2⟩ := law_end (P := l.prog) (w := w) hG hr hk S hm hp hlk hb hl KX Gn hmg c
  exact ⟨K, fd, spLaw K, KX, h1, fun H a ns hlen _ hS => ⟨a, ns, rfl, hS, hlen, fun _ => rfl⟩, h2⟩
end EV

set_option Elab.async false
set_option linter.all false
set_option maxRecDepth 100000
set_option maxHeartbeats 8000000
/-! EV, part 21: what a result keeps: the calculus for laws. -/
namespace EV
open PySem PySem.Spec PyProof.Rows L2
abbrev EK := Str → D → Sto → Prop
def W {α : Type} (x : Res α) (Q : α → Sto → Prop) (E : EK) : Prop := match x with
  | .ok a S => Q a S
  | .ex c d S => E c d S
  | .no => False
def WS (x : ResS) (Q : Fl → Rho → Sto → Prop) (E : Str → D → Rho → Sto → Prop) : Prop := match x with
  | .ok f ρ S => Q f ρ S
  | .ex c d ρ S => E c d ρ S
  | .no => False
section
variable {α β : Type} {Q : α → Sto → Prop} {E : EK} {S : Sto}
theorem W_ok {a : α} : W (.ok a S) Q E = Q a S := Eq.trans (Eq.refl _) rfl
theorem W_ex {c : Str} {d : D} : W (.ex c d S : Res α) Q E = E c d S := Eq.trans (Eq.refl _) rfl
theorem W_bind {x : Res β} {f : β → Sto → Res α} : W (x.bind f) Q E = W x (fun a S => W (f a S) Q E) E := by cases x <;> rfl
theorem W_mono {x : Res α} {Q' : α → Sto → Prop} (h : W x Q E) (k : ∀ a S, Q a S → Q' a S) : W x Q' E := by
  cases x with
  | ok a S => exact k a S h
  | ex c d S => exact h
  | no => exact h
theorem W_eq {x : Res α} {a : α} (h : W x (fun b S' => b = a ∧ S' = S) (fun _ _ _ => False)) : x = .ok a S := by
  cases x with
  | ok b S' => obtain ⟨rfl, rfl⟩ := h; rfl
  | ex c d S => exact h.elim
  | no => exact h.elim
theorem W_get {x : Res α} (h : W x Q (fun _ _ _ => False)) : ∃ a S', x = .ok a S' ∧ Q a S' := by
  cases x with
  | ok b S' => exact ⟨b, S', rfl, h⟩
  | ex c d S => exact h.elim
  | no => exact h.elim
theorem W_of {x : Res α} {a : α} {S' : Sto} (h : x = .ok a S') (q : Q a S') : W x Q E := by
  rw [h]
  exact q
theorem W_ofx {x : Res α} {c : Str} {d : D} {S' : Sto} (h : x = .ex c d S') (q : E c d S') : W x Q E := by
  rw [h]
  exact q
end
section
variable {QS : Fl → Rho → Sto → Prop} {ES : Str → D → Rho → Sto → Prop} {ρ : Rho} {S : Sto} {α : Type}
theorem WS_ok {f : Fl} : WS (.ok f ρ S) QS ES = QS f ρ S := Eq.trans (Eq.refl _) rfl
theorem WS_ex {c : Str} {d : D} : WS (.ex c d ρ S) QS ES = ES c d ρ S := Eq.trans (Eq.refl _) rfl
theorem WS_st {x : Res α} {f : α → Sto → ResS} : WS (x.st ρ f) QS ES = W x (fun a S => WS (f a S) QS ES) (fun c d S => ES c d ρ S) := by cases x <;> rfl
/-- behind a statement -/
def NX (f : Rho → Sto → ResS) (QS : Fl → Rho → Sto → Prop) (ES : Str → D → Rho → Sto → Prop) : Fl → Rho → Sto → Prop
  | .nx, ρ, S => WS (f ρ S) QS ES
  | fl, ρ, S => QS fl ρ S
theorem NX_nx {f : Rho → Sto → ResS} : NX f QS ES .nx ρ S = WS (f ρ S) QS ES := Eq.trans (Eq.refl _) rfl
theorem NX_rt {f : Rho → Sto → ResS} {r : R} : NX f QS ES (.rt r) ρ S = QS (.rt r) ρ S := Eq.trans (Eq.refl _) rfl
theorem NX_bk {f : Rho → Sto → ResS} : NX f QS ES .bk ρ S = QS .bk ρ S := Eq.trans (Eq.refl _) rfl
theorem NX_ct {f : Rho → Sto → ResS} : NX f QS ES .ct ρ S = QS .ct ρ S := Eq.trans (Eq.refl _) rfl
theorem WS_next {x : ResS} {f : Rho → Sto → ResS} : WS (x.next f) QS ES = WS x (NX f QS ES) ES := by
  cases x with
  | ok fl ρ S => cases fl <;> rfl
  | ex c d ρ S => rfl
  | no => rfl
/-- behind a loop's turn -/
def TN (f : Rho → Sto → ResS) (QS : Fl → Rho → Sto → Prop) (ES : Str → D → Rho → Sto → Prop) : Fl → Rho → Sto → Prop
  | .nx, ρ, S => WS (f ρ S) QS ES
  | .ct, ρ, S => WS (f ρ S) QS ES
  | .bk, ρ, S => QS .nx ρ S
  | .rt r, ρ, S => QS (.rt r) ρ S
theorem TN_nx {f : Rho → Sto → ResS} : TN f QS ES .nx ρ S = WS (f ρ S) QS ES := Eq.trans (Eq.refl _) rfl
theorem TN_rt {f : Rho → Sto → ResS} {r : R} : TN f QS ES (.rt r) ρ S = QS (.rt r) ρ S := Eq.trans (Eq.refl _) rfl
theorem TN_bk {f : Rho → Sto → ResS} : TN f QS ES .bk ρ S = QS .nx ρ S := Eq.trans (Eq.refl _) rfl
theorem TN_ct {f : Rho → Sto → ResS} : TN f QS ES .ct ρ S = WS (f ρ S) QS ES := Eq.trans (Eq.refl _) rfl
theorem WS_turn {x : ResS} {f : Rho → Sto → ResS} : WS (x.turn f) QS ES = WS x (TN f QS ES) ES := by
  cases x with
  | ok fl ρ S => cases fl <;> rfl
  | ex c d ρ S => rfl
  | no => rfl
theorem WS_mono {x : ResS} {QS' : Fl → Rho → Sto → Prop} (h : WS x QS ES) (k : ∀ f ρ S, QS f ρ S → QS' f ρ S) : WS x QS' ES := by
  cases x with
  | ok f ρ S => exact k f ρ S h
  | ex c d ρ S => exact h
  | no => exact h
theorem WS_if {c : Prop} [Decidable c] {A B : ResS} : WS (if c then A else B) QS ES = ((c → WS A QS ES) ∧ (¬ c → WS B QS ES)) := by
  by_cases h : c
  · rw [if_pos h]
    exact propext ⟨fun z => ⟨fun _ => z, fun n => absurd h n⟩, fun z => z.1 h⟩
  · rw [if_neg h]
    exact propext ⟨fun z => ⟨fun n => absurd n h, fun _ => z⟩, fun z => z.2 h⟩
theorem W_if {c : Prop} [Decidable c] {A B : Res α} {Q : α → Sto → Prop} {E : EK} : W (if c then A else B) Q E = ((c → W A Q E) ∧ (¬ c → W B Q E)) := by
  by_cases h : c
  · rw [if_pos h]
    exact propext ⟨fun z => ⟨fun _ => z, fun n => absurd h n⟩, fun z => z.1 h⟩
  · rw [if_neg h]
    exact propext ⟨fun z => ⟨fun n => absurd n h, fun _ => z⟩, fun z => z.2 h⟩
end
/-! ### expressions -/
section
variable {G : Pg} {call : Str → List R → Sto → Res R} {wl : Nat} {ρ : Rho} {S : Sto} {Q : R → Sto → Prop} {E : EK}
def at_ (ρ : Rho) (i : Nat) (S : Sto) : Res R := match ρ[i]? with
  | some (some r) => .ok r S
  | _ => .no
theorem w_loc {i : Nat} : W (evE G call (.loc i) ρ S) Q E = W (at_ ρ i S) Q E := by
  unfold evE at_
  rfl
theorem w_at0 {r : R} {ρ : Rho} : W (at_ (some r :: ρ) 0 S) Q E = Q r S := Eq.trans (Eq.refl _) rfl
theorem w_atS {x : Option R} {ρ : Rho} {i : Nat} : W (at_ (x :: ρ) (i + 1) S) Q E = W (at_ ρ i S) Q E := by
  unfold at_
  rw [List.getElem?_cons_succ]
theorem w_lit {d : D} : W (evE G call (.lit d) ρ S) Q E = Q (.v d) S := by
  unfold evE
  rfl
theorem w_gl {x : Str} {d : D} (h : G.glob.lookup x = some d) : W (evE G call (.gl x) ρ S) Q E = Q (.v d) S := by
  unfold evE
  simp only [h]
  rfl
theorem w_op {o : Operator} {a b : Ex} : W (evE G call (.op o a b) ρ S) Q E = W (evE G call a ρ S) (fun x S1 => W (evE G call b ρ S1) (fun y S2 => W (opR o x y S2) Q E) E) E := by
  rw [evE]
  simp only [W_bind]
def negR (x : R) (S : Sto) : Res R := match x with
  | .v (.int i) => .ok (.v (.int (-i))) S
  | _ => .no
theorem w_neg {a : Ex} : W (evE G call (.neg a) ρ S) Q E = W (evE G call a ρ S) (fun x S1 => W (negR x S1) Q E) E := by
  rw [evE, W_bind]
  rfl
theorem w_negR {i : Int} : W (negR (.v (.int i)) S) Q E = Q (.v (.int (-i))) S := Eq.trans (Eq.refl _) rfl
theorem w_not {a : Ex} : W (evE G call (.not a) ρ S) Q E = W (evE G call a ρ S) (fun x S1 => W (truthR x S1) (fun k S2 => Q (.v (.bool (!k))) S2) E) E := by
  rw [evE]
  simp only [W_bind, W_ok]
theorem w_cmp {o : CmpOp} {a b : Ex} : W (evE G call (.cmp o a b) ρ S) Q E = W (evE G call a ρ S) (fun x S1 => W (evE G call b ρ S1) (fun y S2 => W (cmpR o x y S2) Q E) E) E := by
  rw [evE]
  simp only [W_bind]
theorem w_ite {c a b : Ex} : W (evE G call (.ite c a b) ρ S) Q E = W (evT G call c ρ S) (fun k S1 => (k = true → W (evE G call a ρ S1) Q E) ∧ (k = false → W (evE G call b ρ S1) Q E)) E := by
  rw [evE, W_bind]
  simp only [W_if, Bool.not_eq_true]
  rfl
theorem w_evT {c : Ex} {Q : Bool → Sto → Prop} : W (evT G call c ρ S) Q E = W (evE G call c ρ S) (fun x S1 => W (truthR x S1) Q E) E := by
  unfold evT
  rw [W_bind]
def tupR (rs : List R) (S : Sto) : Res R := match toDs rs S with
  | some (ds, S2) => if ds.length ≤ sizeLine then .ok (.v (.tuple ds)) S2 else .no
  | none => .no
theorem w_tup {es : Exs} : W (evE G call (.tup es) ρ S) Q E = W (evEs G call es ρ S) (fun rs S1 => W (tupR rs S1) Q E) E := by
  rw [evE, W_bind]
  rfl
def lstR (mu : Bool) (rs : List R) (S : Sto) : Res R := match toDs rs S with
  | some (ds, S2) => newL mu ds S2
  | none => .no
theorem w_lst {mu : Bool} {es : Exs} : W (evE G call (.lst mu es) ρ S) Q E = W (evEs G call es ρ S) (fun rs S1 => W (lstR mu rs S1) Q E) E := by
  rw [evE, W_bind]
  rfl
theorem w_ix {a i : Ex} : W (evE G call (.ix a i) ρ S) Q E = W (evE G call a ρ S) (fun x S1 => W (evE G call i ρ S1) (fun y S2 => W (ixR x y S2) Q E) E) E := by
  rw [evE]
  simp only [W_bind]
theorem w_bi {b : String} {es : Exs} : W (evE G call (.bi b es) ρ S) Q E = W (evEs G call es ρ S) (fun rs S1 => W (biR b rs S1) Q E) E := by
  rw [evE, W_bind]
def isiR (x : R) (tys : List String) (S : Sto) : Res R := match (rdD S x).bind tyD with
  | some t => match isiD t tys with
    | some k => .ok (.v (.bool k)) S
    | none => .no
  | none => .no
theorem w_isi {a : Ex} {tu : Bool} {tys : List String} : W (evE G call (.isi a tu tys) ρ S) Q E = W (evE G call a ρ S) (fun x S1 => W (isiR x tys S1) Q E) E := by
  rw [evE, W_bind]
  rfl
theorem w_rev {a : Ex} : W (evE G call (.rev a) ρ S) Q E = W (evE G call a ρ S) (fun x S1 => W (revR x S1) Q E) E := by
  rw [evE, W_bind]
theorem w_bop {o : BoolOp} {es : Exs} : W (evE G call (.bop o es) ρ S) Q E = W (evB G call o es ρ S) Q E := by
  rw [evE]
theorem w_b1 {o : BoolOp} {e : Ex} : W (evB G call o (.cons e .nil) ρ S) Q E = W (evE G call e ρ S) Q E := by
  rw [evB]
theorem w_b2 {o : BoolOp} {e e2 : Ex} {es : Exs} : W (evB G call o (.cons e (.cons e2 es)) ρ S) Q E = W (evE G call e ρ S) (fun x S1 => W (truthR x S1) (fun k S2 => (k = goB o → W (evB G call o (.cons e2 es) ρ S2) Q E) ∧ (¬ k = goB o → Q x S2)) E) E := by
  rw [evB]
  simp only [W_bind, W_if, W_ok]
def fldR (x : R) (f : Str) (S : Sto) : Res R := match x with
  | .x _ d => if f = "value" then .ok (.v d) S else .no
  | _ => .no
theorem w_fld {a : Ex} {f : Str} : W (evE G call (.fld a f) ρ S) Q E = W (evE G call a ρ S) (fun x S1 => W (fldR x f S1) Q E) E := by
  rw [evE, W_bind]
  rfl
theorem w_fldR {c : Str} {d : D} : W (fldR (.x c d) "value" S) Q E = Q (.v d) S := by
  unfold fldR
  simp only [if_true]
  rfl
theorem w_lc {mu : Bool} {own : List (Str × Nat)} {p : Pt} {it : Itx} {c : Exo} {e : Ex} : W (evE G call (.lc mu own p it c e) ρ S) Q E =
    W (evI G call it ρ S) (fun ds S1 => W (lcLoop (lcBody (evC G call c) (evE G call e)) p (wipeR ρ (own.map (·.2))) ds [] S1) (fun l S4 => W (newL mu l S4) Q E) E) E := by
  rw [evE]
  simp only [W_bind]
def callR (G : Pg) (call : Str → List R → Sto → Res R) (f : Str) (ks : List Str) (rs zs : List R) (S : Sto) : Res R := match G.defs.lookup f with
  | some df => if (rs.length, ks) ∈ df.forms ∧ zs.length = ks.length ∧ (arr df.ps ks rs zs).all okR = true ∧ (arr df.ps ks rs zs).length = df.ps.length then call f (arr df.ps ks rs zs) S else .no
  | none => .no
theorem w_call {f : Str} {es kes : Exs} {ks : List Str} : W (evE G call (.call f es ks kes) ρ S) Q E = W (evEs G call es ρ S) (fun rs S1 => W (evEs G call kes ρ S1) (fun zs S2 => W (callR G call f ks rs zs S2) Q E) E) E := by
  rw [evE]
  simp only [W_bind]
  rfl
theorem w_callR {f : Str} {ks : List Str} {rs zs : List R} {df : Df} (h : G.defs.lookup f = some df) (h1 : ((rs.length, ks) ∈ df.forms ∧ zs.length = ks.length) ∧ (arr df.ps ks rs zs).all okR = true ∧ (arr df.ps ks rs zs).length = df.ps.length) : callR G call f ks rs zs S = call f (arr df.ps ks rs zs) S := by
  unfold callR
  simp only [h]
  rw [if_pos ⟨h1.1.1, h1.1.2, h1.2.1, h1.2.2⟩]
theorem w_mth {m : String} {o : Ex} {es : Exs} : W (evE G call (.mth m o es) ρ S) Q E = W (evE G call o ρ S) (fun x S1 => recvOk m x S1 = true ∧ W (evEs G call es ρ S1) (fun rs S2 => W (mthR m x rs S2) Q E) E) E := by
  rw [evE, W_bind]
  have e : ∀ (c : Prop) [Decidable c] (A : Res R), W (if c then A else .no) Q E = (c ∧ W A Q E) := fun c _ A => by
    by_cases h : c
    · rw [if_pos h]
      exact propext ⟨fun z => ⟨h, z⟩, fun z => z.2⟩
    · rw [if_neg h]
      exact propext ⟨fun z => z.elim, fun z => absurd z.1 h⟩
  simp only [e, W_bind]
theorem w_enil {Q : List R → Sto → Prop} : W (evEs G call .nil ρ S) Q E = Q [] S := by
  rw [evEs]
  rfl
theorem w_econs {e : Ex} {es : Exs} {Q : List R → Sto → Prop} : W (evEs G call (.cons e es) ρ S) Q E = W (evE G call e ρ S) (fun r S1 => W (evEs G call es ρ S1) (fun rs S2 => Q (r :: rs) S2) E) E := by
  rw [evEs]
  simp only [W_bind, W_ok]
theorem w_ono {Q : Option Int → Sto → Prop} : W (evO G call .no ρ S) Q E = Q none S := by
  rw [evO]
  rfl
def intO (r : R) (S : Sto) : Res (Option Int) := match r with
  | .v (.int i) => .ok (some i) S
  | _ => .no
theorem w_oso {e : Ex} {Q : Option Int → Sto → Prop} : W (evO G call (.so e) ρ S) Q E = W (evE G call e ρ S) (fun r S1 => W (intO r S1) Q E) E := by
  rw [evO, W_bind]
  rfl
theorem w_intO {i : Int} {Q : Option Int → Sto → Prop} : W (intO (.v (.int i)) S) Q E = Q (some i) S := Eq.trans (Eq.refl _) rfl
theorem w_slc {a : Ex} {lo hi : Exo} : W (evE G call (.slc a lo hi) ρ S) Q E = W (evE G call a ρ S) (fun x S1 => W (evO G call lo ρ S1) (fun l S2 => W (evO G call hi ρ S2) (fun h S3 => W (slcR x l h S3) Q E) E) E) E := by
  rw [evE]
  simp only [W_bind]
def dixR (ks : List L2.Key) (ds : List D) (y : R) (S : Sto) : Res R := match y with
  | .v (.int k) => resD S (lookK (ks.zip ds) (.inl k))
  | .v (.str k) => resD S (lookK (ks.zip ds) (.inr k))
  | _ => .no
def dsR (rs : List R) (S : Sto) : Res (List D) := match toDs rs S with
  | some (ds, S2) => .ok ds S2
  | none => .no
theorem w_dix {ks : List L2.Key} {vs : Exs} {i : Ex} : W (evE G call (.dix ks vs i) ρ S) Q E = W (evEs G call vs ρ S) (fun rs S1 => W (dsR rs S1) (fun ds S2 => W (evE G call i ρ S2) (fun y S3 => W (dixR ks ds y S3) Q E) E) E) E := by
  rw [evE]
  simp only [W_bind]
  congr 1
  funext rs S1
  unfold dsR
  cases toDs rs S1 with
  | none => rfl
  | some p =>
    simp only [W_bind, W_ok]
    rfl
def gixR (kvs : List (Int × D)) (y : R) (S : Sto) : Res R := match y with
  | .v (.int k) => resD S (kvs.lookup k)
  | _ => .no
theorem w_gix {x : Str} {i : Ex} {kvs : List (Int × D)} (h : G.dict.lookup x = some kvs) : W (evE G call (.gix x i) ρ S) Q E = W (evE G call i ρ S) (fun y S1 => W (gixR kvs y S1) Q E) E := by
  rw [evE]
  simp only [W_bind, h]
  congr 1
  funext y S1
  unfold gixR
  cases y with
  | v d => cases d <;> rfl
  | _ => rfl
theorem w_cno {Q : Bool → Sto → Prop} : W (evC G call .no ρ S) Q E = Q true S := by
  rw [evC]
  rfl
theorem w_cso {e : Ex} {Q : Bool → Sto → Prop} : W (evC G call (.so e) ρ S) Q E = W (evE G call e ρ S) (fun r S1 => W (truthR r S1) Q E) E := by
  rw [evC, W_bind]
end
/-! ### operations -/
section
variable {S : Sto} {Q : R → Sto → Prop} {E : EK} {a b : Int}
theorem o_add : W (opR .Add (.v (.int a)) (.v (.int b)) S) Q E = Q (.v (.int (a + b))) S := Eq.trans (Eq.refl _) rfl
theorem o_sub : W (opR .Sub (.v (.int a)) (.v (.int b)) S) Q E = Q (.v (.int (a - b))) S := Eq.trans (Eq.refl _) rfl
theorem o_mul : W (opR .Mult (.v (.int a)) (.v (.int b)) S) Q E = (mulOk a b = true ∧ Q (.v (.int (a * b))) S) := by
  by_cases h : mulOk a b = true
  · simp [opR, rdX, opD, h, resD, W]
  · simp [opR, rdX, opD, h, resD, W]
theorem o_div : W (opR .FloorDiv (.v (.int a)) (.v (.int b)) S) Q E = (divOk a b = true ∧ Q (.v (.int (a.fdiv b))) S) := by
  by_cases h : divOk a b = true
  · simp [opR, rdX, opD, h, resD, W]
  · simp [opR, rdX, opD, h, resD, W]
theorem div_ok (h : b ≠ 0) (h' : b.natAbs.log2 < 9000) : divOk a b = true := by
  simp [divOk, h, h']
theorem div_ok2 (h : b ≠ 0) (h' : a.natAbs.log2 < b.natAbs.log2 + 4400) : divOk a b = true := by
  simp [divOk, h, h']
theorem o_mod : W (opR .Mod (.v (.int a)) (.v (.int b)) S) Q E = (b ≠ 0 ∧ Q (.v (.int (a.fmod b))) S) := by
  by_cases h : b ≠ 0
  · simp only [opR, rdX, opD, if_pos h, resD, W]
    exact propext ⟨fun z => ⟨h, z⟩, fun z => z.2⟩
  · simp only [opR, rdX, opD, if_neg h, resD, W]
    exact propext ⟨fun z => z.elim, fun z => h z.1⟩
theorem o_lt : W (cmpR .Lt (.v (.int a)) (.v (.int b)) S) Q E = Q (.v (.bool (decide (a < b)))) S := Eq.trans (Eq.refl _) rfl
theorem o_le : W (cmpR .LtE (.v (.int a)) (.v (.int b)) S) Q E = Q (.v (.bool (decide (a ≤ b)))) S := Eq.trans (Eq.refl _) rfl
theorem o_gt : W (cmpR .Gt (.v (.int a)) (.v (.int b)) S) Q E = Q (.v (.bool (decide (b < a)))) S := Eq.trans (Eq.refl _) rfl
theorem o_ge : W (cmpR .GtE (.v (.int a)) (.v (.int b)) S) Q E = Q (.v (.bool (decide (b ≤ a)))) S := Eq.trans (Eq.refl _) rfl
theorem shaped_int {i : Int} : SeqAt.shaped (.int i) = true := rfl
theorem cmp_eq {x y : R} {d e : D} (h1 : rdD S x = some d) (h2 : rdD S y = some e) (s1 : SeqAt.shaped d = true) (s2 : SeqAt.shaped e = true) : W (cmpR .Eq x y S) Q E = Q (.v (.bool (PyData.eqv d e))) S := by
  simp only [cmpR, h1, h2, cmpD, if_pos (And.intro s1 s2)]
  rfl
theorem cmp_ne {x y : R} {d e : D} (h1 : rdD S x = some d) (h2 : rdD S y = some e) (s1 : SeqAt.shaped d = true) (s2 : SeqAt.shaped e = true) : W (cmpR .NotEq x y S) Q E = Q (.v (.bool (!PyData.eqv d e))) S := by
  simp only [cmpR, h1, h2, cmpD, if_pos (And.intro s1 s2)]
  rfl
theorem eqv_int : PyData.eqv (.int a) (.int b) = decide (a = b) := by
  show (a == b) = decide (a = b)
  by_cases h : a = b <;> simp [h]
theorem o_eq : W (cmpR .Eq (.v (.int a)) (.v (.int b)) S) Q E = Q (.v (.bool (decide (a = b)))) S := by
  rw [cmp_eq rfl rfl shaped_int shaped_int, eqv_int]
theorem o_ne : W (cmpR .NotEq (.v (.int a)) (.v (.int b)) S) Q E = Q (.v (.bool (!decide (a = b)))) S := by
  rw [cmp_ne rfl rfl shaped_int shaped_int, eqv_int]
theorem o_tb {Q : Bool → Sto → Prop} {k : Bool} : W (truthR (.v (.bool k)) S) Q E = Q k S := Eq.trans (Eq.refl _) rfl
theorem o_ti {Q : Bool → Sto → Prop} : W (truthR (.v (.int a)) S) Q E = Q (a != 0) S := Eq.trans (Eq.refl _) rfl
end
end EV

set_option Elab.async false
set_option linter.all false
set_option maxRecDepth 100000
set_option maxHeartbeats 8000000
/-! EV, part 22: the calculus: statements, calls. -/
namespace EV
open PySem PySem.Spec PyProof.Rows L2
section
variable {G : Pg} {call : Str → List R → Sto → Res R} {wl : Nat} {ρ : Rho} {S : Sto} {QS : Fl → Rho → Sto → Prop} {ES : Str → D → Rho → Sto → Prop}
theorem s_nil : WS (evSs G call wl .nil ρ S) QS ES = QS .nx ρ S := by
  rw [evSs]
  rfl
theorem s_cons {t : T} {ts : Ts} : WS (evSs G call wl (.cons t ts) ρ S) QS ES = WS (evS G call wl t ρ S) (NX (fun ρ S => evSs G call wl ts ρ S) QS ES) ES := by
  rw [evSs, WS_next]
theorem s_asgN {i : Nat} {e : Ex} : WS (evS G call wl (.asg (.nm i) e) ρ S) QS ES = W (evE G call e ρ S) (fun r S1 => QS .nx (ρ.set i (some r)) S1) (fun c d S => ES c d ρ S) := by
  rw [evS, WS_st]
  rfl
def bndR (p : Pt) (r : R) (ρ : Rho) (S : Sto) : ResS := match bindR p r ρ S with
  | some (ρ1, S2) => .ok .nx ρ1 S2
  | none => .no
theorem s_asgT {ps : Pts} {e : Ex} : WS (evS G call wl (.asg (.tp ps) e) ρ S) QS ES = W (evE G call e ρ S) (fun r S1 => WS (bndR (.tp ps) r ρ S1) QS ES) (fun c d S => ES c d ρ S) := by
  rw [evS, WS_st]
  rfl
theorem bnd_v {ps : Pts} {d : D} {ρ' : Rho} (h : bindP (.tp ps) d ρ = some ρ') : WS (bndR (.tp ps) (.v d) ρ S) QS ES = QS .nx ρ' S := by
  simp only [bndR, bindR, toD, h, Option.map_some]
  rfl
theorem s_par2 {i j : Nat} {a b : Ex} : WS (evS G call wl (.par2 i j a b) ρ S) QS ES = W (evE G call a ρ S) (fun x S1 => W (evE G call b ρ S1) (fun y S2 => QS .nx ((ρ.set i (some x)).set j (some y)) S2) (fun c d S => ES c d ρ S)) (fun c d S => ES c d ρ S) := by
  rw [evS]
  simp only [WS_st]
  rfl
theorem s_par3 {i j k : Nat} {a b c : Ex} : WS (evS G call wl (.par3 i j k a b c) ρ S) QS ES = W (evE G call a ρ S) (fun x S1 => W (evE G call b ρ S1) (fun y S2 => W (evE G call c ρ S2) (fun z S3 => QS .nx (((ρ.set i (some x)).set j (some y)).set k (some z)) S3) (fun c d S => ES c d ρ S)) (fun c d S => ES c d ρ S)) (fun c d S => ES c d ρ S) := by
  rw [evS]
  simp only [WS_st]
  rfl
def setR (x y : R) (d : D) (ρ : Rho) (S4 : Sto) : ResS := match x, y with
  | .r j, .v (.int k) => match S4[j]? with
    | some (some l) => match ixN l.length k with
      | some n => .ok .nx ρ (S4.set j (some (l.set n d)))
      | none => .no
    | _ => .no
  | _, _ => .no
def TD (r : R) (S : Sto) (P : D → Sto → Prop) : Prop := match toD S r with
  | some (d, S2) => P d S2
  | none => False
theorem td_v {d : D} {S : Sto} {P : D → Sto → Prop} : TD (.v d) S P = P d S := Eq.trans (Eq.refl _) rfl
theorem s_set {o i e : Ex} : WS (evS G call wl (.set o i e) ρ S) QS ES = W (evE G call e ρ S) (fun r S1 => TD r S1 fun d S2 => W (evE G call o ρ S2) (fun x S3 => W (evE G call i ρ S3) (fun y S4 => WS (setR x y d ρ S4) QS ES) (fun c d S => ES c d ρ S)) (fun c d S => ES c d ρ S)) (fun c d S => ES c d ρ S) := by
  rw [evS, WS_st]
  congr 1
  funext r S1
  unfold TD
  cases h : toD S1 r with
  | none => rfl
  | some q =>
    obtain ⟨d, S2⟩ := q
    simp only [WS_st]
    rfl
theorem set_ok {j n : Nat} {k : Int} {l : List D} {d : D} (h : S[j]? = some (some l)) (hn : ixN l.length k = some n) : WS (setR (.r j) (.v (.int k)) d ρ S) QS ES = QS .nx ρ (S.set j (some (l.set n d))) := by
  simp only [setR, h, hn]
  rfl
theorem s_ex {e : Ex} : WS (evS G call wl (.ex e) ρ S) QS ES = W (evE G call e ρ S) (fun _ S1 => QS .nx ρ S1) (fun c d S => ES c d ρ S) := by
  rw [evS, WS_st]
  rfl
theorem s_iff {c : Ex} {a b : Ts} : WS (evS G call wl (.iff c a b) ρ S) QS ES = W (evT G call c ρ S) (fun k S1 => (k = true → WS (evSs G call wl a ρ S1) QS ES) ∧ (k = false → WS (evSs G call wl b ρ S1) QS ES)) (fun c d S => ES c d ρ S) := by
  rw [evS, WS_st]
  simp only [WS_if, Bool.not_eq_true]
theorem s_for {p : Pt} {it : Itx} {b : Ts} : WS (evS G call wl (.for_ p it b) ρ S) QS ES = W (evI G call it ρ S) (fun ds S1 => WS (forL (fun ρ S => evSs G call wl b ρ S) p ds ρ S1) QS ES) (fun c d S => ES c d ρ S) := by
  rw [evS, WS_st]
theorem s_wh {c : Ex} {b : Ts} : WS (evS G call wl (.wh c b) ρ S) QS ES = WS (whL (fun ρ S => evT G call c ρ S) (fun ρ S => evSs G call wl b ρ S) wl ρ S) QS ES := by
  rw [evS]
theorem s_wh1 {n : Nat} {test : Rho → Sto → Res Bool} {body : Rho → Sto → ResS} : WS (whL test body (n + 1) ρ S) QS ES = W (test ρ S) (fun k S1 => (k = true → WS (body ρ S1) (TN (fun ρ2 S2 => whL test body n ρ2 S2) QS ES) ES) ∧ (k = false → QS .nx ρ S1)) (fun c d S => ES c d ρ S) := by
  rw [whL, WS_st]
  simp only [WS_if, WS_turn, Bool.not_eq_true]
  rfl
theorem s_ret {e : Ex} : WS (evS G call wl (.ret e) ρ S) QS ES = W (evE G call e ρ S) (fun r S1 => QS (.rt r) ρ S1) (fun c d S => ES c d ρ S) := by
  rw [evS, WS_st]
  rfl
theorem s_retN : WS (evS G call wl .retN ρ S) QS ES = QS (.rt (.v .none)) ρ S := by
  rw [evS]
  rfl
def raiS (c : Str) (r : R) (ρ : Rho) (S : Sto) : ResS := match toD S r with
  | some (d, S2) => .ex c d ρ S2
  | none => .no
theorem s_rai {c : Str} {e : Ex} : WS (evS G call wl (.rai c e) ρ S) QS ES = W (evE G call e ρ S) (fun r S1 => WS (raiS c r ρ S1) QS ES) (fun c d S => ES c d ρ S) := by
  rw [evS, WS_st]
  rfl
theorem rai_v {c : Str} {d : D} : WS (raiS c (.v d) ρ S) QS ES = ES c d ρ S := Eq.trans (Eq.refl _) rfl
theorem s_try {b : Ts} {hs : Hs} : WS (evS G call wl (.try_ b hs) ρ S) QS ES = WS (evSs G call wl b ρ S) QS (fun c d ρ S => WS (evH G call wl hs c d ρ S) QS ES) := by
  rw [evS]
  cases evSs G call wl b ρ S <;> rfl
theorem s_hnil {c : Str} {d : D} : WS (evH G call wl .nil c d ρ S) QS ES = ES c d ρ S := by
  rw [evH]
  rfl
/-- a clause that does not take it; one that does -/
theorem s_hno {h c : Str} {nm : Option Nat} {b : Ts} {hs : Hs} {d : D} {l : List Str} (e : G.subs.lookup c = some l) (n : ¬ h ∈ l) : WS (evH G call wl (.cons h nm b hs) c d ρ S) QS ES = WS (evH G call wl hs c d ρ S) QS ES := by
  conv => lhs; unfold evH
  simp only [e, if_neg n]
def SE (nm : Option Nat) (QS : Fl → Rho → Sto → Prop) : Fl → Rho → Sto → Prop
  | .rt (.x _ _), _, _ => False
  | f, ρ, S => QS f (match nm with | some i => (scrub ρ).set i none | none => scrub ρ) S
theorem WS_suite {nm : Option Nat} {x : ResS} : WS (suiteEnd nm x) QS ES = WS x (SE nm QS) (fun _ _ _ _ => False) := by
  cases x with
  | no => rfl
  | ex c d ρ S => rfl
  | ok f ρ S =>
    cases f with
    | rt r => cases r <;> rfl
    | _ => rfl
theorem s_hyes {h c : Str} {nm : Option Nat} {b : Ts} {hs : Hs} {d : D} {l : List Str} (e : G.subs.lookup c = some l) (n : h ∈ l) : WS (evH G call wl (.cons h nm b hs) c d ρ S) QS ES =
    WS (evSs G call wl b (match nm with | some i => ρ.set i (some (.x c d)) | none => ρ) S) (SE nm QS) (fun _ _ _ _ => False) := by
  conv => lhs; unfold evH
  simp only [e, if_pos n, WS_suite]
  all_goals (cases nm <;> rfl)
theorem SE_nx {nm : Option Nat} : SE nm QS .nx ρ S = QS .nx (match nm with | some i => (scrub ρ).set i none | none => scrub ρ) S := Eq.trans (Eq.refl _) rfl
theorem SE_rtv {nm : Option Nat} {d : D} : SE nm QS (.rt (.v d)) ρ S = QS (.rt (.v d)) (match nm with | some i => (scrub ρ).set i none | none => scrub ρ) S := Eq.trans (Eq.refl _) rfl
theorem sc_nil : scrub [] = [] := rfl
theorem sc_none : scrub (none :: ρ) = none :: scrub ρ := rfl
theorem sc_v {d : D} : scrub (some (.v d) :: ρ) = some (.v d) :: scrub ρ := rfl
theorem sc_r {i : Nat} : scrub (some (.r i) :: ρ) = some (.r i) :: scrub ρ := rfl
theorem sc_s {l : List Int} : scrub (some (.s l) :: ρ) = some (.s l) :: scrub ρ := rfl
theorem sc_x {c : Str} {d : D} : scrub (some (.x c d) :: ρ) = none :: scrub ρ := rfl
theorem s_pas : WS (evS G call wl .pas ρ S) QS ES = QS .nx ρ S := by
  rw [evS]
  rfl
theorem s_brk : WS (evS G call wl .brk ρ S) QS ES = QS .bk ρ S := by
  rw [evS]
  rfl
theorem s_cnt : WS (evS G call wl .cnt ρ S) QS ES = QS .ct ρ S := by
  rw [evS]
  rfl
/-- for -/
theorem f_nil {body : Rho → Sto → ResS} {p : Pt} : WS (forL body p [] ρ S) QS ES = QS .nx ρ S := Eq.trans (Eq.refl _) rfl
theorem f_cons {body : Rho → Sto → ResS} {p : Pt} {d : D} {ds : List D} {ρ' : Rho} (h : bindP p d ρ = some ρ') : WS (forL body p (d :: ds) ρ S) QS ES = WS (body ρ' S) (TN (fun ρ2 S2 => forL body p ds ρ2 S2) QS ES) ES := by
  rw [forL, h]
  exact WS_turn
/-- by an invariant over what is left -/
theorem f_inv {body : Rho → Sto → ResS} {p : Pt} (I : List D → Rho → Sto → Prop) (hs : ∀ d ds ρ S, I (d :: ds) ρ S → ∃ ρ', bindP p d ρ = some ρ' ∧ WS (body ρ' S) (fun f ρ2 S2 => match f with
      | .nx => I ds ρ2 S2
      | .ct => I ds ρ2 S2
      | .bk => QS .nx ρ2 S2
      | .rt r => QS (.rt r) ρ2 S2) ES) (hd : ∀ ρ S, I [] ρ S → QS .nx ρ S) : ∀ (ds : List D) (ρ : Rho) (S : Sto), I ds ρ S → WS (forL body p ds ρ S) QS ES
  | [], ρ, S, h => hd ρ S h
  | d :: ds, ρ, S, h => by
    obtain ⟨ρ', e, q⟩ := hs d ds ρ S h
    rw [f_cons e]
    refine WS_mono q fun f ρ2 S2 z => ?_
    cases f with
    | nx => exact f_inv I hs hd ds ρ2 S2 z
    | ct => exact f_inv I hs hd ds ρ2 S2 z
    | bk => exact z
    | rt r => exact z
end
/-! ### calls -/
section
variable {G : Pg} {call : Str → List R → Sto → Res R} {wl : Nat} {S : Sto} {Q : R → Sto → Prop} {E : EK}
def RQ (mu : Bool) (n : Nat) (Q : R → Sto → Prop) (E : EK) : Fl → Rho → Sto → Prop
  | .nx, _, S => Q (.v .none) (S.take n)
  | .rt r, _, S => W (gcR mu n r S) Q E
  | _, _, _ => False
theorem RQ_nx {mu : Bool} {n : Nat} {ρ : Rho} : RQ mu n Q E .nx ρ S = Q (.v .none) (S.take n) := Eq.trans (Eq.refl _) rfl
theorem RQ_rt {mu : Bool} {n : Nat} {r : R} {ρ : Rho} : RQ mu n Q E (.rt r) ρ S = W (gcR mu n r S) Q E := Eq.trans (Eq.refl _) rfl
theorem gc_v {mu : Bool} {n : Nat} {d : D} : W (gcR mu n (.v d) S) Q E = Q (.v d) (S.take n) := Eq.trans (Eq.refl _) rfl
theorem w_run {df : Df} {rs : List R} (h : rs.length = df.ps.length) : W (runDf G call wl df rs S) Q E = WS (evSs G call wl df.body (rs.map some ++ List.replicate (df.N.length - rs.length) none) S) (RQ df.mu S.length Q E) (fun c d _ S1 => E c d (S1.take S.length)) := by
  unfold runDf
  rw [if_pos h]
  cases evSs G call wl df.body (rs.map some ++ List.replicate (df.N.length - rs.length) none) S with
  | no => rfl
  | ex c d ρ S => rfl
  | ok f ρ S => cases f <;> rfl
theorem w_fun {k : Nat} {f : Str} {df : Df} {rs : List R} (e : G.defs.lookup f = some df) (h : rs.length = df.ps.length) : W (callN G wl (k + 1) f rs S) Q E = WS (evSs G (callN G wl k) wl df.body (rs.map some ++ List.replicate (df.N.length - rs.length) none) S) (RQ df.mu S.length Q E) (fun c d _ S1 => E c d (S1.take S.length)) := by
  rw [← w_run h]
  unfold callN
  simp only [e]
end
end EV

set_option Elab.async false
set_option linter.all false
set_option maxRecDepth 100000
set_option maxHeartbeats 8000000
/-! EV, part 23: the calculus: built-in functions, displays, indexing, comprehensions. -/
namespace EV
open PySem PySem.Spec PyProof.Rows L2
section
variable {S : Sto} {Q : R → Sto → Prop} {E : EK} {i j : Int}
theorem b_gcd : W (biR "gcd" [.v (.int i), .v (.int j)] S) Q E = Q (.v (.int (Nat.gcd i.natAbs j.natAbs : Nat))) S := Eq.trans (Eq.refl _) rfl
theorem b_abs : W (biR "abs" [.v (.int i)] S) Q E = Q (.v (.int (if i < 0 then -i else i))) S := Eq.trans (Eq.refl _) rfl
theorem b_max : W (biR "max" [.v (.int i), .v (.int j)] S) Q E = Q (.v (.int (if j > i then j else i))) S := Eq.trans (Eq.refl _) rfl
theorem b_isqrt : W (biR "isqrt" [.v (.int i)] S) Q E = ((0 ≤ i ∧ i.toNat.log2 < 13400) ∧ Q (.v (.int (Float64.isqrt i.toNat : Nat))) S) := by
  by_cases h : 0 ≤ i ∧ i.toNat.log2 < 13400
  · simp only [biR, if_pos h, W]
    exact propext ⟨fun z => ⟨h, z⟩, fun z => z.2⟩
  · simp only [biR, if_neg h, W]
    exact propext ⟨fun z => z.elim, fun z => h z.1⟩
theorem b_listt {ds : List D} : W (biR "list" [.v (.tuple ds)] S) Q E = Q (.v (.list ds)) S := Eq.trans (Eq.refl _) rfl
theorem b_listl {ds : List D} : W (biR "list" [.v (.list ds)] S) Q E = Q (.v (.list ds)) S := Eq.trans (Eq.refl _) rfl
theorem b_mlistt {ds : List D} : W (biR "mlist" [.v (.tuple ds)] S) Q E = Q (.r S.length) (S ++ [some ds]) := Eq.trans (Eq.refl _) rfl
theorem b_mlistl {ds : List D} : W (biR "mlist" [.v (.list ds)] S) Q E = Q (.r S.length) (S ++ [some ds]) := Eq.trans (Eq.refl _) rfl
theorem intsOf_map (l : List Int) : intsOf (l.map .int) = some l := by
  induction l with
  | nil => rfl
  | cons a l ih => simp only [List.map_cons, intsOf, ih, Option.map_some]
theorem b_sum {l : List Int} : W (biR "sum" [.v (.list (l.map .int))] S) Q E = Q (.v (.int l.sum)) S := by
  simp only [biR, rdD, intsOf_map]
  rfl
theorem b_maxl {l : List Int} (h : l ≠ []) : W (biR "max" [.v (.list (l.map .int))] S) Q E = Q (.v (.int (maxI l))) S := by
  simp only [biR, rdD, intsOf_map, if_pos h]
  rfl
theorem b_minl {l : List Int} (h : l ≠ []) : W (biR "min" [.v (.list (l.map .int))] S) Q E = Q (.v (.int (minI l))) S := by
  simp only [biR, rdD, intsOf_map, if_pos h]
  rfl
theorem k_int {ks : List L2.Key} {ds : List D} {k : Int} : W (dixR ks ds (.v (.int k)) S) Q E = W (resD S (lookK (ks.zip ds) (.inl k))) Q E := Eq.trans (Eq.refl _) rfl
theorem k_gint {kvs : List (Int × D)} {k : Int} : W (gixR kvs (.v (.int k)) S) Q E = W (resD S (kvs.lookup k)) Q E := Eq.trans (Eq.refl _) rfl
theorem resD_some {d : D} : W (resD S (some d)) Q E = Q (.v d) S := Eq.trans (Eq.refl _) rfl
theorem b_min : W (biR "min" [.v (.int i), .v (.int j)] S) Q E = Q (.v (.int (if j < i then j else i))) S := Eq.trans (Eq.refl _) rfl
theorem b_int : W (biR "int" [.v (.int i)] S) Q E = Q (.v (.int i)) S := Eq.trans (Eq.refl _) rfl
theorem b_intb {k : Bool} : W (biR "int" [.v (.bool k)] S) Q E = Q (.v (.int (if k then 1 else 0))) S := Eq.trans (Eq.refl _) rfl
theorem b_lens {l : List Int} : W (biR "len" [.s l] S) Q E = Q (.v (.int l.length)) S := by
  show W (Res.ok (.v (.int ((l.map PyData.int).length : Nat))) S) Q E = _
  rw [List.length_map]
  rfl
theorem b_lent {l : List D} : W (biR "len" [.v (.tuple l)] S) Q E = Q (.v (.int l.length)) S := Eq.trans (Eq.refl _) rfl
theorem b_lenl {l : List D} : W (biR "len" [.v (.list l)] S) Q E = Q (.v (.int l.length)) S := Eq.trans (Eq.refl _) rfl
theorem b_lenr {k : Nat} {l : List D} (h : S[k]? = some (some l)) : W (biR "len" [.r k] S) Q E = Q (.v (.int l.length)) S := by
  simp only [biR, rdD, h]
  rfl
theorem t_l2 {k : Bool} {l : List D} : W (lstR k (l.map .v) S) Q E = W (newL k l S) Q E := by
  have e : ∀ l : List D, toDs (l.map .v) S = some (l, S) := fun l => by
    induction l with
    | nil => rfl
    | cons d l ih => simp only [List.map_cons, toDs, toD, ih]
  unfold lstR
  rw [e]
theorem l_new {l : List D} (h : l.length ≤ sizeLine) : W (newL false l S) Q E = Q (.v (.list l)) S := by
  unfold newL
  rw [if_pos h, if_neg Bool.false_ne_true]
  rfl
theorem l_newm {l : List D} (h : l.length ≤ sizeLine) : W (newL true l S) Q E = Q (.r S.length) (S ++ [some l]) := by
  unfold newL
  rw [if_pos h, if_pos rfl]
  rfl
theorem x_t {l : List D} {d : D} (h : atI l i = some d) : W (ixR (.v (.tuple l)) (.v (.int i)) S) Q E = Q (.v d) S := by
  simp only [ixR, rdD, h]
  rfl
theorem x_l {l : List D} {d : D} (h : atI l i = some d) : W (ixR (.v (.list l)) (.v (.int i)) S) Q E = Q (.v d) S := by
  simp only [ixR, rdD, h]
  rfl
theorem x_r {k : Nat} {l : List D} {d : D} (h0 : S[k]? = some (some l)) (h : atI l i = some d) : W (ixR (.r k) (.v (.int i)) S) Q E = Q (.v d) S := by
  simp only [ixR, rdD, h0, h]
  rfl
theorem x_s {l : List Int} {n : Int} (h : atI l i = some n) : W (ixR (.s l) (.v (.int i)) S) Q E = Q (.v (.int n)) S := by
  have e : atI (l.map PyData.int) i = some (.int n) := by
    unfold atI at h ⊢
    rw [List.length_map]
    cases q : ixN l.length i with
    | none => rw [q] at h; cases h
    | some k =>
      rw [q] at h
      rw [Option.bind_some] at h ⊢
      rw [List.getElem?_map, h]
      rfl
  simp only [ixR, rdD, e]
  rfl
/-- displays of values -/
theorem t_1 {a : D} : W (tupR [.v a] S) Q E = Q (.v (.tuple [a])) S := Eq.trans (Eq.refl _) rfl
theorem t_2 {a b : D} : W (tupR [.v a, .v b] S) Q E = Q (.v (.tuple [a, b])) S := Eq.trans (Eq.refl _) rfl
theorem t_3 {a b c : D} : W (tupR [.v a, .v b, .v c] S) Q E = Q (.v (.tuple [a, b, c])) S := Eq.trans (Eq.refl _) rfl
theorem ds_1 {Q : List D → Sto → Prop} {a : D} : W (dsR [.v a] S) Q E = Q [a] S := Eq.trans (Eq.refl _) rfl
theorem ds_2 {Q : List D → Sto → Prop} {a b : D} : W (dsR [.v a, .v b] S) Q E = Q [a, b] S := Eq.trans (Eq.refl _) rfl
theorem ds_3 {Q : List D → Sto → Prop} {a b c : D} : W (dsR [.v a, .v b, .v c] S) Q E = Q [a, b, c] S := Eq.trans (Eq.refl _) rfl
theorem ds_4 {Q : List D → Sto → Prop} {a b c d : D} : W (dsR [.v a, .v b, .v c, .v d] S) Q E = Q [a, b, c, d] S := Eq.trans (Eq.refl _) rfl
theorem c_32 {a b c : D} : W (slcR (.v (.tuple [a, b, c])) none (some 2) S) Q E = Q (.v (.tuple [a, b])) S := Eq.trans (Eq.refl _) rfl
theorem c_20 {a b : D} : W (slcR (.v (.tuple [a, b])) none (some 1) S) Q E = Q (.v (.tuple [a])) S := Eq.trans (Eq.refl _) rfl
theorem t_4 {a b c d : D} : W (tupR [.v a, .v b, .v c, .v d] S) Q E = Q (.v (.tuple [a, b, c, d])) S := Eq.trans (Eq.refl _) rfl
theorem l_0 : W (lstR false [] S) Q E = Q (.v (.list [])) S := Eq.trans (Eq.refl _) rfl
theorem l_1 {a : D} : W (lstR false [.v a] S) Q E = Q (.v (.list [a])) S := Eq.trans (Eq.refl _) rfl
theorem l_2 {a b : D} : W (lstR false [.v a, .v b] S) Q E = Q (.v (.list [a, b])) S := Eq.trans (Eq.refl _) rfl
theorem l_3 {a b c : D} : W (lstR false [.v a, .v b, .v c] S) Q E = Q (.v (.list [a, b, c])) S := Eq.trans (Eq.refl _) rfl
theorem l_4 {a b c d : D} : W (lstR false [.v a, .v b, .v c, .v d] S) Q E = Q (.v (.list [a, b, c, d])) S := Eq.trans (Eq.refl _) rfl
theorem l_5 {a b c d e : D} : W (lstR false [.v a, .v b, .v c, .v d, .v e] S) Q E = Q (.v (.list [a, b, c, d, e])) S := Eq.trans (Eq.refl _) rfl
theorem l_6 {a b c d e f : D} : W (lstR false [.v a, .v b, .v c, .v d, .v e, .v f] S) Q E = Q (.v (.list [a, b, c, d, e, f])) S := Eq.trans (Eq.refl _) rfl
theorem lm_2 {a b : D} : W (lstR true [.v a, .v b] S) Q E = Q (.r S.length) (S ++ [some [a, b]]) := Eq.trans (Eq.refl _) rfl
/-- walks -/
def seqR (r : R) (S1 : Sto) : Res (List D) := match r with
  | .s l => .ok (l.map .int) S1
  | _ => match toD S1 r with
    | some (.tuple ds, S2) => .ok ds S2
    | some (.list ds, S2) => .ok ds S2
    | _ => .no
end
section
variable {G : Pg} {call : Str → List R → Sto → Res R} {wl : Nat} {ρ : Rho} {S : Sto} {Q : List D → Sto → Prop} {E : EK}
theorem i_seq {e : Ex} : W (evI G call (.seq e) ρ S) Q E = W (evE G call e ρ S) (fun r S1 => W (seqR r S1) Q E) E := by
  rw [evI, W_bind]
  rfl
theorem i_tup {ds : List D} : W (seqR (.v (.tuple ds)) S) Q E = Q ds S := Eq.trans (Eq.refl _) rfl
theorem i_lst {ds : List D} : W (seqR (.v (.list ds)) S) Q E = Q ds S := Eq.trans (Eq.refl _) rfl
theorem i_scr {l : List Int} : W (seqR (.s l) S) Q E = Q (l.map .int) S := Eq.trans (Eq.refl _) rfl
def rngR (r : R) (S1 : Sto) : Res (List D) := match r with
  | .v (.int n) => if -(2 ^ 62) ≤ n ∧ n < 2 ^ 62 then .ok (rngD 0 n.toNat) S1 else .no
  | _ => .no
theorem i_rng {a : Ex} : W (evI G call (.rng1 a) ρ S) Q E = W (evE G call a ρ S) (fun r S1 => W (rngR r S1) Q E) E := by
  rw [evI, W_bind]
  rfl
theorem i_rngR {n : Int} : W (rngR (.v (.int n)) S) Q E = ((-(2 ^ 62) ≤ n ∧ n < 2 ^ 62) ∧ Q (rngD 0 n.toNat) S) := by
  by_cases h : -(2 ^ 62) ≤ n ∧ n < 2 ^ 62
  · simp only [rngR, if_pos h, W]
    exact propext ⟨fun z => ⟨h, z⟩, fun z => z.2⟩
  · simp only [rngR, if_neg h, W]
    exact propext ⟨fun z => z.elim, fun z => h z.1⟩
def rng2R (r q : R) (S2 : Sto) : Res (List D) := match r, q with
  | .v (.int i), .v (.int j) => if -(2 ^ 62) ≤ i ∧ i < 2 ^ 62 ∧ -(2 ^ 62) ≤ j ∧ j < 2 ^ 62 then .ok (rngD i (j - i).toNat) S2 else .no
  | _, _ => .no
theorem i_rng2R {a b : Int} : W (rng2R (.v (.int a)) (.v (.int b)) S) Q E = ((-(2 ^ 62) ≤ a ∧ a < 2 ^ 62 ∧ -(2 ^ 62) ≤ b ∧ b < 2 ^ 62) ∧ Q (rngD a (b - a).toNat) S) := by
  by_cases h : -(2 ^ 62) ≤ a ∧ a < 2 ^ 62 ∧ -(2 ^ 62) ≤ b ∧ b < 2 ^ 62
  · simp only [rng2R, if_pos h, W]
    exact propext ⟨fun z => ⟨h, z⟩, fun z => z.2⟩
  · simp only [rng2R, if_neg h, W]
    exact propext ⟨fun z => z.elim, fun z => h z.1⟩
theorem i_rng2 {a b : Ex} : W (evI G call (.rng2 a b) ρ S) Q E = W (evE G call a ρ S) (fun r S1 => W (evE G call b ρ S1) (fun q S2 => W (rng2R r q S2) Q E) E) E := by
  rw [evI]
  simp only [W_bind]
  rfl
end
/-! ### comprehensions -/
section
variable {S : Sto} {E : EK} {Q : List D → Sto → Prop}
/-- by an invariant over what is left; a turn keeps the store -/
theorem lc_inv {body : Rho → Sto → Res (Option D)} {p : Pt} {ρ0 : Rho} (f : D → Option D) (hs : ∀ d, ∃ ρ, bindP p d ρ0 = some ρ ∧ body ρ S = .ok (f d) S) : ∀ (ds acc : List D), acc.length + ds.length ≤ sizeLine → lcLoop body p ρ0 ds acc S = .ok (acc ++ ds.filterMap f) S
  | [], acc, _ => by
    unfold lcLoop
    simp
  | d :: ds, acc, h => by
    obtain ⟨ρ, e1, e2⟩ := hs d
    unfold lcLoop
    rw [e1]
    simp only [e2]
    simp only [List.length_cons] at h
    cases q : f d with
    | some x =>
      simp only
      rw [if_pos (by omega), lc_inv f hs ds (acc ++ [x]) (by simp; omega)]
      simp [q]
    | none =>
      simp only
      rw [lc_inv f hs ds acc (by omega)]
      simp [q]
/-- the same, for the items that come -/
theorem lc_items {body : Rho → Sto → Res (Option D)} {p : Pt} {ρ0 : Rho} (f : D → Option D) : ∀ (ds acc : List D), (∀ d ∈ ds, ∃ ρ, bindP p d ρ0 = some ρ ∧ body ρ S = .ok (f d) S) → acc.length + ds.length ≤ sizeLine → lcLoop body p ρ0 ds acc S = .ok (acc ++ ds.filterMap f) S
  | [], acc, _, _ => by
    unfold lcLoop
    simp
  | d :: ds, acc, hs, h => by
    obtain ⟨ρ, e1, e2⟩ := hs d (List.mem_cons_self ..)
    unfold lcLoop
    rw [e1]
    simp only [e2]
    simp only [List.length_cons] at h
    cases q : f d with
    | some x =>
      simp only
      rw [if_pos (by omega), lc_items f ds (acc ++ [x]) (fun d hd => hs d (List.mem_cons_of_mem _ hd)) (by simp; omega)]
      simp [q]
    | none =>
      simp only
      rw [lc_items f ds acc (fun d hd => hs d (List.mem_cons_of_mem _ hd)) (by omega)]
      simp [q]
end
theorem goB_a : goB .And = true := rfl
theorem goB_o : goB .Or = false := rfl
theorem okv {d : D} : okR (.v d) = true := rfl
theorem okr {i : Nat} : okR (.r i) = true := rfl
theorem oks {l : List Int} : okR (.s l) = true := rfl
section
variable {S : Sto} {Q : R → Sto → Prop} {E : EK} {a b c : D} {l : List D}
theorem at0 : atI (a :: l) 0 = some a := by
  unfold atI ixN
  rw [if_pos (by omega), if_pos (by simp only [List.length_cons]; omega)]
  rfl
theorem at1 : atI (a :: b :: l) 1 = some b := by
  unfold atI ixN
  rw [if_pos (by omega), if_pos (by simp only [List.length_cons]; omega)]
  rfl
theorem at2 : atI (a :: b :: c :: l) 2 = some c := by
  unfold atI ixN
  rw [if_pos (by omega), if_pos (by simp only [List.length_cons]; omega)]
  rfl
theorem isi_int_0 {i : Int} : W (isiR (.v (.int i)) ["int"] S) Q E = Q (.v (.bool true)) S := Eq.trans (Eq.refl _) rfl
theorem isi_int_1 {i : Int} : W (isiR (.v (.int i)) ["bool"] S) Q E = Q (.v (.bool false)) S := Eq.trans (Eq.refl _) rfl
theorem isi_int_2 {i : Int} : W (isiR (.v (.int i)) ["str"] S) Q E = Q (.v (.bool false)) S := Eq.trans (Eq.refl _) rfl
theorem isi_int_3 {i : Int} : W (isiR (.v (.int i)) ["tuple"] S) Q E = Q (.v (.bool false)) S := Eq.trans (Eq.refl _) rfl
theorem isi_int_4 {i : Int} : W (isiR (.v (.int i)) ["list"] S) Q E = Q (.v (.bool false)) S := Eq.trans (Eq.refl _) rfl
theorem isi_int_5 {i : Int} : W (isiR (.v (.int i)) ["tuple", "list"] S) Q E = Q (.v (.bool false)) S := Eq.trans (Eq.refl _) rfl
theorem isi_int_6 {i : Int} : W (isiR (.v (.int i)) ["list", "tuple"] S) Q E = Q (.v (.bool false)) S := Eq.trans (Eq.refl _) rfl
theorem isi_int_7 {i : Int} : W (isiR (.v (.int i)) ["int", "str"] S) Q E = Q (.v (.bool true)) S := Eq.trans (Eq.refl _) rfl
theorem isi_int_8 {i : Int} : W (isiR (.v (.int i)) ["str", "int"] S) Q E = Q (.v (.bool true)) S := Eq.trans (Eq.refl _) rfl
theorem isi_bool_0 {b : Bool} : W (isiR (.v (.bool b)) ["int"] S) Q E = Q (.v (.bool true)) S := Eq.trans (Eq.refl _) rfl
theorem isi_bool_1 {b : Bool} : W (isiR (.v (.bool b)) ["bool"] S) Q E = Q (.v (.bool true)) S := Eq.trans (Eq.refl _) rfl
theorem isi_bool_2 {b : Bool} : W (isiR (.v (.bool b)) ["str"] S) Q E = Q (.v (.bool false)) S := Eq.trans (Eq.refl _) rfl
theorem isi_bool_3 {b : Bool} : W (isiR (.v (.bool b)) ["tuple"] S) Q E = Q (.v (.bool false)) S := Eq.trans (Eq.refl _) rfl
theorem isi_bool_4 {b : Bool} : W (isiR (.v (.bool b)) ["list"] S) Q E = Q (.v (.bool false)) S := Eq.trans (Eq.refl _) rfl
theorem isi_bool_5 {b : Bool} : W (isiR (.v (.bool b)) ["tuple", "list"] S) Q E = Q (.v (.bool false)) S := Eq.trans (Eq.refl _) rfl
theorem isi_bool_6 {b : Bool} : W (isiR (.v (.bool b)) ["list", "tuple"] S) Q E = Q (.v (.bool false)) S := Eq.trans (Eq.refl _) rfl
theorem isi_bool_7 {b : Bool} : W (isiR (.v (.bool b)) ["int", "str"] S) Q E = Q (.v (.bool true)) S := Eq.trans (Eq.refl _) rfl
theorem isi_bool_8 {b : Bool} : W (isiR (.v (.bool b)) ["str", "int"] S) Q E = Q (.v (.bool true)) S := Eq.trans (Eq.refl _) rfl
theorem isi_str_0 {s : Str} : W (isiR (.v (.str s)) ["int"] S) Q E = Q (.v (.bool false)) S := Eq.trans (Eq.refl _) rfl
theorem isi_str_1 {s : Str} : W (isiR (.v (.str s)) ["bool"] S) Q E = Q (.v (.bool false)) S := Eq.trans (Eq.refl _) rfl
theorem isi_str_2 {s : Str} : W (isiR (.v (.str s)) ["str"] S) Q E = Q (.v (.bool true)) S := Eq.trans (Eq.refl _) rfl
theorem isi_str_3 {s : Str} : W (isiR (.v (.str s)) ["tuple"] S) Q E = Q (.v (.bool false)) S := Eq.trans (Eq.refl _) rfl
theorem isi_str_4 {s : Str} : W (isiR (.v (.str s)) ["list"] S) Q E = Q (.v (.bool false)) S := Eq.trans (Eq.refl _) rfl
theorem isi_str_5 {s : Str} : W (isiR (.v (.str s)) ["tuple", "list"] S) Q E = Q (.v (.bool false)) S := Eq.trans (Eq.refl _) rfl
theorem isi_str_6 {s : Str} : W (isiR (.v (.str s)) ["list", "tuple"] S) Q E = Q (.v (.bool false)) S := Eq.trans (Eq.refl _) rfl
theorem isi_str_7 {s : Str} : W (isiR (.v (.str s)) ["int", "str"] S) Q E = Q (.v (.bool true)) S := Eq.trans (Eq.refl _) rfl
theorem isi_str_8 {s : Str} : W (isiR (.v (.str s)) ["str", "int"] S) Q E = Q (.v (.bool true)) S := Eq.trans (Eq.refl _) rfl
theorem isi_none_0  : W (isiR (.v (.none)) ["int"] S) Q E = Q (.v (.bool false)) S := Eq.trans (Eq.refl _) rfl
theorem isi_none_1  : W (isiR (.v (.none)) ["bool"] S) Q E = Q (.v (.bool false)) S := Eq.trans (Eq.refl _) rfl
theorem isi_none_2  : W (isiR (.v (.none)) ["str"] S) Q E = Q (.v (.bool false)) S := Eq.trans (Eq.refl _) rfl
theorem isi_none_3  : W (isiR (.v (.none)) ["tuple"] S) Q E = Q (.v (.bool false)) S := Eq.trans (Eq.refl _) rfl
theorem isi_none_4  : W (isiR (.v (.none)) ["list"] S) Q E = Q (.v (.bool false)) S := Eq.trans (Eq.refl _) rfl
theorem isi_none_5  : W (isiR (.v (.none)) ["tuple", "list"] S) Q E = Q (.v (.bool false)) S := Eq.trans (Eq.refl _) rfl
theorem isi_none_6  : W (isiR (.v (.none)) ["list", "tuple"] S) Q E = Q (.v (.bool false)) S := Eq.trans (Eq.refl _) rfl
theorem isi_none_7  : W (isiR (.v (.none)) ["int", "str"] S) Q E = Q (.v (.bool false)) S := Eq.trans (Eq.refl _) rfl
theorem isi_none_8  : W (isiR (.v (.none)) ["str", "int"] S) Q E = Q (.v (.bool false)) S := Eq.trans (Eq.refl _) rfl
theorem isi_tuple_0 {l : List D} : W (isiR (.v (.tuple l)) ["int"] S) Q E = Q (.v (.bool false)) S := Eq.trans (Eq.refl _) rfl
theorem isi_tuple_1 {l : List D} : W (isiR (.v (.tuple l)) ["bool"] S) Q E = Q (.v (.bool false)) S := Eq.trans (Eq.refl _) rfl
theorem isi_tuple_2 {l : List D} : W (isiR (.v (.tuple l)) ["str"] S) Q E = Q (.v (.bool false)) S := Eq.trans (Eq.refl _) rfl
theorem isi_tuple_3 {l : List D} : W (isiR (.v (.tuple l)) ["tuple"] S) Q E = Q (.v (.bool true)) S := Eq.trans (Eq.refl _) rfl
theorem isi_tuple_4 {l : List D} : W (isiR (.v (.tuple l)) ["list"] S) Q E = Q (.v (.bool false)) S := Eq.trans (Eq.refl _) rfl
theorem isi_tuple_5 {l : List D} : W (isiR (.v (.tuple l)) ["tuple", "list"] S) Q E = Q (.v (.bool true)) S := Eq.trans (Eq.refl _) rfl
theorem isi_tuple_6 {l : List D} : W (isiR (.v (.tuple l)) ["list", "tuple"] S) Q E = Q (.v (.bool true)) S := Eq.trans (Eq.refl _) rfl
theorem isi_tuple_7 {l : List D} : W (isiR (.v (.tuple l)) ["int", "str"] S) Q E = Q (.v (.bool false)) S := Eq.trans (Eq.refl _) rfl
theorem isi_tuple_8 {l : List D} : W (isiR (.v (.tuple l)) ["str", "int"] S) Q E = Q (.v (.bool false)) S := Eq.trans (Eq.refl _) rfl
theorem isi_list_0 {l : List D} : W (isiR (.v (.list l)) ["int"] S) Q E = Q (.v (.bool false)) S := Eq.trans (Eq.refl _) rfl
theorem isi_list_1 {l : List D} : W (isiR (.v (.list l)) ["bool"] S) Q E = Q (.v (.bool false)) S := Eq.trans (Eq.refl _) rfl
theorem isi_list_2 {l : List D} : W (isiR (.v (.list l)) ["str"] S) Q E = Q (.v (.bool false)) S := Eq.trans (Eq.refl _) rfl
theorem isi_list_3 {l : List D} : W (isiR (.v (.list l)) ["tuple"] S) Q E = Q (.v (.bool false)) S := Eq.trans (Eq.refl _) rfl
theorem isi_list_4 {l : List D} : W (isiR (.v (.list l)) ["list"] S) Q E = Q (.v (.bool true)) S := Eq.trans (Eq.refl _) rfl
theorem isi_list_5 {l : List D} : W (isiR (.v (.list l)) ["tuple", "list"] S) Q E = Q (.v (.bool true)) S := Eq.trans (Eq.refl _) rfl
theorem isi_list_6 {l : List D} : W (isiR (.v (.list l)) ["list", "tuple"] S) Q E = Q (.v (.bool true)) S := Eq.trans (Eq.refl _) rfl
theorem isi_list_7 {l : List D} : W (isiR (.v (.list l)) ["int", "str"] S) Q E = Q (.v (.bool false)) S := Eq.trans (Eq.refl _) rfl
theorem isi_list_8 {l : List D} : W (isiR (.v (.list l)) ["str", "int"] S) Q E = Q (.v (.bool false)) S := Eq.trans (Eq.refl _) rfl
theorem x_t0 : W (ixR (.v (.tuple (a :: l))) (.v (.int 0)) S) Q E = Q (.v a) S := x_t at0
theorem x_t1 : W (ixR (.v (.tuple (a :: b :: l))) (.v (.int 1)) S) Q E = Q (.v b) S := x_t at1
theorem x_t2 : W (ixR (.v (.tuple (a :: b :: c :: l))) (.v (.int 2)) S) Q E = Q (.v c) S := x_t at2
theorem x_l0 : W (ixR (.v (.list (a :: l))) (.v (.int 0)) S) Q E = Q (.v a) S := x_l at0
theorem x_l1 : W (ixR (.v (.list (a :: b :: l))) (.v (.int 1)) S) Q E = Q (.v b) S := x_l at1
theorem x_l2 : W (ixR (.v (.list (a :: b :: c :: l))) (.v (.int 2)) S) Q E = Q (.v c) S := x_l at2
end
end EV
namespace EV
open PySem PySem.Spec PyProof.Rows L2
theorem lcb_ok {fC : Rho → Sto → Res Bool} {fE : Rho → Sto → Res R} {ρ : Rho} {S : Sto} {x : Option D} (h : W (fC ρ S) (fun k S3 => S3 = S ∧ ((k = true → W (fE ρ S) (fun r S4 => S4 = S ∧ ∃ d, r = .v d ∧ x = some d) (fun _ _ _ => False)) ∧ (k = false → x = none))) (fun _ _ _ => False)) : lcBody fC fE ρ S = .ok x S := by
  unfold lcBody
  cases e : fC ρ S with
  | no => rw [e] at h; exact h.elim
  | ex c d S => rw [e] at h; exact h.elim
  | ok k S3 =>
    rw [e] at h
    obtain ⟨rfl, h1, h2⟩ := h
    cases k with
    | true =>
      have h1 := h1 rfl
      cases e2 : fE ρ S3 with
      | no => rw [e2] at h1; exact h1.elim
      | ex c d S => rw [e2] at h1; exact h1.elim
      | ok r S4 =>
        rw [e2] at h1
        obtain ⟨rfl, d, rfl, rfl⟩ := h1
        simp only [toD, e2]
    | false =>
      rw [h2 rfl]
end EV
namespace EV
open PySem PySem.Spec PyProof.Rows L2
/-! ### targets -/
def BO (o : Option Rho) (Q : Rho → Prop) : Prop := match o with
  | some ρ => Q ρ
  | none => False
section
variable {ρ : Rho} {Q : Rho → Prop} {S : Sto} {QS : Fl → Rho → Sto → Prop} {ES : Str → D → Rho → Sto → Prop} {ps qs : Pts} {d : D} {ds es : List D} {i : Nat}
theorem bo_t : WS (bndR (.tp ps) (.v (.tuple ds)) ρ S) QS ES = BO (bindPs ps ds ρ) (fun ρ' => QS .nx ρ' S) := by
  simp only [bndR, bindR, toD, bindP]
  cases bindPs ps ds ρ <;> rfl
theorem bo_l : WS (bndR (.tp ps) (.v (.list ds)) ρ S) QS ES = BO (bindPs ps ds ρ) (fun ρ' => QS .nx ρ' S) := by
  simp only [bndR, bindR, toD, bindP]
  cases bindPs ps ds ρ <;> rfl
theorem bo_nil : BO (bindPs .nil [] ρ) Q = Q ρ := Eq.trans (Eq.refl _) rfl
theorem bo_nm : BO (bindPs (.cons (.nm i) ps) (d :: ds) ρ) Q = BO (bindPs ps ds (ρ.set i (some (.v d)))) Q := Eq.trans (Eq.refl _) rfl
theorem bo_tt : BO (bindPs (.cons (.tp qs) ps) (.tuple es :: ds) ρ) Q = BO (bindPs qs es ρ) (fun ρ' => BO (bindPs ps ds ρ') Q) := by
  simp only [bindPs, bindP]
  cases bindPs qs es ρ <;> rfl
theorem bo_tl : BO (bindPs (.cons (.tp qs) ps) (.list es :: ds) ρ) Q = BO (bindPs qs es ρ) (fun ρ' => BO (bindPs ps ds ρ') Q) := by
  simp only [bindPs, bindP]
  cases bindPs qs es ρ <;> rfl
theorem wipe_nil : wipeR ρ [] = ρ := Eq.trans (Eq.refl _) rfl
theorem wipe_cons {v : Nat} {vs : List Nat} : wipeR ρ (v :: vs) = (wipeR ρ vs).set v none := Eq.trans (Eq.refl _) rfl
end
/-! ### lists of truths -/
theorem bools_true : ∀ ds : List Bool, boolsOf (ds.map .bool) = some ds
  | [] => rfl
  | b :: ds => by simp only [List.map_cons, boolsOf, bools_true ds, Option.map_some]
theorem b_all {S : Sto} {Q : R → Sto → Prop} {E : EK} {ds : List Bool} : W (biR "all" [.v (.list (ds.map .bool))] S) Q E = Q (.v (.bool (ds.all id))) S := by
  simp only [biR, rdD, bools_true]
  rfl
theorem b_any {S : Sto} {Q : R → Sto → Prop} {E : EK} {ds : List Bool} : W (biR "any" [.v (.list (ds.map .bool))] S) Q E = Q (.v (.bool (ds.any id))) S := by
  simp only [biR, rdD, bools_true]
  rfl
end EV
namespace EV
open PySem PySem.Spec PyProof.Rows L2
section
variable {ρ : Rho} {S : Sto} {QS : Fl → Rho → Sto → Prop} {ES : Str → D → Rho → Sto → Prop} {Q : R → Sto → Prop} {E : EK}
theorem f_nm {body : Rho → Sto → ResS} {i : Nat} {d : D} {ds : List D} : WS (forL body (.nm i) (d :: ds) ρ S) QS ES = WS (body (ρ.set i (some (.v d))) S) (TN (fun ρ2 S2 => forL body (.nm i) ds ρ2 S2) QS ES) ES := f_cons rfl
theorem o_eqb {a b : Bool} : W (cmpR .Eq (.v (.bool a)) (.v (.bool b)) S) Q E = Q (.v (.bool (a == b))) S := (cmp_eq (d := .bool a) (e := .bool b) rfl rfl rfl rfl).trans rfl
theorem o_neb {a b : Bool} : W (cmpR .NotEq (.v (.bool a)) (.v (.bool b)) S) Q E = Q (.v (.bool (!(a == b)))) S := (cmp_ne (d := .bool a) (e := .bool b) rfl rfl rfl rfl).trans rfl
theorem o_isn {d : D} : W (cmpR .Is (.v d) (.v .none) S) Q E = Q (.v (.bool (isNoneD d))) S := by cases d <;> rfl
theorem o_isnn {d : D} : W (cmpR .IsNot (.v d) (.v .none) S) Q E = Q (.v (.bool (!isNoneD d))) S := by cases d <;> rfl
theorem o_leq0 : W (cmpR .Eq (.v (.list [])) (.v (.list [])) S) Q E = Q (.v (.bool true)) S := (cmp_eq (d := .list []) (e := .list []) rfl rfl rfl rfl).trans rfl
theorem o_lne0 : W (cmpR .NotEq (.v (.list [])) (.v (.list [])) S) Q E = Q (.v (.bool false)) S := (cmp_ne (d := .list []) (e := .list []) rfl rfl rfl rfl).trans rfl
theorem in_none : isNoneD .none = true := rfl
theorem in_int {i : Int} : isNoneD (.int i) = false := rfl
theorem in_bool {i : Bool} : isNoneD (.bool i) = false := rfl
theorem in_str {i : Str} : isNoneD (.str i) = false := rfl
theorem in_tup {i : List D} : isNoneD (.tuple i) = false := rfl
theorem in_lst {i : List D} : isNoneD (.list i) = false := rfl
theorem l_rep {ds : List D} {n : Int} (h : -(2 ^ 63) ≤ n ∧ n < 2 ^ 63 ∧ ds.length * n.toNat ≤ sizeLine) : W (opR .Mult (.v (.list ds)) (.v (.int n)) S) Q E = Q (.v (.list (List.replicate n.toNat ds).flatten)) S := by
  simp only [opR, rdX, opD, if_pos h, resD]
  rfl
theorem l_add {ds es : List D} (h : ds.length + es.length ≤ sizeLine) : W (opR .Add (.v (.list ds)) (.v (.list es)) S) Q E = Q (.v (.list (ds ++ es))) S := by
  simp only [opR, rdX, opD, if_pos h, resD]
  rfl
theorem o_pow {a b : Int} : W (opR .Pow (.v (.int a)) (.v (.int b)) S) Q E = ((0 ≤ b ∧ ((Builtin.Int.intBits a : Nat) : Int) * b ≤ 2 ^ 27) ∧ Q (.v (.int (a ^ b.toNat))) S) := by
  by_cases h : 0 ≤ b ∧ ((Builtin.Int.intBits a : Nat) : Int) * b ≤ 2 ^ 27
  · simp only [opR, rdX, opD, if_pos h, resD, W]
    exact propext ⟨fun z => ⟨h, z⟩, fun z => z.2⟩
  · simp only [opR, rdX, opD, if_neg h, resD, W]
    exact propext ⟨fun z => z.elim, fun z => h z.1⟩
end
end EV
namespace EV
open PySem PySem.Spec PyProof.Rows L2
section
variable {ρ : Rho} {S : Sto} {QS : Fl → Rho → Sto → Prop} {ES : Str → D → Rho → Sto → Prop} {Q : R → Sto → Prop} {E : EK} {a b d : D} {l : List D} {j : Nat}
theorem r_0 (h : S[j]? = some (some (a :: l))) : W (ixR (.r j) (.v (.int 0)) S) Q E = Q (.v a) S := x_r h at0
theorem r_1 (h : S[j]? = some (some (a :: b :: l))) : W (ixR (.r j) (.v (.int 1)) S) Q E = Q (.v b) S := x_r h at1
theorem st_0 (h : S[j]? = some (some (a :: l))) : WS (setR (.r j) (.v (.int 0)) d ρ S) QS ES = QS .nx ρ (S.set j (some (d :: l))) := by
  have e : ixN (a :: l).length 0 = some 0 := by
    unfold ixN
    rw [if_pos (by omega), if_pos (by simp only [List.length_cons]; omega)]
    rfl
  rw [set_ok h e]
  rfl
theorem st_1 (h : S[j]? = some (some (a :: b :: l))) : WS (setR (.r j) (.v (.int 1)) d ρ S) QS ES = QS .nx ρ (S.set j (some (a :: d :: l))) := by
  have e : ixN (a :: b :: l).length 1 = some 1 := by
    unfold ixN
    rw [if_pos (by omega), if_pos (by simp only [List.length_cons]; omega)]
    rfl
  rw [set_ok h e]
  rfl
theorem set_at {x : Option (List D)} (h : S[j]? = some x) (l : List D) : (S.set j (some l))[j]? = some (some l) := List.getElem?_set_self (List.getElem?_eq_some_iff.mp h).1
end
/-- where two ways meet again -/
def JN (J : Rho → Sto → Prop) (QS : Fl → Rho → Sto → Prop) : Fl → Rho → Sto → Prop
  | .nx, ρ, S => J ρ S
  | f, ρ, S => QS f ρ S
theorem JN_nx {J : Rho → Sto → Prop} {QS : Fl → Rho → Sto → Prop} {ρ : Rho} {S : Sto} : JN J QS .nx ρ S = J ρ S := Eq.trans (Eq.refl _) rfl
theorem JN_rt {J : Rho → Sto → Prop} {QS : Fl → Rho → Sto → Prop} {ρ : Rho} {S : Sto} {r : R} : JN J QS (.rt r) ρ S = QS (.rt r) ρ S := Eq.trans (Eq.refl _) rfl
theorem JN_bk {J : Rho → Sto → Prop} {QS : Fl → Rho → Sto → Prop} {ρ : Rho} {S : Sto} : JN J QS .bk ρ S = QS .bk ρ S := Eq.trans (Eq.refl _) rfl
theorem JN_ct {J : Rho → Sto → Prop} {QS : Fl → Rho → Sto → Prop} {ρ : Rho} {S : Sto} : JN J QS .ct ρ S = QS .ct ρ S := Eq.trans (Eq.refl _) rfl
theorem nx_join {x : ResS} {f : Rho → Sto → ResS} {QS : Fl → Rho → Sto → Prop} {ES : Str → D → Rho → Sto → Prop} (J : Rho → Sto → Prop) (h1 : WS x (JN J QS) ES) (h2 : ∀ ρ S, J ρ S → WS (f ρ S) QS ES) : WS x (NX f QS ES) ES := by
  cases x with
  | ok fl ρ S => cases fl <;> first | exact h2 _ _ h1 | exact h1
  | ex c d ρ S => exact h1
  | no => exact h1
/-- a deck at j: two numbers, not below zero -/
structure Deck (S : Sto) (j : Nat) : Prop where
  ex : ∃ x s : Int, S[j]? = some (some [.int x, .int s]) ∧ 0 ≤ x ∧ 0 ≤ s ∧ s < 2 ^ 64
/-- all but j as it was -/
structure Same (S S' : Sto) (j : Nat) : Prop where
  len : S'.length = S.length
  at_ : ∀ i, i ≠ j → S'[i]? = S[i]?
theorem Same.refl {S : Sto} {j : Nat} : Same S S j := ⟨rfl, fun _ _ => rfl⟩
theorem Same.trans {S S1 S2 : Sto} {j : Nat} (h : Same S S1 j) (h' : Same S1 S2 j) : Same S S2 j := ⟨h'.len.trans h.len, fun i hi => (h'.at_ i hi).trans (h.at_ i hi)⟩
theorem Same.set {S : Sto} {j : Nat} {x : Option (List D)} : Same S (S.set j x) j := ⟨by simp, fun i hi => List.getElem?_set_ne (Ne.symm hi)⟩
theorem Deck.lt {S : Sto} {j : Nat} (h : Deck S j) : j < S.length := by
  obtain ⟨x, s, e, _⟩ := h.ex
  exact (List.getElem?_eq_some_iff.mp e).1
theorem Deck.app {S S' : Sto} {j : Nat} (h : Deck S j) : Deck (S ++ S') j := by
  have lt := h.lt
  obtain ⟨x, s, e, r⟩ := h.ex
  exact ⟨x, s, by rw [List.getElem?_append_left lt]; exact e, r⟩
theorem Deck.take {S : Sto} {j n : Nat} (h : Deck S j) (hn : j < n) : Deck (S.take n) j := by
  obtain ⟨x, s, e, r⟩ := h.ex
  exact ⟨x, s, by rw [List.getElem?_take_of_lt hn]; exact e, r⟩
/-- behind a call that made lists of its own -/
theorem Same.cut {S S2 : Sto} {j : Nat} {T : Sto} (h : Same (S ++ T) S2 j) : Same S (S2.take S.length) j := by
  refine ⟨?_, fun i hi => ?_⟩
  · rw [List.length_take, h.len, List.length_append]
    omega
  · by_cases hl : i < S.length
    · rw [List.getElem?_take_of_lt hl, h.at_ i hi, List.getElem?_append_left hl]
    · rw [List.getElem?_eq_none (by rw [List.length_take]; omega), List.getElem?_eq_none (by omega)]
end EV

set_option Elab.async false
set_option linter.all false
set_option maxRecDepth 100000
set_option maxHeartbeats 0
/-! The program of law_k02_whole_signs_and_floors in the compact form (printed by wip/gen.py). -/
namespace LawP
open PySem PySem.Spec PyProof.Rows L2 EV
def top (i : Nat) : Stmt := PySem.Challenge.pw_quasifloors_k02_whole_signs_and_floors.main.body.getD i (.Pass ⟨0, 0, 0, 0⟩)
def d_is_integer : Df := { ps := ["value"], N := ["value"], mu := false, forms := [(1, [])], body := .cons (.ret (.bop .And (.cons (.isi (.loc 0) false ["int"]) (.cons (.not (.isi (.loc 0) false ["bool"])) (.nil))))) (.nil) }
def d_lowest : Df := { ps := ["a", "b", "n"], N := ["a", "b", "n", "common"], mu := false, forms := [(3, [])], body := .cons (.asg (.nm 3) (.bi "gcd" (.cons (.bi "gcd" (.cons (.loc 0) (.cons (.loc 1) (.nil)))) (.cons (.loc 2) (.nil))))) (.cons (.iff (.cmp .Lt (.loc 2) (.lit (.int 0))) (.cons (.asg (.nm 3) (.neg (.loc 3))) (.nil)) (.nil)) (.cons (.ret (.tup (.cons (.op .FloorDiv (.loc 0) (.loc 3)) (.cons (.op .FloorDiv (.loc 1) (.loc 3)) (.cons (.op .FloorDiv (.loc 2) (.loc 3)) (.nil)))))) (.nil))) }
def d_is_lowest : Df := { ps := ["told"], N := ["told", "a"], mu := false, forms := [(1, [])], body := .cons (.iff (.bop .Or (.cons (.not (.isi (.loc 0) false ["tuple"])) (.cons (.cmp .NotEq (.bi "len" (.cons (.loc 0) (.nil))) (.lit (.int 3))) (.cons (.not (.bi "all" (.cons (.lc false [("a", 1)] (.nm 1) (.seq (.loc 0)) (.no) (.call "is_integer" (.cons (.loc 1) (.nil)) [] (.nil))) (.nil)))) (.nil))))) (.cons (.ret (.lit (.bool false))) (.nil)) (.nil)) (.cons (.ret (.bop .And (.cons (.cmp .Gt (.ix (.loc 0) (.lit (.int 2))) (.lit (.int 0))) (.cons (.cmp .Eq (.call "lowest" (.cons (.ix (.loc 0) (.lit (.int 0))) (.cons (.ix (.loc 0) (.lit (.int 1))) (.cons (.ix (.loc 0) (.lit (.int 2))) (.nil)))) [] (.nil)) (.loc 0)) (.nil))))) (.nil)) }
def d_sum_of_two : Df := { ps := ["p", "q"], N := ["p", "q"], mu := false, forms := [(2, [])], body := .cons (.ret (.call "lowest" (.cons (.op .Add (.op .Mult (.ix (.loc 0) (.lit (.int 0))) (.ix (.loc 1) (.lit (.int 2)))) (.op .Mult (.ix (.loc 1) (.lit (.int 0))) (.ix (.loc 0) (.lit (.int 2))))) (.cons (.op .Add (.op .Mult (.ix (.loc 0) (.lit (.int 1))) (.ix (.loc 1) (.lit (.int 2)))) (.op .Mult (.ix (.loc 1) (.lit (.int 1))) (.ix (.loc 0) (.lit (.int 2))))) (.cons (.op .Mult (.ix (.loc 0) (.lit (.int 2))) (.ix (.loc 1) (.lit (.int 2)))) (.nil)))) [] (.nil))) (.nil) }
def d_opposite : Df := { ps := ["p"], N := ["p"], mu := false, forms := [(1, [])], body := .cons (.ret (.tup (.cons (.neg (.ix (.loc 0) (.lit (.int 0)))) (.cons (.neg (.ix (.loc 0) (.lit (.int 1)))) (.cons (.ix (.loc 0) (.lit (.int 2))) (.nil)))))) (.nil) }
def d_difference : Df := { ps := ["p", "q"], N := ["p", "q"], mu := false, forms := [(2, [])], body := .cons (.ret (.call "sum_of_two" (.cons (.loc 0) (.cons (.call "opposite" (.cons (.loc 1) (.nil)) [] (.nil)) (.nil))) [] (.nil))) (.nil) }
def d_times_integer : Df := { ps := ["p", "k"], N := ["p", "k"], mu := false, forms := [(2, [])], body := .cons (.ret (.call "lowest" (.cons (.op .Mult (.ix (.loc 0) (.lit (.int 0))) (.loc 1)) (.cons (.op .Mult (.ix (.loc 0) (.lit (.int 1))) (.loc 1)) (.cons (.ix (.loc 0) (.lit (.int 2))) (.nil)))) [] (.nil))) (.nil) }
def d_rooted : Df := { ps := ["kind", "p"], N := ["kind", "p", "a", "b", "n"], mu := false, forms := [(2, [])], body := .cons (.asg (.tp (.cons (.nm 2) (.cons (.nm 3) (.cons (.nm 4) (.nil))))) (.loc 1)) (.cons (.ret (.ite (.cmp .Eq (.loc 0) (.lit (.int 5))) (.tup (.cons (.op .Add (.op .Mult (.lit (.int 2)) (.loc 2)) (.loc 3)) (.cons (.loc 3) (.cons (.op .Mult (.lit (.int 2)) (.loc 4)) (.nil))))) (.tup (.cons (.loc 2) (.cons (.loc 3) (.cons (.loc 4) (.nil))))))) (.nil)) }
def d_sign_of : Df := { ps := ["kind", "p"], N := ["kind", "p", "x", "y", "larger"], mu := false, forms := [(2, [])], body := .cons (.asg (.tp (.cons (.nm 2) (.cons (.nm 3) (.nil)))) (.slc (.call "rooted" (.cons (.loc 0) (.cons (.loc 1) (.nil))) [] (.nil)) (.no) (.so (.lit (.int 2))))) (.cons (.iff (.bop .And (.cons (.cmp .Eq (.loc 2) (.lit (.int 0))) (.cons (.cmp .Eq (.loc 3) (.lit (.int 0))) (.nil)))) (.cons (.ret (.lit (.int 0))) (.nil)) (.nil)) (.cons (.iff (.bop .And (.cons (.cmp .GtE (.loc 2) (.lit (.int 0))) (.cons (.cmp .GtE (.loc 3) (.lit (.int 0))) (.nil)))) (.cons (.ret (.lit (.int 1))) (.nil)) (.nil)) (.cons (.iff (.bop .And (.cons (.cmp .LtE (.loc 2) (.lit (.int 0))) (.cons (.cmp .LtE (.loc 3) (.lit (.int 0))) (.nil)))) (.cons (.ret (.neg (.lit (.int 1)))) (.nil)) (.nil)) (.cons (.asg (.nm 4) (.cmp .Gt (.op .Mult (.loc 2) (.loc 2)) (.op .Mult (.op .Mult (.loc 0) (.loc 3)) (.loc 3)))) (.cons (.ret (.ite (.cmp .Eq (.cmp .Gt (.loc 2) (.lit (.int 0))) (.loc 4)) (.lit (.int 1)) (.neg (.lit (.int 1))))) (.nil)))))) }
def d_order : Df := { ps := ["kind", "p", "q"], N := ["kind", "p", "q"], mu := false, forms := [(3, [])], body := .cons (.ret (.call "sign_of" (.cons (.loc 0) (.cons (.call "difference" (.cons (.loc 1) (.cons (.loc 2) (.nil))) [] (.nil)) (.nil))) [] (.nil))) (.nil) }
def d_floor_of_number : Df := { ps := ["kind", "p"], N := ["kind", "p", "x", "y", "n", "root"], mu := false, forms := [(2, [])], body := .cons (.asg (.tp (.cons (.nm 2) (.cons (.nm 3) (.cons (.nm 4) (.nil))))) (.call "rooted" (.cons (.loc 0) (.cons (.loc 1) (.nil))) [] (.nil))) (.cons (.asg (.nm 5) (.bi "isqrt" (.cons (.op .Mult (.op .Mult (.loc 0) (.loc 3)) (.loc 3)) (.nil)))) (.cons (.iff (.cmp .Lt (.loc 3) (.lit (.int 0))) (.cons (.asg (.nm 5) (.op .Sub (.neg (.loc 5)) (.lit (.int 1)))) (.nil)) (.nil)) (.cons (.ret (.op .FloorDiv (.op .Add (.loc 2) (.loc 5)) (.loc 4))) (.nil)))) }
def d_check_kind : Df := { ps := ["kind"], N := ["kind"], mu := false, forms := [(1, [])], body := .cons (.iff (.bop .Or (.cons (.not (.call "is_integer" (.cons (.loc 0) (.nil)) [] (.nil))) (.cons (.cmp .NotIn (.loc 0) (.gl "KINDS")) (.nil)))) (.cons (.rai "InvalidKind" (.loc 0)) (.nil)) (.nil)) (.nil) }
def d_check_number : Df := { ps := ["p"], N := ["p"], mu := false, forms := [(1, [])], body := .cons (.iff (.not (.call "is_number" (.cons (.loc 0) (.nil)) [] (.nil))) (.cons (.rai "InvalidNumber" (.loc 0)) (.nil)) (.nil)) (.nil) }
def d_check_count : Df := { ps := ["n"], N := ["n"], mu := false, forms := [(1, [])], body := .cons (.iff (.bop .Or (.cons (.not (.call "is_integer" (.cons (.loc 0) (.nil)) [] (.nil))) (.cons (.cmp .Lt (.loc 0) (.lit (.int 0))) (.nil)))) (.cons (.rai "InvalidNumber" (.loc 0)) (.nil)) (.nil)) (.nil) }
def d_is_number : Df := { ps := ["told"], N := ["told"], mu := false, forms := [(1, [])], body := .cons (.ret (.call "is_lowest" (.cons (.loc 0) (.nil)) [] (.nil))) (.nil) }
def d_sign : Df := { ps := ["kind", "p"], N := ["kind", "p"], mu := false, forms := [(0, ["p", "kind"]), (2, [])], body := .cons (.ex (.call "check_kind" (.cons (.loc 0) (.nil)) [] (.nil))) (.cons (.ex (.call "check_number" (.cons (.loc 1) (.nil)) [] (.nil))) (.cons (.ret (.call "sign_of" (.cons (.loc 0) (.cons (.loc 1) (.nil))) [] (.nil))) (.nil))) }
def d_compared : Df := { ps := ["kind", "p", "q"], N := ["kind", "p", "q"], mu := false, forms := [(0, ["q", "p", "kind"]), (3, [])], body := .cons (.ex (.call "check_kind" (.cons (.loc 0) (.nil)) [] (.nil))) (.cons (.ex (.call "check_number" (.cons (.loc 1) (.nil)) [] (.nil))) (.cons (.ex (.call "check_number" (.cons (.loc 2) (.nil)) [] (.nil))) (.cons (.ret (.call "order" (.cons (.loc 0) (.cons (.loc 1) (.cons (.loc 2) (.nil)))) [] (.nil))) (.nil)))) }
def d_floor_of : Df := { ps := ["kind", "p"], N := ["kind", "p"], mu := false, forms := [(0, ["p", "kind"]), (2, [])], body := .cons (.ex (.call "check_kind" (.cons (.loc 0) (.nil)) [] (.nil))) (.cons (.ex (.call "check_number" (.cons (.loc 1) (.nil)) [] (.nil))) (.cons (.ret (.call "floor_of_number" (.cons (.loc 0) (.cons (.loc 1) (.nil))) [] (.nil))) (.nil))) }
def d_about : Df := { ps := ["kind", "p", "n"], N := ["kind", "p", "n", "power", "turn"], mu := false, forms := [(0, ["n", "p", "kind"]), (3, [])], body := .cons (.ex (.call "check_kind" (.cons (.loc 0) (.nil)) [] (.nil))) (.cons (.ex (.call "check_number" (.cons (.loc 1) (.nil)) [] (.nil))) (.cons (.ex (.call "check_count" (.cons (.loc 2) (.nil)) [] (.nil))) (.cons (.asg (.nm 3) (.lit (.int 1))) (.cons (.for_ (.nm 4) (.rng1 (.loc 2)) (.cons (.asg (.nm 3) (.op .Mult (.lit (.int 10)) (.loc 3))) (.nil))) (.cons (.ret (.call "floor_of_number" (.cons (.loc 0) (.cons (.call "times_integer" (.cons (.loc 1) (.cons (.loc 3) (.nil))) [] (.nil)) (.nil))) [] (.nil))) (.nil)))))) }
def d_unit : Df := { ps := ["kind"], N := ["kind"], mu := false, forms := [(0, ["kind"]), (1, [])], body := .cons (.ex (.call "check_kind" (.cons (.loc 0) (.nil)) [] (.nil))) (.cons (.ret (.gix "UNITS" (.loc 0))) (.nil)) }
def d_stretch_unit : Df := { ps := ["kind"], N := ["kind"], mu := false, forms := [(0, ["kind"]), (1, [])], body := .cons (.ex (.call "check_kind" (.cons (.loc 0) (.nil)) [] (.nil))) (.cons (.ret (.gix "STRETCH_UNITS" (.loc 0))) (.nil)) }
def d__law_deck : Df := { ps := ["script", "at"], N := ["script", "at", "cell", "stir"], mu := true, forms := [(2, [])], body := .cons (.asg (.nm 2) (.lit (.int 0))) (.cons (.iff (.cmp .Lt (.loc 1) (.bi "len" (.cons (.loc 0) (.nil)))) (.cons (.asg (.nm 2) (.ix (.loc 0) (.loc 1))) (.nil)) (.nil)) (.cons (.asg (.nm 3) (.op .Mod (.bi "int" (.cons (.op .Add (.op .Add (.loc 2) (.op .Mult (.lit (.int 7919)) (.loc 1))) (.lit (.int 104729))) (.nil))) (.lit (.int 2305843009213693951)))) (.cons (.asg (.nm 3) (.op .Mod (.bi "int" (.cons (.op .Add (.op .Add (.op .Mult (.op .Mult (.loc 3) (.loc 3)) (.loc 3)) (.op .Mult (.lit (.int 31)) (.loc 1))) (.lit (.int 7))) (.nil))) (.lit (.int 2305843009213693951)))) (.cons (.iff (.cmp .Lt (.loc 2) (.op .Pow (.lit (.int 10)) (.lit (.int 18)))) (.cons (.ret (.lst true (.cons (.lit (.int 0)) (.cons (.loc 3) (.nil))))) (.nil)) (.nil)) (.cons (.ret (.lst true (.cons (.op .Sub (.loc 2) (.op .Pow (.lit (.int 10)) (.lit (.int 18)))) (.cons (.loc 3) (.nil))))) (.nil)))))) }
def d__law_take : Df := { ps := ["deck", "many"], N := ["deck", "many", "taken"], mu := false, forms := [(2, [])], body := .cons (.iff (.cmp .Gt (.ix (.loc 0) (.lit (.int 0))) (.lit (.int 0))) (.cons (.asg (.nm 2) (.op .Mod (.bi "int" (.cons (.ix (.loc 0) (.lit (.int 0))) (.nil))) (.loc 1))) (.cons (.set (.loc 0) (.lit (.int 0)) (.op .FloorDiv (.ix (.loc 0) (.lit (.int 0))) (.loc 1))) (.cons (.ret (.loc 2)) (.nil)))) (.nil)) (.cons (.set (.loc 0) (.lit (.int 1)) (.op .Mod (.bi "int" (.cons (.op .Add (.op .Mult (.ix (.loc 0) (.lit (.int 1))) (.lit (.int 6364136223846793005))) (.lit (.int 1442695040888963407))) (.nil))) (.op .Pow (.lit (.int 2)) (.lit (.int 64))))) (.cons (.ret (.op .Mod (.op .FloorDiv (.ix (.loc 0) (.lit (.int 1))) (.op .Pow (.lit (.int 2)) (.lit (.int 33)))) (.loc 1))) (.nil))) }
def d__law_gcd : Df := { ps := ["u", "v"], N := ["u", "v"], mu := false, forms := [(2, [])], body := .cons (.wh (.cmp .NotEq (.loc 1) (.lit (.int 0))) (.cons (.par2 0 1 (.loc 1) (.op .Mod (.bi "int" (.cons (.loc 0) (.nil))) (.loc 1))) (.nil))) (.cons (.ret (.loc 0)) (.nil)) }
def d__law_num : Df := { ps := ["x", "y", "m"], N := ["x", "y", "m", "common"], mu := false, forms := [(3, [])], body := .cons (.asg (.nm 3) (.call "_law_gcd" (.cons (.call "_law_gcd" (.cons (.bi "abs" (.cons (.loc 0) (.nil))) (.cons (.bi "abs" (.cons (.loc 1) (.nil))) (.nil))) [] (.nil)) (.cons (.bi "abs" (.cons (.loc 2) (.nil))) (.nil))) [] (.nil))) (.cons (.iff (.cmp .Lt (.loc 2) (.lit (.int 0))) (.cons (.asg (.nm 3) (.neg (.loc 3))) (.nil)) (.nil)) (.cons (.ret (.tup (.cons (.op .FloorDiv (.loc 0) (.loc 3)) (.cons (.op .FloorDiv (.loc 1) (.loc 3)) (.cons (.op .FloorDiv (.loc 2) (.loc 3)) (.nil)))))) (.nil))) }
def d__law_plus : Df := { ps := ["u", "v"], N := ["u", "v"], mu := false, forms := [(2, [])], body := .cons (.ret (.call "_law_num" (.cons (.op .Add (.op .Mult (.ix (.loc 0) (.lit (.int 0))) (.ix (.loc 1) (.lit (.int 2)))) (.op .Mult (.ix (.loc 1) (.lit (.int 0))) (.ix (.loc 0) (.lit (.int 2))))) (.cons (.op .Add (.op .Mult (.ix (.loc 0) (.lit (.int 1))) (.ix (.loc 1) (.lit (.int 2)))) (.op .Mult (.ix (.loc 1) (.lit (.int 1))) (.ix (.loc 0) (.lit (.int 2))))) (.cons (.op .Mult (.ix (.loc 0) (.lit (.int 2))) (.ix (.loc 1) (.lit (.int 2)))) (.nil)))) [] (.nil))) (.nil) }
def d__law_minus : Df := { ps := ["u", "v"], N := ["u", "v"], mu := false, forms := [(2, [])], body := .cons (.ret (.call "_law_num" (.cons (.op .Sub (.op .Mult (.ix (.loc 0) (.lit (.int 0))) (.ix (.loc 1) (.lit (.int 2)))) (.op .Mult (.ix (.loc 1) (.lit (.int 0))) (.ix (.loc 0) (.lit (.int 2))))) (.cons (.op .Sub (.op .Mult (.ix (.loc 0) (.lit (.int 1))) (.ix (.loc 1) (.lit (.int 2)))) (.op .Mult (.ix (.loc 1) (.lit (.int 1))) (.ix (.loc 0) (.lit (.int 2))))) (.cons (.op .Mult (.ix (.loc 0) (.lit (.int 2))) (.ix (.loc 1) (.lit (.int 2)))) (.nil)))) [] (.nil))) (.nil) }
def d__law_times : Df := { ps := ["field", "u", "v"], N := ["field", "u", "v", "ends", "both", "cross", "bottom"], mu := false, forms := [(3, [])], body := .cons (.par2 3 4 (.op .Mult (.ix (.loc 1) (.lit (.int 0))) (.ix (.loc 2) (.lit (.int 0)))) (.op .Mult (.ix (.loc 1) (.lit (.int 1))) (.ix (.loc 2) (.lit (.int 1))))) (.cons (.par2 5 6 (.op .Add (.op .Mult (.ix (.loc 1) (.lit (.int 0))) (.ix (.loc 2) (.lit (.int 1)))) (.op .Mult (.ix (.loc 1) (.lit (.int 1))) (.ix (.loc 2) (.lit (.int 0))))) (.op .Mult (.ix (.loc 1) (.lit (.int 2))) (.ix (.loc 2) (.lit (.int 2))))) (.cons (.iff (.cmp .Eq (.loc 0) (.lit (.int 5))) (.cons (.ret (.call "_law_num" (.cons (.op .Add (.loc 3) (.loc 4)) (.cons (.op .Add (.loc 5) (.loc 4)) (.cons (.loc 6) (.nil)))) [] (.nil))) (.nil)) (.nil)) (.cons (.ret (.call "_law_num" (.cons (.op .Add (.loc 3) (.op .Mult (.loc 0) (.loc 4))) (.cons (.loc 5) (.cons (.loc 6) (.nil)))) [] (.nil))) (.nil)))) }
def d__law_sign : Df := { ps := ["field", "u"], N := ["field", "u", "x", "y", "more"], mu := false, forms := [(2, [])], body := .cons (.par2 2 3 (.ix (.loc 1) (.lit (.int 0))) (.ix (.loc 1) (.lit (.int 1)))) (.cons (.iff (.cmp .Eq (.loc 0) (.lit (.int 5))) (.cons (.par2 2 3 (.op .Add (.op .Mult (.lit (.int 2)) (.loc 2)) (.loc 3)) (.loc 3)) (.nil)) (.nil)) (.cons (.iff (.cmp .GtE (.op .Mult (.loc 2) (.loc 3)) (.lit (.int 0))) (.cons (.ret (.op .Sub (.bi "int" (.cons (.cmp .Gt (.op .Add (.loc 2) (.loc 3)) (.lit (.int 0))) (.nil))) (.bi "int" (.cons (.cmp .Lt (.op .Add (.loc 2) (.loc 3)) (.lit (.int 0))) (.nil))))) (.nil)) (.nil)) (.cons (.asg (.nm 4) (.op .Sub (.op .Mult (.loc 2) (.loc 2)) (.op .Mult (.op .Mult (.loc 0) (.loc 3)) (.loc 3)))) (.cons (.ret (.ite (.cmp .Gt (.loc 2) (.lit (.int 0))) (.op .Sub (.bi "int" (.cons (.cmp .Gt (.loc 4) (.lit (.int 0))) (.nil))) (.bi "int" (.cons (.cmp .Lt (.loc 4) (.lit (.int 0))) (.nil)))) (.op .Sub (.bi "int" (.cons (.cmp .Lt (.loc 4) (.lit (.int 0))) (.nil))) (.bi "int" (.cons (.cmp .Gt (.loc 4) (.lit (.int 0))) (.nil)))))) (.nil))))) }
def d__law_same : Df := { ps := ["found", "due"], N := ["found", "due", "at"], mu := false, forms := [(2, [])], body := .cons (.iff (.isi (.loc 1) true ["tuple", "list"]) (.cons (.iff (.bop .Or (.cons (.cmp .NotEq (.isi (.loc 0) false ["tuple"]) (.isi (.loc 1) false ["tuple"])) (.cons (.cmp .NotEq (.isi (.loc 0) false ["list"]) (.isi (.loc 1) false ["list"])) (.nil)))) (.cons (.ret (.lit (.bool false))) (.nil)) (.nil)) (.cons (.iff (.cmp .NotEq (.bi "len" (.cons (.loc 0) (.nil))) (.bi "len" (.cons (.loc 1) (.nil)))) (.cons (.ret (.lit (.bool false))) (.nil)) (.nil)) (.cons (.ret (.cmp .Eq (.lc false [("at", 2)] (.nm 2) (.rng1 (.bi "len" (.cons (.loc 1) (.nil)))) (.so (.not (.call "_law_same" (.cons (.ix (.loc 0) (.loc 2)) (.cons (.ix (.loc 1) (.loc 2)) (.nil))) [] (.nil)))) (.loc 2)) (.lst false (.nil)))) (.nil)))) (.nil)) (.cons (.iff (.cmp .Is (.loc 1) (.lit (.none))) (.cons (.ret (.cmp .Is (.loc 0) (.lit (.none)))) (.nil)) (.nil)) (.cons (.iff (.isi (.loc 1) false ["str"]) (.cons (.ret (.bop .And (.cons (.isi (.loc 0) false ["str"]) (.cons (.cmp .Eq (.loc 0) (.loc 1)) (.nil))))) (.nil)) (.nil)) (.cons (.iff (.bop .Or (.cons (.isi (.loc 1) false ["bool"]) (.cons (.isi (.loc 0) false ["bool"]) (.nil)))) (.cons (.ret (.bop .And (.cons (.isi (.loc 1) false ["bool"]) (.cons (.isi (.loc 0) false ["bool"]) (.cons (.cmp .Eq (.loc 0) (.loc 1)) (.nil)))))) (.nil)) (.nil)) (.cons (.ret (.bop .And (.cons (.isi (.loc 0) false ["int"]) (.cons (.cmp .Eq (.loc 0) (.loc 1)) (.nil))))) (.nil))))) }
def d__law_number : Df := { ps := ["deck"], N := ["deck", "way"], mu := false, forms := [(1, [])], body := .cons (.asg (.nm 1) (.call "_law_take" (.cons (.loc 0) (.cons (.lit (.int 5)) (.nil))) [] (.nil))) (.cons (.iff (.cmp .Eq (.loc 1) (.lit (.int 0))) (.cons (.ret (.tup (.cons (.op .Sub (.call "_law_take" (.cons (.loc 0) (.cons (.lit (.int 9)) (.nil))) [] (.nil)) (.lit (.int 4))) (.cons (.lit (.int 0)) (.cons (.lit (.int 1)) (.nil)))))) (.nil)) (.nil)) (.cons (.iff (.cmp .Lt (.loc 1) (.lit (.int 4))) (.cons (.ret (.call "_law_num" (.cons (.op .Sub (.call "_law_take" (.cons (.loc 0) (.cons (.lit (.int 9)) (.nil))) [] (.nil)) (.lit (.int 4))) (.cons (.op .Sub (.call "_law_take" (.cons (.loc 0) (.cons (.lit (.int 5)) (.nil))) [] (.nil)) (.lit (.int 2))) (.cons (.op .Add (.lit (.int 1)) (.call "_law_take" (.cons (.loc 0) (.cons (.ix (.lst false (.cons (.lit (.int 1)) (.cons (.lit (.int 3)) (.cons (.lit (.int 12)) (.nil))))) (.op .Sub (.loc 1) (.lit (.int 1)))) (.nil))) [] (.nil))) (.nil)))) [] (.nil))) (.nil)) (.nil)) (.cons (.ret (.call "_law_num" (.cons (.op .Sub (.call "_law_take" (.cons (.loc 0) (.cons (.lit (.int 1999)) (.nil))) [] (.nil)) (.lit (.int 999))) (.cons (.op .Sub (.call "_law_take" (.cons (.loc 0) (.cons (.lit (.int 1999)) (.nil))) [] (.nil)) (.lit (.int 999))) (.cons (.op .Add (.lit (.int 1)) (.call "_law_take" (.cons (.loc 0) (.cons (.lit (.int 12)) (.nil))) [] (.nil))) (.nil)))) [] (.nil))) (.nil)))) }
def d__law_near : Df := { ps := ["deck", "field"], N := ["deck", "field", "step", "found", "x", "y", "turn", "square"], mu := false, forms := [(2, [])], body := .cons (.asg (.nm 2) (.dix [.inl 2, .inl 3, .inl 5] (.cons (.tup (.cons (.neg (.lit (.int 1))) (.cons (.lit (.int 1)) (.cons (.lit (.int 1)) (.nil))))) (.cons (.tup (.cons (.lit (.int 2)) (.cons (.neg (.lit (.int 1))) (.cons (.lit (.int 1)) (.nil))))) (.cons (.tup (.cons (.lit (.int 1)) (.cons (.neg (.lit (.int 1))) (.cons (.lit (.int 1)) (.nil))))) (.nil)))) (.loc 1))) (.cons (.par3 3 4 5 (.ix (.lst false (.cons (.tup (.cons (.lit (.int 1)) (.cons (.lit (.int 0)) (.cons (.lit (.int 1)) (.nil))))) (.cons (.tup (.cons (.neg (.lit (.int 1))) (.cons (.lit (.int 0)) (.cons (.lit (.int 1)) (.nil))))) (.cons (.call "_law_number" (.cons (.loc 0) (.nil)) [] (.nil)) (.nil))))) (.call "_law_take" (.cons (.loc 0) (.cons (.lit (.int 3)) (.nil))) [] (.nil))) (.lit (.int 1)) (.lit (.int 0))) (.cons (.for_ (.nm 6) (.rng1 (.call "_law_take" (.cons (.loc 0) (.cons (.ix (.lst false (.cons (.lit (.int 30)) (.cons (.lit (.int 30)) (.cons (.lit (.int 30)) (.cons (.lit (.int 700)) (.nil)))))) (.call "_law_take" (.cons (.loc 0) (.cons (.lit (.int 4)) (.nil))) [] (.nil))) (.nil))) [] (.nil))) (.cons (.asg (.nm 7) (.op .Mult (.op .Mult (.loc 5) (.ix (.loc 2) (.lit (.int 1)))) (.ite (.cmp .Eq (.loc 1) (.lit (.int 5))) (.lit (.int 1)) (.loc 1)))) (.cons (.par2 4 5 (.op .Add (.op .Mult (.loc 4) (.ix (.loc 2) (.lit (.int 0)))) (.loc 7)) (.op .Add (.op .Add (.op .Mult (.loc 4) (.ix (.loc 2) (.lit (.int 1)))) (.op .Mult (.loc 5) (.ix (.loc 2) (.lit (.int 0))))) (.ite (.cmp .Eq (.loc 1) (.lit (.int 5))) (.op .Mult (.loc 5) (.ix (.loc 2) (.lit (.int 1)))) (.lit (.int 0))))) (.nil)))) (.cons (.asg (.nm 3) (.call "_law_times" (.cons (.loc 1) (.cons (.loc 3) (.cons (.tup (.cons (.loc 4) (.cons (.loc 5) (.cons (.lit (.int 1)) (.nil))))) (.nil)))) [] (.nil))) (.cons (.ret (.call "_law_num" (.cons (.ix (.loc 3) (.lit (.int 0))) (.cons (.ix (.loc 3) (.lit (.int 1))) (.cons (.op .Mult (.ix (.loc 3) (.lit (.int 2))) (.op .Add (.lit (.int 1)) (.call "_law_take" (.cons (.loc 0) (.cons (.lit (.int 12)) (.nil))) [] (.nil)))) (.nil)))) [] (.nil))) (.nil))))) }
def d__law_drawn : Df := { ps := ["deck", "field"], N := ["deck", "field", "way", "base", "near", "far"], mu := false, forms := [(2, [])], body := .cons (.par2 2 3 (.call "_law_take" (.cons (.loc 0) (.cons (.lit (.int 5)) (.nil))) [] (.nil)) (.call "_law_number" (.cons (.loc 0) (.nil)) [] (.nil))) (.cons (.iff (.cmp .Lt (.loc 2) (.lit (.int 2))) (.cons (.ret (.loc 3)) (.nil)) (.nil)) (.cons (.iff (.cmp .Eq (.loc 2) (.lit (.int 4))) (.cons (.ret (.call "_law_num" (.cons (.op .Add (.op .Mult (.ix (.loc 3) (.lit (.int 0))) (.op .Pow (.lit (.int 10)) (.lit (.int 20)))) (.call "_law_take" (.cons (.loc 0) (.cons (.op .Pow (.lit (.int 10)) (.lit (.int 9))) (.nil))) [] (.nil))) (.cons (.op .Sub (.op .Mult (.ix (.loc 3) (.lit (.int 1))) (.op .Pow (.lit (.int 10)) (.lit (.int 20)))) (.call "_law_take" (.cons (.loc 0) (.cons (.op .Pow (.lit (.int 10)) (.lit (.int 9))) (.nil))) [] (.nil))) (.cons (.ix (.loc 3) (.lit (.int 2))) (.nil)))) [] (.nil))) (.nil)) (.nil)) (.cons (.asg (.nm 4) (.call "_law_near" (.cons (.loc 0) (.cons (.loc 1) (.nil))) [] (.nil))) (.cons (.asg (.nm 5) (.ix (.lst false (.cons (.lit (.int 1000)) (.cons (.op .Pow (.lit (.int 10)) (.lit (.int 6))) (.cons (.op .Pow (.lit (.int 10)) (.lit (.int 30))) (.nil))))) (.call "_law_take" (.cons (.loc 0) (.cons (.lit (.int 3)) (.nil))) [] (.nil)))) (.cons (.ret (.ite (.cmp .Eq (.loc 2) (.lit (.int 2))) (.loc 4) (.call "_law_plus" (.cons (.loc 4) (.cons (.tup (.cons (.op .Sub (.call "_law_take" (.cons (.loc 0) (.cons (.op .Add (.op .Mult (.lit (.int 2)) (.loc 5)) (.lit (.int 1))) (.nil))) [] (.nil)) (.loc 5)) (.cons (.lit (.int 0)) (.cons (.lit (.int 1)) (.nil))))) (.nil))) [] (.nil)))) (.nil)))))) }
def d__law_is_floor : Df := { ps := ["field", "u", "whole"], N := ["field", "u", "whole"], mu := false, forms := [(3, [])], body := .cons (.iff (.bop .Or (.cons (.not (.isi (.loc 2) false ["int"])) (.cons (.isi (.loc 2) false ["bool"]) (.nil)))) (.cons (.ret (.lit (.bool false))) (.nil)) (.nil)) (.cons (.ret (.bop .And (.cons (.cmp .GtE (.call "_law_sign" (.cons (.loc 0) (.cons (.call "_law_minus" (.cons (.loc 1) (.cons (.tup (.cons (.loc 2) (.cons (.lit (.int 0)) (.cons (.lit (.int 1)) (.nil))))) (.nil))) [] (.nil)) (.nil))) [] (.nil)) (.lit (.int 0))) (.cons (.cmp .Lt (.call "_law_sign" (.cons (.loc 0) (.cons (.call "_law_minus" (.cons (.loc 1) (.cons (.tup (.cons (.op .Add (.loc 2) (.lit (.int 1))) (.cons (.lit (.int 0)) (.cons (.lit (.int 1)) (.nil))))) (.nil))) [] (.nil)) (.nil))) [] (.nil)) (.lit (.int 0))) (.nil))))) (.nil)) }
def d__law_right : Df := { ps := ["deck", "field"], N := ["deck", "field", "u", "v", "due", "whole", "many", "power", "turn"], mu := false, forms := [(2, [])], body := .cons (.par2 2 3 (.call "_law_drawn" (.cons (.loc 0) (.cons (.loc 1) (.nil))) [] (.nil)) (.call "_law_drawn" (.cons (.loc 0) (.cons (.loc 1) (.nil))) [] (.nil))) (.cons (.iff (.cmp .Eq (.call "_law_take" (.cons (.loc 0) (.cons (.lit (.int 4)) (.nil))) [] (.nil)) (.lit (.int 0))) (.cons (.asg (.nm 3) (.ix (.lst false (.cons (.loc 2) (.cons (.call "_law_plus" (.cons (.loc 2) (.cons (.call "_law_near" (.cons (.loc 0) (.cons (.loc 1) (.nil))) [] (.nil)) (.nil))) [] (.nil)) (.nil)))) (.call "_law_take" (.cons (.loc 0) (.cons (.lit (.int 2)) (.nil))) [] (.nil)))) (.nil)) (.nil)) (.cons (.iff (.not (.call "_law_same" (.cons (.lst false (.cons (.call "sign" (.cons (.loc 1) (.cons (.loc 2) (.nil))) [] (.nil)) (.cons (.call "sign" (.nil) ["p", "kind"] (.cons (.loc 2) (.cons (.loc 1) (.nil)))) (.nil)))) (.cons (.op .Mult (.lst false (.cons (.call "_law_sign" (.cons (.loc 1) (.cons (.loc 2) (.nil))) [] (.nil)) (.nil))) (.lit (.int 2))) (.nil))) [] (.nil))) (.cons (.ret (.lit (.bool false))) (.nil)) (.nil)) (.cons (.asg (.nm 4) (.call "_law_sign" (.cons (.loc 1) (.cons (.call "_law_minus" (.cons (.loc 2) (.cons (.loc 3) (.nil))) [] (.nil)) (.nil))) [] (.nil))) (.cons (.iff (.not (.call "_law_same" (.cons (.lst false (.cons (.call "compared" (.cons (.loc 1) (.cons (.loc 2) (.cons (.loc 3) (.nil)))) [] (.nil)) (.cons (.call "compared" (.nil) ["q", "p", "kind"] (.cons (.loc 3) (.cons (.loc 2) (.cons (.loc 1) (.nil))))) (.cons (.call "compared" (.cons (.loc 1) (.cons (.loc 3) (.cons (.loc 2) (.nil)))) [] (.nil)) (.nil))))) (.cons (.lst false (.cons (.loc 4) (.cons (.loc 4) (.cons (.neg (.loc 4)) (.nil))))) (.nil))) [] (.nil))) (.cons (.ret (.lit (.bool false))) (.nil)) (.nil)) (.cons (.asg (.nm 5) (.call "floor_of" (.cons (.loc 1) (.cons (.loc 2) (.nil))) [] (.nil))) (.cons (.iff (.bop .Or (.cons (.not (.call "_law_is_floor" (.cons (.loc 1) (.cons (.loc 2) (.cons (.loc 5) (.nil)))) [] (.nil))) (.cons (.not (.call "_law_same" (.cons (.call "floor_of" (.nil) ["p", "kind"] (.cons (.loc 2) (.cons (.loc 1) (.nil)))) (.cons (.loc 5) (.nil))) [] (.nil))) (.nil)))) (.cons (.ret (.lit (.bool false))) (.nil)) (.nil)) (.cons (.par2 6 7 (.call "_law_take" (.cons (.loc 0) (.cons (.lit (.int 61)) (.nil))) [] (.nil)) (.lit (.int 1))) (.cons (.for_ (.nm 8) (.rng1 (.loc 6)) (.cons (.asg (.nm 7) (.op .Mult (.lit (.int 10)) (.loc 7))) (.nil))) (.cons (.asg (.nm 5) (.call "about" (.cons (.loc 1) (.cons (.loc 2) (.cons (.loc 6) (.nil)))) [] (.nil))) (.cons (.iff (.not (.call "_law_is_floor" (.cons (.loc 1) (.cons (.call "_law_num" (.cons (.op .Mult (.ix (.loc 2) (.lit (.int 0))) (.loc 7)) (.cons (.op .Mult (.ix (.loc 2) (.lit (.int 1))) (.loc 7)) (.cons (.ix (.loc 2) (.lit (.int 2))) (.nil)))) [] (.nil)) (.cons (.loc 5) (.nil)))) [] (.nil))) (.cons (.ret (.lit (.bool false))) (.nil)) (.nil)) (.cons (.ret (.call "_law_same" (.cons (.call "about" (.nil) ["n", "p", "kind"] (.cons (.loc 6) (.cons (.loc 2) (.cons (.loc 1) (.nil))))) (.cons (.loc 5) (.nil))) [] (.nil))) (.nil)))))))))))) }
def d__law_units : Df := { ps := ["field"], N := ["field", "least", "least_high", "x", "y", "u", "v", "size"], mu := false, forms := [(1, [])], body := .cons (.asg (.tp (.cons (.nm 1) (.cons (.nm 2) (.nil)))) (.tup (.cons (.lit (.none)) (.cons (.lit (.none)) (.nil))))) (.cons (.for_ (.nm 3) (.rng2 (.neg (.lit (.int 9))) (.lit (.int 10))) (.cons (.for_ (.nm 4) (.rng2 (.neg (.lit (.int 9))) (.lit (.int 10))) (.cons (.par2 5 6 (.tup (.cons (.loc 3) (.cons (.loc 4) (.cons (.lit (.int 1)) (.nil))))) (.ite (.cmp .Eq (.loc 0) (.lit (.int 5))) (.tup (.cons (.op .Add (.loc 3) (.loc 4)) (.cons (.neg (.loc 4)) (.cons (.lit (.int 1)) (.nil))))) (.tup (.cons (.loc 3) (.cons (.neg (.loc 4)) (.cons (.lit (.int 1)) (.nil))))))) (.cons (.asg (.nm 7) (.call "_law_times" (.cons (.loc 0) (.cons (.loc 5) (.cons (.loc 6) (.nil)))) [] (.nil))) (.cons (.iff (.bop .And (.cons (.cmp .Eq (.bi "abs" (.cons (.ix (.loc 7) (.lit (.int 0))) (.nil))) (.lit (.int 1))) (.cons (.cmp .Eq (.ix (.loc 7) (.lit (.int 1))) (.lit (.int 0))) (.cons (.cmp .Gt (.call "_law_sign" (.cons (.loc 0) (.cons (.tup (.cons (.op .Sub (.loc 3) (.lit (.int 1))) (.cons (.loc 4) (.cons (.lit (.int 1)) (.nil))))) (.nil))) [] (.nil)) (.lit (.int 0))) (.nil))))) (.cons (.iff (.bop .Or (.cons (.cmp .Is (.loc 1) (.lit (.none))) (.cons (.cmp .Lt (.call "_law_sign" (.cons (.loc 0) (.cons (.call "_law_minus" (.cons (.loc 5) (.cons (.loc 1) (.nil))) [] (.nil)) (.nil))) [] (.nil)) (.lit (.int 0))) (.nil)))) (.cons (.asg (.nm 1) (.loc 5)) (.nil)) (.nil)) (.cons (.iff (.bop .And (.cons (.cmp .Gt (.call "_law_sign" (.cons (.loc 0) (.cons (.loc 6) (.nil))) [] (.nil)) (.lit (.int 0))) (.cons (.bop .Or (.cons (.cmp .Is (.loc 2) (.lit (.none))) (.cons (.cmp .Lt (.call "_law_sign" (.cons (.loc 0) (.cons (.call "_law_minus" (.cons (.loc 5) (.cons (.loc 2) (.nil))) [] (.nil)) (.nil))) [] (.nil)) (.lit (.int 0))) (.nil)))) (.nil)))) (.cons (.asg (.nm 2) (.loc 5)) (.nil)) (.nil)) (.nil))) (.nil)) (.nil))))) (.nil))) (.cons (.ret (.lst false (.cons (.loc 1) (.cons (.loc 2) (.nil))))) (.nil))) }
def d_law : Df := { ps := ["script"], N := ["script", "at", "deck", "field", "due"], mu := false, forms := [(1, [])], body := .cons (.for_ (.nm 1) (.rng1 (.bi "max" (.cons (.lit (.int 3)) (.cons (.bi "min" (.cons (.bi "len" (.cons (.loc 0) (.nil))) (.cons (.lit (.int 20)) (.nil)))) (.nil))))) (.cons (.asg (.nm 2) (.call "_law_deck" (.cons (.loc 0) (.cons (.loc 1) (.nil))) [] (.nil))) (.cons (.asg (.nm 3) (.ix (.lst false (.cons (.lit (.int 2)) (.cons (.lit (.int 3)) (.cons (.lit (.int 5)) (.nil))))) (.call "_law_take" (.cons (.loc 2) (.cons (.lit (.int 3)) (.nil))) [] (.nil)))) (.cons (.iff (.bop .Or (.cons (.not (.call "_law_right" (.cons (.loc 2) (.cons (.loc 3) (.nil))) [] (.nil))) (.cons (.not (.call "_law_right" (.cons (.loc 2) (.cons (.loc 3) (.nil))) [] (.nil))) (.nil)))) (.cons (.ret (.lit (.bool false))) (.nil)) (.nil)) (.nil))))) (.cons (.for_ (.nm 3) (.seq (.lst false (.cons (.lit (.int 2)) (.cons (.lit (.int 3)) (.cons (.lit (.int 5)) (.nil)))))) (.cons (.asg (.nm 4) (.call "_law_units" (.cons (.loc 3) (.nil)) [] (.nil))) (.cons (.iff (.bop .Or (.cons (.not (.call "_law_same" (.cons (.lst false (.cons (.call "unit" (.cons (.loc 3) (.nil)) [] (.nil)) (.cons (.call "stretch_unit" (.cons (.loc 3) (.nil)) [] (.nil)) (.nil)))) (.cons (.loc 4) (.nil))) [] (.nil))) (.cons (.not (.call "_law_same" (.cons (.lst false (.cons (.call "unit" (.nil) ["kind"] (.cons (.loc 3) (.nil))) (.cons (.call "stretch_unit" (.nil) ["kind"] (.cons (.loc 3) (.nil))) (.nil)))) (.cons (.loc 4) (.nil))) [] (.nil))) (.nil)))) (.cons (.ret (.lit (.bool false))) (.nil)) (.nil)) (.nil)))) (.cons (.ret (.lit (.bool true))) (.nil))) }
def r_is_integer : Rw := ⟨"is_integer", top 7, d_is_integer⟩
def r_lowest : Rw := ⟨"lowest", top 8, d_lowest⟩
def r_is_lowest : Rw := ⟨"is_lowest", top 9, d_is_lowest⟩
def r_sum_of_two : Rw := ⟨"sum_of_two", top 10, d_sum_of_two⟩
def r_opposite : Rw := ⟨"opposite", top 11, d_opposite⟩
def r_difference : Rw := ⟨"difference", top 12, d_difference⟩
def r_times_integer : Rw := ⟨"times_integer", top 13, d_times_integer⟩
def r_rooted : Rw := ⟨"rooted", top 14, d_rooted⟩
def r_sign_of : Rw := ⟨"sign_of", top 15, d_sign_of⟩
def r_order : Rw := ⟨"order", top 16, d_order⟩
def r_floor_of_number : Rw := ⟨"floor_of_number", top 17, d_floor_of_number⟩
def r_check_kind : Rw := ⟨"check_kind", top 21, d_check_kind⟩
def r_check_number : Rw := ⟨"check_number", top 22, d_check_number⟩
def r_check_count : Rw := ⟨"check_count", top 23, d_check_count⟩
def r_is_number : Rw := ⟨"is_number", top 24, d_is_number⟩
def r_sign : Rw := ⟨"sign", top 25, d_sign⟩
def r_compared : Rw := ⟨"compared", top 26, d_compared⟩
def r_floor_of : Rw := ⟨"floor_of", top 27, d_floor_of⟩
def r_about : Rw := ⟨"about", top 28, d_about⟩
def r_unit : Rw := ⟨"unit", top 29, d_unit⟩
def r_stretch_unit : Rw := ⟨"stretch_unit", top 30, d_stretch_unit⟩
def r__law_deck : Rw := ⟨"_law_deck", top 32, d__law_deck⟩
def r__law_take : Rw := ⟨"_law_take", top 33, d__law_take⟩
def r__law_gcd : Rw := ⟨"_law_gcd", top 34, d__law_gcd⟩
def r__law_num : Rw := ⟨"_law_num", top 35, d__law_num⟩
def r__law_plus : Rw := ⟨"_law_plus", top 36, d__law_plus⟩
def r__law_minus : Rw := ⟨"_law_minus", top 37, d__law_minus⟩
def r__law_times : Rw := ⟨"_law_times", top 38, d__law_times⟩
def r__law_sign : Rw := ⟨"_law_sign", top 39, d__law_sign⟩
def r__law_same : Rw := ⟨"_law_same", top 40, d__law_same⟩
def r__law_number : Rw := ⟨"_law_number", top 41, d__law_number⟩
def r__law_near : Rw := ⟨"_law_near", top 42, d__law_near⟩
def r__law_drawn : Rw := ⟨"_law_drawn", top 43, d__law_drawn⟩
def r__law_is_floor : Rw := ⟨"_law_is_floor", top 44, d__law_is_floor⟩
def r__law_right : Rw := ⟨"_law_right", top 45, d__law_right⟩
def r__law_units : Rw := ⟨"_law_units", top 46, d__law_units⟩
def r_law : Rw := ⟨"law", top 47, d_law⟩
def rows : List Rw := [r_is_integer, r_lowest, r_is_lowest, r_sum_of_two, r_opposite, r_difference, r_times_integer, r_rooted, r_sign_of, r_order, r_floor_of_number, r_check_kind, r_check_number, r_check_count, r_is_number, r_sign, r_compared, r_floor_of, r_about, r_unit, r_stretch_unit, r__law_deck, r__law_take, r__law_gcd, r__law_num, r__law_plus, r__law_minus, r__law_times, r__law_sign, r__law_same, r__law_number, r__law_near, r__law_drawn, r__law_is_floor, r__law_right, r__law_units, r_law]
def G : Pg := {
  defs := rows.map fun r => (r.nm, r.df)
  glob := [("KINDS", .tuple [.int 2, .int 3, .int 5])]
  dict := [("UNITS", [(2, .tuple [.int 1, .int 1, .int 1]), (3, .tuple [.int 2, .int 1, .int 1]), (5, .tuple [.int 0, .int 1, .int 1])]), ("STRETCH_UNITS", [(2, .tuple [.int 3, .int 2, .int 1]), (3, .tuple [.int 2, .int 1, .int 1]), (5, .tuple [.int 1, .int 1, .int 1])])]
  subs := [("InvalidKind", ["InvalidKind", "FloorError"]), ("InvalidNumber", ["InvalidNumber", "FloorError"])]
  bis := ["abs", "all", "bool", "int", "isinstance", "len", "list", "max", "min", "range", "str", "tuple"]
  imps := [("gcd", "math.gcd"), ("isqrt", "math.isqrt")] }
theorem lk_is_integer : G.defs.lookup ("is_integer" : Str) = some d_is_integer := by kernel_rfl
theorem lk_lowest : G.defs.lookup ("lowest" : Str) = some d_lowest := by kernel_rfl
theorem lk_is_lowest : G.defs.lookup ("is_lowest" : Str) = some d_is_lowest := by kernel_rfl
theorem lk_sum_of_two : G.defs.lookup ("sum_of_two" : Str) = some d_sum_of_two := by kernel_rfl
theorem lk_opposite : G.defs.lookup ("opposite" : Str) = some d_opposite := by kernel_rfl
theorem lk_difference : G.defs.lookup ("difference" : Str) = some d_difference := by kernel_rfl
theorem lk_times_integer : G.defs.lookup ("times_integer" : Str) = some d_times_integer := by kernel_rfl
theorem lk_rooted : G.defs.lookup ("rooted" : Str) = some d_rooted := by kernel_rfl
theorem lk_sign_of : G.defs.lookup ("sign_of" : Str) = some d_sign_of := by kernel_rfl
theorem lk_order : G.defs.lookup ("order" : Str) = some d_order := by kernel_rfl
theorem lk_floor_of_number : G.defs.lookup ("floor_of_number" : Str) = some d_floor_of_number := by kernel_rfl
theorem lk_check_kind : G.defs.lookup ("check_kind" : Str) = some d_check_kind := by kernel_rfl
theorem lk_check_number : G.defs.lookup ("check_number" : Str) = some d_check_number := by kernel_rfl
theorem lk_check_count : G.defs.lookup ("check_count" : Str) = some d_check_count := by kernel_rfl
theorem lk_is_number : G.defs.lookup ("is_number" : Str) = some d_is_number := by kernel_rfl
theorem lk_sign : G.defs.lookup ("sign" : Str) = some d_sign := by kernel_rfl
theorem lk_compared : G.defs.lookup ("compared" : Str) = some d_compared := by kernel_rfl
theorem lk_floor_of : G.defs.lookup ("floor_of" : Str) = some d_floor_of := by kernel_rfl
theorem lk_about : G.defs.lookup ("about" : Str) = some d_about := by kernel_rfl
theorem lk_unit : G.defs.lookup ("unit" : Str) = some d_unit := by kernel_rfl
theorem lk_stretch_unit : G.defs.lookup ("stretch_unit" : Str) = some d_stretch_unit := by kernel_rfl
theorem lk__law_deck : G.defs.lookup ("_law_deck" : Str) = some d__law_deck := by kernel_rfl
theorem lk__law_take : G.defs.lookup ("_law_take" : Str) = some d__law_take := by kernel_rfl
theorem lk__law_gcd : G.defs.lookup ("_law_gcd" : Str) = some d__law_gcd := by kernel_rfl
theorem lk__law_num : G.defs.lookup ("_law_num" : Str) = some d__law_num := by kernel_rfl
theorem lk__law_plus : G.defs.lookup ("_law_plus" : Str) = some d__law_plus := by kernel_rfl
theorem lk__law_minus : G.defs.lookup ("_law_minus" : Str) = some d__law_minus := by kernel_rfl
theorem lk__law_times : G.defs.lookup ("_law_times" : Str) = some d__law_times := by kernel_rfl
theorem lk__law_sign : G.defs.lookup ("_law_sign" : Str) = some d__law_sign := by kernel_rfl
theorem lk__law_same : G.defs.lookup ("_law_same" : Str) = some d__law_same := by kernel_rfl
theorem lk__law_number : G.defs.lookup ("_law_number" : Str) = some d__law_number := by kernel_rfl
theorem lk__law_near : G.defs.lookup ("_law_near" : Str) = some d__law_near := by kernel_rfl
theorem lk__law_drawn : G.defs.lookup ("_law_drawn" : Str) = some d__law_drawn := by kernel_rfl
theorem lk__law_is_floor : G.defs.lookup ("_law_is_floor" : Str) = some d__law_is_floor := by kernel_rfl
theorem lk__law_right : G.defs.lookup ("_law_right" : Str) = some d__law_right := by kernel_rfl
theorem lk__law_units : G.defs.lookup ("_law_units" : Str) = some d__law_units := by kernel_rfl
theorem lk_law : G.defs.lookup ("law" : Str) = some d_law := by kernel_rfl
section
variable {call : Str → List R → Sto → Res R} {S : Sto} {d0 d1 d2 d3 d4 d5 d6 d7 : D} {j0 j1 j2 j3 j4 j5 j6 j7 : Nat} {l0 l1 l2 : List Int}
theorem c_is_integer_0 : callR G call "is_integer" [] [(.v d0)] [] S = call "is_integer" [(.v d0)] S := w_callR (ks := []) (rs := [(.v d0)]) (zs := []) lk_is_integer ⟨⟨show ((1, []) : Nat × List Str) ∈ d_is_integer.forms from by decide +kernel, rfl⟩, rfl, rfl⟩
theorem c_lowest_0 : callR G call "lowest" [] [(.v d0), (.v d1), (.v d2)] [] S = call "lowest" [(.v d0), (.v d1), (.v d2)] S := w_callR (ks := []) (rs := [(.v d0), (.v d1), (.v d2)]) (zs := []) lk_lowest ⟨⟨show ((3, []) : Nat × List Str) ∈ d_lowest.forms from by decide +kernel, rfl⟩, rfl, rfl⟩
theorem c_is_lowest_0 : callR G call "is_lowest" [] [(.v d0)] [] S = call "is_lowest" [(.v d0)] S := w_callR (ks := []) (rs := [(.v d0)]) (zs := []) lk_is_lowest ⟨⟨show ((1, []) : Nat × List Str) ∈ d_is_lowest.forms from by decide +kernel, rfl⟩, rfl, rfl⟩
theorem c_sum_of_two_0 : callR G call "sum_of_two" [] [(.v d0), (.v d1)] [] S = call "sum_of_two" [(.v d0), (.v d1)] S := w_callR (ks := []) (rs := [(.v d0), (.v d1)]) (zs := []) lk_sum_of_two ⟨⟨show ((2, []) : Nat × List Str) ∈ d_sum_of_two.forms from by decide +kernel, rfl⟩, rfl, rfl⟩
theorem c_opposite_0 : callR G call "opposite" [] [(.v d0)] [] S = call "opposite" [(.v d0)] S := w_callR (ks := []) (rs := [(.v d0)]) (zs := []) lk_opposite ⟨⟨show ((1, []) : Nat × List Str) ∈ d_opposite.forms from by decide +kernel, rfl⟩, rfl, rfl⟩
theorem c_difference_0 : callR G call "difference" [] [(.v d0), (.v d1)] [] S = call "difference" [(.v d0), (.v d1)] S := w_callR (ks := []) (rs := [(.v d0), (.v d1)]) (zs := []) lk_difference ⟨⟨show ((2, []) : Nat × List Str) ∈ d_difference.forms from by decide +kernel, rfl⟩, rfl, rfl⟩
theorem c_times_integer_0 : callR G call "times_integer" [] [(.v d0), (.v d1)] [] S = call "times_integer" [(.v d0), (.v d1)] S := w_callR (ks := []) (rs := [(.v d0), (.v d1)]) (zs := []) lk_times_integer ⟨⟨show ((2, []) : Nat × List Str) ∈ d_times_integer.forms from by decide +kernel, rfl⟩, rfl, rfl⟩
theorem c_rooted_0 : callR G call "rooted" [] [(.v d0), (.v d1)] [] S = call "rooted" [(.v d0), (.v d1)] S := w_callR (ks := []) (rs := [(.v d0), (.v d1)]) (zs := []) lk_rooted ⟨⟨show ((2, []) : Nat × List Str) ∈ d_rooted.forms from by decide +kernel, rfl⟩, rfl, rfl⟩
theorem c_sign_of_0 : callR G call "sign_of" [] [(.v d0), (.v d1)] [] S = call "sign_of" [(.v d0), (.v d1)] S := w_callR (ks := []) (rs := [(.v d0), (.v d1)]) (zs := []) lk_sign_of ⟨⟨show ((2, []) : Nat × List Str) ∈ d_sign_of.forms from by decide +kernel, rfl⟩, rfl, rfl⟩
theorem c_order_0 : callR G call "order" [] [(.v d0), (.v d1), (.v d2)] [] S = call "order" [(.v d0), (.v d1), (.v d2)] S := w_callR (ks := []) (rs := [(.v d0), (.v d1), (.v d2)]) (zs := []) lk_order ⟨⟨show ((3, []) : Nat × List Str) ∈ d_order.forms from by decide +kernel, rfl⟩, rfl, rfl⟩
theorem c_floor_of_number_0 : callR G call "floor_of_number" [] [(.v d0), (.v d1)] [] S = call "floor_of_number" [(.v d0), (.v d1)] S := w_callR (ks := []) (rs := [(.v d0), (.v d1)]) (zs := []) lk_floor_of_number ⟨⟨show ((2, []) : Nat × List Str) ∈ d_floor_of_number.forms from by decide +kernel, rfl⟩, rfl, rfl⟩
theorem c_check_kind_0 : callR G call "check_kind" [] [(.v d0)] [] S = call "check_kind" [(.v d0)] S := w_callR (ks := []) (rs := [(.v d0)]) (zs := []) lk_check_kind ⟨⟨show ((1, []) : Nat × List Str) ∈ d_check_kind.forms from by decide +kernel, rfl⟩, rfl, rfl⟩
theorem c_check_number_0 : callR G call "check_number" [] [(.v d0)] [] S = call "check_number" [(.v d0)] S := w_callR (ks := []) (rs := [(.v d0)]) (zs := []) lk_check_number ⟨⟨show ((1, []) : Nat × List Str) ∈ d_check_number.forms from by decide +kernel, rfl⟩, rfl, rfl⟩
theorem c_check_count_0 : callR G call "check_count" [] [(.v d0)] [] S = call "check_count" [(.v d0)] S := w_callR (ks := []) (rs := [(.v d0)]) (zs := []) lk_check_count ⟨⟨show ((1, []) : Nat × List Str) ∈ d_check_count.forms from by decide +kernel, rfl⟩, rfl, rfl⟩
theorem c_is_number_0 : callR G call "is_number" [] [(.v d0)] [] S = call "is_number" [(.v d0)] S := w_callR (ks := []) (rs := [(.v d0)]) (zs := []) lk_is_number ⟨⟨show ((1, []) : Nat × List Str) ∈ d_is_number.forms from by decide +kernel, rfl⟩, rfl, rfl⟩
theorem c_sign_0 : callR G call "sign" ["p", "kind"] [] [(.v d1), (.v d0)] S = call "sign" [(.v d0), (.v d1)] S := w_callR (ks := ["p", "kind"]) (rs := []) (zs := [(.v d1), (.v d0)]) lk_sign ⟨⟨show ((0, ["p", "kind"]) : Nat × List Str) ∈ d_sign.forms from by decide +kernel, rfl⟩, rfl, rfl⟩
theorem c_sign_1 : callR G call "sign" [] [(.v d0), (.v d1)] [] S = call "sign" [(.v d0), (.v d1)] S := w_callR (ks := []) (rs := [(.v d0), (.v d1)]) (zs := []) lk_sign ⟨⟨show ((2, []) : Nat × List Str) ∈ d_sign.forms from by decide +kernel, rfl⟩, rfl, rfl⟩
theorem c_compared_0 : callR G call "compared" ["q", "p", "kind"] [] [(.v d2), (.v d1), (.v d0)] S = call "compared" [(.v d0), (.v d1), (.v d2)] S := w_callR (ks := ["q", "p", "kind"]) (rs := []) (zs := [(.v d2), (.v d1), (.v d0)]) lk_compared ⟨⟨show ((0, ["q", "p", "kind"]) : Nat × List Str) ∈ d_compared.forms from by decide +kernel, rfl⟩, rfl, rfl⟩
theorem c_compared_1 : callR G call "compared" [] [(.v d0), (.v d1), (.v d2)] [] S = call "compared" [(.v d0), (.v d1), (.v d2)] S := w_callR (ks := []) (rs := [(.v d0), (.v d1), (.v d2)]) (zs := []) lk_compared ⟨⟨show ((3, []) : Nat × List Str) ∈ d_compared.forms from by decide +kernel, rfl⟩, rfl, rfl⟩
theorem c_floor_of_0 : callR G call "floor_of" ["p", "kind"] [] [(.v d1), (.v d0)] S = call "floor_of" [(.v d0), (.v d1)] S := w_callR (ks := ["p", "kind"]) (rs := []) (zs := [(.v d1), (.v d0)]) lk_floor_of ⟨⟨show ((0, ["p", "kind"]) : Nat × List Str) ∈ d_floor_of.forms from by decide +kernel, rfl⟩, rfl, rfl⟩
theorem c_floor_of_1 : callR G call "floor_of" [] [(.v d0), (.v d1)] [] S = call "floor_of" [(.v d0), (.v d1)] S := w_callR (ks := []) (rs := [(.v d0), (.v d1)]) (zs := []) lk_floor_of ⟨⟨show ((2, []) : Nat × List Str) ∈ d_floor_of.forms from by decide +kernel, rfl⟩, rfl, rfl⟩
theorem c_about_0 : callR G call "about" ["n", "p", "kind"] [] [(.v d2), (.v d1), (.v d0)] S = call "about" [(.v d0), (.v d1), (.v d2)] S := w_callR (ks := ["n", "p", "kind"]) (rs := []) (zs := [(.v d2), (.v d1), (.v d0)]) lk_about ⟨⟨show ((0, ["n", "p", "kind"]) : Nat × List Str) ∈ d_about.forms from by decide +kernel, rfl⟩, rfl, rfl⟩
theorem c_about_1 : callR G call "about" [] [(.v d0), (.v d1), (.v d2)] [] S = call "about" [(.v d0), (.v d1), (.v d2)] S := w_callR (ks := []) (rs := [(.v d0), (.v d1), (.v d2)]) (zs := []) lk_about ⟨⟨show ((3, []) : Nat × List Str) ∈ d_about.forms from by decide +kernel, rfl⟩, rfl, rfl⟩
theorem c_unit_0 : callR G call "unit" ["kind"] [] [(.v d0)] S = call "unit" [(.v d0)] S := w_callR (ks := ["kind"]) (rs := []) (zs := [(.v d0)]) lk_unit ⟨⟨show ((0, ["kind"]) : Nat × List Str) ∈ d_unit.forms from by decide +kernel, rfl⟩, rfl, rfl⟩
theorem c_unit_1 : callR G call "unit" [] [(.v d0)] [] S = call "unit" [(.v d0)] S := w_callR (ks := []) (rs := [(.v d0)]) (zs := []) lk_unit ⟨⟨show ((1, []) : Nat × List Str) ∈ d_unit.forms from by decide +kernel, rfl⟩, rfl, rfl⟩
theorem c_stretch_unit_0 : callR G call "stretch_unit" ["kind"] [] [(.v d0)] S = call "stretch_unit" [(.v d0)] S := w_callR (ks := ["kind"]) (rs := []) (zs := [(.v d0)]) lk_stretch_unit ⟨⟨show ((0, ["kind"]) : Nat × List Str) ∈ d_stretch_unit.forms from by decide +kernel, rfl⟩, rfl, rfl⟩
theorem c_stretch_unit_1 : callR G call "stretch_unit" [] [(.v d0)] [] S = call "stretch_unit" [(.v d0)] S := w_callR (ks := []) (rs := [(.v d0)]) (zs := []) lk_stretch_unit ⟨⟨show ((1, []) : Nat × List Str) ∈ d_stretch_unit.forms from by decide +kernel, rfl⟩, rfl, rfl⟩
theorem c__law_deck_0 : callR G call "_law_deck" [] [(.s l0), (.v d1)] [] S = call "_law_deck" [(.s l0), (.v d1)] S := w_callR (ks := []) (rs := [(.s l0), (.v d1)]) (zs := []) lk__law_deck ⟨⟨show ((2, []) : Nat × List Str) ∈ d__law_deck.forms from by decide +kernel, rfl⟩, rfl, rfl⟩
theorem c__law_take_0 : callR G call "_law_take" [] [(.r j0), (.v d1)] [] S = call "_law_take" [(.r j0), (.v d1)] S := w_callR (ks := []) (rs := [(.r j0), (.v d1)]) (zs := []) lk__law_take ⟨⟨show ((2, []) : Nat × List Str) ∈ d__law_take.forms from by decide +kernel, rfl⟩, rfl, rfl⟩
theorem c__law_gcd_0 : callR G call "_law_gcd" [] [(.v d0), (.v d1)] [] S = call "_law_gcd" [(.v d0), (.v d1)] S := w_callR (ks := []) (rs := [(.v d0), (.v d1)]) (zs := []) lk__law_gcd ⟨⟨show ((2, []) : Nat × List Str) ∈ d__law_gcd.forms from by decide +kernel, rfl⟩, rfl, rfl⟩
theorem c__law_num_0 : callR G call "_law_num" [] [(.v d0), (.v d1), (.v d2)] [] S = call "_law_num" [(.v d0), (.v d1), (.v d2)] S := w_callR (ks := []) (rs := [(.v d0), (.v d1), (.v d2)]) (zs := []) lk__law_num ⟨⟨show ((3, []) : Nat × List Str) ∈ d__law_num.forms from by decide +kernel, rfl⟩, rfl, rfl⟩
theorem c__law_plus_0 : callR G call "_law_plus" [] [(.v d0), (.v d1)] [] S = call "_law_plus" [(.v d0), (.v d1)] S := w_callR (ks := []) (rs := [(.v d0), (.v d1)]) (zs := []) lk__law_plus ⟨⟨show ((2, []) : Nat × List Str) ∈ d__law_plus.forms from by decide +kernel, rfl⟩, rfl, rfl⟩
theorem c__law_minus_0 : callR G call "_law_minus" [] [(.v d0), (.v d1)] [] S = call "_law_minus" [(.v d0), (.v d1)] S := w_callR (ks := []) (rs := [(.v d0), (.v d1)]) (zs := []) lk__law_minus ⟨⟨show ((2, []) : Nat × List Str) ∈ d__law_minus.forms from by decide +kernel, rfl⟩, rfl, rfl⟩
theorem c__law_times_0 : callR G call "_law_times" [] [(.v d0), (.v d1), (.v d2)] [] S = call "_law_times" [(.v d0), (.v d1), (.v d2)] S := w_callR (ks := []) (rs := [(.v d0), (.v d1), (.v d2)]) (zs := []) lk__law_times ⟨⟨show ((3, []) : Nat × List Str) ∈ d__law_times.forms from by decide +kernel, rfl⟩, rfl, rfl⟩
theorem c__law_sign_0 : callR G call "_law_sign" [] [(.v d0), (.v d1)] [] S = call "_law_sign" [(.v d0), (.v d1)] S := w_callR (ks := []) (rs := [(.v d0), (.v d1)]) (zs := []) lk__law_sign ⟨⟨show ((2, []) : Nat × List Str) ∈ d__law_sign.forms from by decide +kernel, rfl⟩, rfl, rfl⟩
theorem c__law_same_0 : callR G call "_law_same" [] [(.v d0), (.v d1)] [] S = call "_law_same" [(.v d0), (.v d1)] S := w_callR (ks := []) (rs := [(.v d0), (.v d1)]) (zs := []) lk__law_same ⟨⟨show ((2, []) : Nat × List Str) ∈ d__law_same.forms from by decide +kernel, rfl⟩, rfl, rfl⟩
theorem c__law_number_0 : callR G call "_law_number" [] [(.r j0)] [] S = call "_law_number" [(.r j0)] S := w_callR (ks := []) (rs := [(.r j0)]) (zs := []) lk__law_number ⟨⟨show ((1, []) : Nat × List Str) ∈ d__law_number.forms from by decide +kernel, rfl⟩, rfl, rfl⟩
theorem c__law_near_0 : callR G call "_law_near" [] [(.r j0), (.v d1)] [] S = call "_law_near" [(.r j0), (.v d1)] S := w_callR (ks := []) (rs := [(.r j0), (.v d1)]) (zs := []) lk__law_near ⟨⟨show ((2, []) : Nat × List Str) ∈ d__law_near.forms from by decide +kernel, rfl⟩, rfl, rfl⟩
theorem c__law_drawn_0 : callR G call "_law_drawn" [] [(.r j0), (.v d1)] [] S = call "_law_drawn" [(.r j0), (.v d1)] S := w_callR (ks := []) (rs := [(.r j0), (.v d1)]) (zs := []) lk__law_drawn ⟨⟨show ((2, []) : Nat × List Str) ∈ d__law_drawn.forms from by decide +kernel, rfl⟩, rfl, rfl⟩
theorem c__law_is_floor_0 : callR G call "_law_is_floor" [] [(.v d0), (.v d1), (.v d2)] [] S = call "_law_is_floor" [(.v d0), (.v d1), (.v d2)] S := w_callR (ks := []) (rs := [(.v d0), (.v d1), (.v d2)]) (zs := []) lk__law_is_floor ⟨⟨show ((3, []) : Nat × List Str) ∈ d__law_is_floor.forms from by decide +kernel, rfl⟩, rfl, rfl⟩
theorem c__law_right_0 : callR G call "_law_right" [] [(.r j0), (.v d1)] [] S = call "_law_right" [(.r j0), (.v d1)] S := w_callR (ks := []) (rs := [(.r j0), (.v d1)]) (zs := []) lk__law_right ⟨⟨show ((2, []) : Nat × List Str) ∈ d__law_right.forms from by decide +kernel, rfl⟩, rfl, rfl⟩
theorem c__law_units_0 : callR G call "_law_units" [] [(.v d0)] [] S = call "_law_units" [(.v d0)] S := w_callR (ks := []) (rs := [(.v d0)]) (zs := []) lk__law_units ⟨⟨show ((1, []) : Nat × List Str) ∈ d__law_units.forms from by decide +kernel, rfl⟩, rfl, rfl⟩
end
end LawP

set_option Elab.async false
set_option linter.all false
set_option maxRecDepth 100000
set_option maxHeartbeats 4000000
/-! Plain numbers: lowest forms, sizes. -/
namespace Num
/-! ### sizes -/
def Sz (k : Nat) (a : Int) : Prop := a.natAbs < 2 ^ k
theorem Sz.mono {p q : Nat} {a : Int} (h : Sz p a) (hq : p ≤ q) : Sz q a := Nat.lt_of_lt_of_le h (Nat.pow_le_pow_right (by omega) hq)
theorem Sz.add {p : Nat} {a b : Int} (h : Sz p a) (h' : Sz p b) : Sz (p + 1) (a + b) := by
  unfold Sz at *
  rw [Nat.pow_succ]
  omega
theorem Sz.neg {p : Nat} {a : Int} (h : Sz p a) : Sz p (-a) := by
  unfold Sz at *
  rwa [Int.natAbs_neg]
theorem Sz.sub {p : Nat} {a b : Int} (h : Sz p a) (h' : Sz p b) : Sz (p + 1) (a - b) := by
  rw [Int.sub_eq_add_neg]
  exact h.add h'.neg
theorem Sz.mul {p q : Nat} {a b : Int} (h : Sz p a) (h' : Sz q b) : Sz (p + q) (a * b) := by
  unfold Sz at *
  rw [Int.natAbs_mul, Nat.pow_add]
  exact Nat.mul_lt_mul'' h h'
theorem Sz.log {p : Nat} {a : Int} (h : Sz p a) : a.natAbs.log2 ≤ p := by
  by_cases z : a.natAbs = 0
  · rw [z]
    simp
  · exact Nat.le_of_lt ((Nat.log2_lt z).mpr h)
theorem mul_ok {p q : Nat} {a b : Int} (h : Sz p a) (h' : Sz q b) (hl : p + q < 134000000) : EV.mulOk a b = true := by
  unfold EV.mulOk
  have h1 := h.log
  have h2 := h'.log
  exact decide_eq_true (by omega)
theorem Sz.of_le {p : Nat} {a b : Int} (h : Sz p b) (hl : a.natAbs ≤ b.natAbs) : Sz p a := Nat.lt_of_le_of_lt hl h
theorem Sz.const {a : Int} {p : Nat} (h : a.natAbs < 2 ^ p) : Sz p a := h
/-! ### the lowest form -/
def gc (a b n : Int) : Nat := Nat.gcd (Nat.gcd a.natAbs b.natAbs) n.natAbs
def sg (a b n : Int) : Int := if n < 0 then -(gc a b n : Int) else gc a b n
def low (a b n : Int) : Int × Int × Int := (a.fdiv (sg a b n), b.fdiv (sg a b n), n.fdiv (sg a b n))
def IsLow (p : Int × Int × Int) : Prop := 0 < p.2.2 ∧ gc p.1 p.2.1 p.2.2 = 1
section
variable {a b n : Int}
theorem gc_pos (h : n ≠ 0) : 0 < gc a b n := Nat.gcd_pos_of_pos_right _ (by omega)
theorem gc_le (h : n ≠ 0) : gc a b n ≤ n.natAbs := Nat.le_of_dvd (by omega) (Nat.gcd_dvd_right _ _)
theorem sg_abs : (sg a b n).natAbs = gc a b n := by
  unfold sg
  split
  · simp
  · simp
theorem sg_ne (h : n ≠ 0) : sg a b n ≠ 0 := fun z => by
  have := sg_abs (a := a) (b := b) (n := n)
  rw [z] at this
  have := gc_pos (a := a) (b := b) h
  omega
theorem sg_dvd : sg a b n ∣ a ∧ sg a b n ∣ b ∧ sg a b n ∣ n := by
  have key : ∀ x : Int, gc a b n ∣ x.natAbs → sg a b n ∣ x := fun x h => Int.natAbs_dvd_natAbs.mp (by rw [sg_abs]; exact h)
  refine ⟨key _ (Nat.dvd_trans (Nat.gcd_dvd_left _ _) (Nat.gcd_dvd_left _ _)), key _ (Nat.dvd_trans (Nat.gcd_dvd_left _ _) (Nat.gcd_dvd_right _ _)), key _ (Nat.gcd_dvd_right _ _)⟩
theorem fdiv_exact {x c : Int} (h : c ∣ x) : x.fdiv c * c = x := by
  rw [Int.fdiv_eq_ediv_of_dvd h, Int.ediv_mul_cancel h]
theorem low_mul : (low a b n).1 * sg a b n = a ∧ (low a b n).2.1 * sg a b n = b ∧ (low a b n).2.2 * sg a b n = n := by
  obtain ⟨h1, h2, h3⟩ := sg_dvd (a := a) (b := b) (n := n)
  exact ⟨fdiv_exact h1, fdiv_exact h2, fdiv_exact h3⟩
theorem low_low (h : n ≠ 0) : IsLow (low a b n) := by
  obtain ⟨h1, h2, h3⟩ := low_mul (a := a) (b := b) (n := n)
  have s0 := sg_ne (a := a) (b := b) h
  generalize hx : low a b n = p at h1 h2 h3 ⊢
  obtain ⟨x, y, m⟩ := p
  simp only at h1 h2 h3
  refine ⟨?_, ?_⟩
  · show 0 < m
    have : sg a b n < 0 ↔ n < 0 := by
      have := gc_pos (a := a) (b := b) h
      unfold sg
      split <;> omega
    rcases Int.lt_or_gt_of_ne h with hn | hn
    · have hs := this.mpr hn
      rcases Int.lt_trichotomy m 0 with hm | hm | hm
      · have := Int.mul_pos_of_neg_of_neg hm hs
        omega
      · rw [hm, Int.zero_mul] at h3
        omega
      · exact hm
    · have hs : 0 < sg a b n := by omega
      rcases Int.lt_trichotomy m 0 with hm | hm | hm
      · have := Int.mul_neg_of_neg_of_pos hm hs
        omega
      · rw [hm, Int.zero_mul] at h3
        omega
      · exact hm
  · show gc x y m = 1
    have ab : ∀ u v : Int, u * sg a b n = v → v.natAbs = u.natAbs * gc a b n := fun u v e => by
      have := congrArg Int.natAbs e
      rw [Int.natAbs_mul, sg_abs] at this
      exact this.symm
    have ha := ab _ _ h1
    have hb := ab _ _ h2
    have hn := ab _ _ h3
    have e : gc a b n = gc x y m * gc a b n := by
      generalize hg : gc a b n = g at ha hb hn
      have e3 : Nat.gcd (Nat.gcd a.natAbs b.natAbs) n.natAbs = g := hg
      rw [ha, hb, hn, Nat.gcd_mul_right, Nat.gcd_mul_right] at e3
      exact e3.symm
    have p := gc_pos (a := a) (b := b) h
    have e2 : 1 * gc a b n = gc x y m * gc a b n := by rw [Nat.one_mul]; exact e
    exact (Nat.eq_of_mul_eq_mul_right p e2).symm
theorem low_uniq {p q : Int × Int × Int} (hp : IsLow p) (hq : IsLow q) (h1 : p.1 * q.2.2 = q.1 * p.2.2) (h2 : p.2.1 * q.2.2 = q.2.1 * p.2.2) : p = q := by
  obtain ⟨x, y, m⟩ := p
  obtain ⟨x', y', m'⟩ := q
  obtain ⟨hm, hg⟩ := hp
  obtain ⟨hm', hg'⟩ := hq
  simp only at *
  have e : m = m' := by
    have e1 : gc (x * m') (y * m') (m * m') = gc x y m * m'.natAbs := by
      unfold gc
      rw [Int.natAbs_mul, Int.natAbs_mul, Int.natAbs_mul, Nat.gcd_mul_right, Nat.gcd_mul_right]
    have e2 : gc (x' * m) (y' * m) (m' * m) = gc x' y' m' * m.natAbs := by
      unfold gc
      rw [Int.natAbs_mul, Int.natAbs_mul, Int.natAbs_mul, Nat.gcd_mul_right, Nat.gcd_mul_right]
    rw [h1, h2, Int.mul_comm m m', e2, hg, hg'] at e1
    omega
  subst e
  have : x = x' := Int.eq_of_mul_eq_mul_right (by omega) h1
  have : y = y' := Int.eq_of_mul_eq_mul_right (by omega) h2
  simp [*]
theorem low_eq {a' b' n' : Int} (h : n ≠ 0) (h' : n' ≠ 0) (h1 : a * n' = a' * n) (h2 : b * n' = b' * n) : low a b n = low a' b' n' := by
  refine low_uniq (low_low h) (low_low h') ?_ ?_
  · obtain ⟨q1, q2, q3⟩ := low_mul (a := a) (b := b) (n := n)
    obtain ⟨r1, r2, r3⟩ := low_mul (a := a') (b := b') (n := n')
    have s := sg_ne (a := a) (b := b) h
    have s' := sg_ne (a := a') (b := b') h'
    generalize low a b n = p at *
    generalize low a' b' n' = p' at *
    generalize sg a b n = c at *
    generalize sg a' b' n' = c' at *
    have : (p.1 * p'.2.2) * (c * c') = (p'.1 * p.2.2) * (c * c') := by
      have e1 : (p.1 * p'.2.2) * (c * c') = (p.1 * c) * (p'.2.2 * c') := by grind
      have e2 : (p'.1 * p.2.2) * (c * c') = (p'.1 * c') * (p.2.2 * c) := by grind
      rw [e1, e2, q1, r3, r1, q3, h1]
    exact Int.eq_of_mul_eq_mul_right (Int.mul_ne_zero s s') this
  · obtain ⟨q1, q2, q3⟩ := low_mul (a := a) (b := b) (n := n)
    obtain ⟨r1, r2, r3⟩ := low_mul (a := a') (b := b') (n := n')
    have s := sg_ne (a := a) (b := b) h
    have s' := sg_ne (a := a') (b := b') h'
    generalize low a b n = p at *
    generalize low a' b' n' = p' at *
    generalize sg a b n = c at *
    generalize sg a' b' n' = c' at *
    have : (p.2.1 * p'.2.2) * (c * c') = (p'.2.1 * p.2.2) * (c * c') := by
      have e1 : (p.2.1 * p'.2.2) * (c * c') = (p.2.1 * c) * (p'.2.2 * c') := by grind
      have e2 : (p'.2.1 * p.2.2) * (c * c') = (p'.2.1 * c') * (p.2.2 * c) := by grind
      rw [e1, e2, q2, r3, r2, q3, h2]
    exact Int.eq_of_mul_eq_mul_right (Int.mul_ne_zero s s') this
theorem low_self {p : Int × Int × Int} (h : IsLow p) : low p.1 p.2.1 p.2.2 = p := by
  have hn : p.2.2 ≠ 0 := by have := h.1; omega
  obtain ⟨q1, q2, q3⟩ := low_mul (a := p.1) (b := p.2.1) (n := p.2.2)
  refine low_uniq (low_low hn) h ?_ ?_
  · generalize low p.1 p.2.1 p.2.2 = r at *
    generalize sg p.1 p.2.1 p.2.2 = c at *
    grind
  · generalize low p.1 p.2.1 p.2.2 = r at *
    generalize sg p.1 p.2.1 p.2.2 = c at *
    grind
theorem low_iff (h : 0 < n) : low a b n = (a, b, n) ↔ gc a b n = 1 := by
  constructor
  · intro e
    have := (low_low (a := a) (b := b) (n := n) (by omega)).2
    rw [e] at this
    exact this
  · intro e
    exact low_self (p := (a, b, n)) ⟨h, e⟩
theorem low_size {p q r : Nat} (h : n ≠ 0) (h1 : Sz p a) (h2 : Sz q b) (h3 : Sz r n) : Sz p (low a b n).1 ∧ Sz q (low a b n).2.1 ∧ Sz r (low a b n).2.2 := by
  obtain ⟨q1, q2, q3⟩ := low_mul (a := a) (b := b) (n := n)
  have key : ∀ x y : Int, x * sg a b n = y → x.natAbs ≤ y.natAbs := fun x y e => by
    rw [← e, Int.natAbs_mul, sg_abs]
    exact Nat.le_mul_of_pos_right _ (gc_pos h)
  exact ⟨h1.of_le (key _ _ q1), h2.of_le (key _ _ q2), h3.of_le (key _ _ q3)⟩
end
end Num

set_option Elab.async false
set_option linter.all false
set_option maxRecDepth 100000
set_option maxHeartbeats 4000000
/-! Plain numbers: no root is whole; the fields. -/
namespace Num
theorem dvd_sq {f x y : Nat} (hf : f = 2 ∨ f = 3 ∨ f = 5) (h : x * x = f * (y * y)) : ∃ c, x = f * c := by
  have m : (x * x) % f = 0 := by rw [h]; exact Nat.mul_mod_right _ _
  have e : x % f = 0 := by
    rw [Nat.mul_mod] at m
    rcases hf with rfl | rfl | rfl
    · have := Nat.mod_lt x (by decide : 0 < 2)
      generalize x % 2 = r at *
      match r, this with
      | 0, _ => rfl
      | 1, _ => simp at m
    · have := Nat.mod_lt x (by decide : 0 < 3)
      generalize x % 3 = r at *
      match r, this with
      | 0, _ => rfl
      | 1, _ => simp at m
      | 2, _ => simp at m
    · have := Nat.mod_lt x (by decide : 0 < 5)
      generalize x % 5 = r at *
      match r, this with
      | 0, _ => rfl
      | 1, _ => simp at m
      | 2, _ => simp at m
      | 3, _ => simp at m
      | 4, _ => simp at m
  exact ⟨x / f, by have := Nat.div_add_mod x f; rw [e] at this; omega⟩
theorem no_root {f : Nat} (hf : f = 2 ∨ f = 3 ∨ f = 5) : ∀ n x y : Nat, x ≤ n → x * x = f * (y * y) → x = 0
  | 0, x, y, hx, _ => by omega
  | n + 1, x, y, hx, h => by
    by_cases z : x = 0
    · exact z
    · obtain ⟨c, rfl⟩ := dvd_sq hf h
      have f0 : 0 < f := by rcases hf with rfl | rfl | rfl <;> decide
      have e : y * y = f * (c * c) := by
        have : f * (f * (c * c)) = f * (y * y) := by
          rw [← h]
          simp only [Nat.mul_assoc, Nat.mul_left_comm, Nat.mul_comm]
        exact (Nat.eq_of_mul_eq_mul_left f0 this).symm
      have lt : y < f * c := by
        apply Nat.lt_of_not_le
        intro hle
        have h1 : (f * c) * (f * c) ≤ y * y := Nat.mul_le_mul hle hle
        rw [h] at h1
        have h2 : 2 * (y * y) ≤ f * (y * y) := Nat.mul_le_mul_right _ (by rcases hf with rfl | rfl | rfl <;> decide)
        have yy : y * y = 0 := by omega
        rw [yy, Nat.mul_zero] at h
        have := Nat.mul_eq_zero.mp h
        omega
      have y0 : y = 0 := no_root hf n y c (by omega) e
      subst y0
      rw [Nat.mul_zero] at h
      have := Nat.mul_eq_zero.mp h
      omega
theorem no_rootI {f : Nat} (hf : f = 2 ∨ f = 3 ∨ f = 5) {x y : Int} (h : x * x = f * (y * y)) : x = 0 ∧ y = 0 := by
  have e : x.natAbs * x.natAbs = f * (y.natAbs * y.natAbs) := by
    have := congrArg Int.natAbs h
    rw [Int.natAbs_mul, Int.natAbs_mul, Int.natAbs_mul, Int.natAbs_natCast] at this
    exact this
  have x0 := no_root hf _ _ _ (Nat.le_refl _) e
  rw [x0] at e
  have f0 : 0 < f := by rcases hf with rfl | rfl | rfl <;> decide
  have y0 : y.natAbs * y.natAbs = 0 := by
    rcases Nat.mul_eq_zero.mp e.symm with z | z
    · omega
    · exact z
  have := Nat.mul_eq_zero.mp y0
  omega
/-- the norms do not vanish -/
theorem nf_ne {f : Nat} (hf : f = 2 ∨ f = 3 ∨ f = 5) {a b : Int} (h : a ≠ 0 ∨ b ≠ 0) : a * a - f * (b * b) ≠ 0 := fun z => by
  have := no_rootI hf (x := a) (y := b) (by omega)
  omega
theorem n5_ne {a b : Int} (h : a ≠ 0 ∨ b ≠ 0) : a * a + a * b - b * b ≠ 0 := fun z => by
  have := no_rootI (f := 5) (by omega) (x := 2 * a + b) (y := b) (by grind)
  omega
theorem gc_mate {a b n : Int} : gc (a + b) (-b) n = gc a b n := by
  have e : Nat.gcd (a + b).natAbs (-b).natAbs = Nat.gcd a.natAbs b.natAbs := by
    rw [Int.natAbs_neg]
    apply Nat.dvd_antisymm
    · refine Nat.dvd_gcd ?_ (Nat.gcd_dvd_right _ _)
      have h1 : ((Nat.gcd (a + b).natAbs b.natAbs : Nat) : Int) ∣ a + b := Int.ofNat_dvd_left.mpr (Nat.gcd_dvd_left _ _)
      have h2 : ((Nat.gcd (a + b).natAbs b.natAbs : Nat) : Int) ∣ b := Int.ofNat_dvd_left.mpr (Nat.gcd_dvd_right _ _)
      have := Int.dvd_sub h1 h2
      rw [Int.add_sub_cancel] at this
      exact Int.ofNat_dvd_left.mp this
    · refine Nat.dvd_gcd ?_ (Nat.gcd_dvd_right _ _)
      have h1 : ((Nat.gcd a.natAbs b.natAbs : Nat) : Int) ∣ a := Int.ofNat_dvd_left.mpr (Nat.gcd_dvd_left _ _)
      have h2 : ((Nat.gcd a.natAbs b.natAbs : Nat) : Int) ∣ b := Int.ofNat_dvd_left.mpr (Nat.gcd_dvd_right _ _)
      exact Int.ofNat_dvd_left.mp (Int.dvd_add h1 h2)
  unfold gc
  rw [e]
theorem gc_neg {a b n : Int} : gc a (-b) n = gc a b n := by
  unfold gc
  rw [Int.natAbs_neg]
end Num

set_option Elab.async false
set_option linter.all false
set_option maxRecDepth 100000
set_option maxHeartbeats 4000000
/-! Plain numbers: the fields' operations on lowest forms, sizes, signs, floors. -/
namespace Num
def Kind (f : Int) : Prop := f = 2 ∨ f = 3 ∨ f = 5
/-- parts of at most n bits, a divisor of at most m -/
structure Sn (n m : Nat) (p : Int × Int × Int) : Prop where
  a : Sz n p.1
  b : Sz n p.2.1
  c : Sz m p.2.2
instance {n : Nat} {a : Int} : Decidable (Sz n a) := inferInstanceAs (Decidable (a.natAbs < 2 ^ n))
instance {p : Int × Int × Int} : Decidable (IsLow p) := inferInstanceAs (Decidable (0 < p.2.2 ∧ gc p.1 p.2.1 p.2.2 = 1))
instance {n m : Nat} {p : Int × Int × Int} : Decidable (Sn n m p) := if h : Sz n p.1 ∧ Sz n p.2.1 ∧ Sz m p.2.2 then .isTrue ⟨h.1, h.2.1, h.2.2⟩ else .isFalse fun z => h ⟨z.a, z.b, z.c⟩
theorem Sn.mono {n m n' m' : Nat} {p : Int × Int × Int} (h : Sn n m p) (h1 : n ≤ n') (h2 : m ≤ m') : Sn n' m' p := ⟨h.a.mono h1, h.b.mono h1, h.c.mono h2⟩
theorem Sz.sum {p q n : Nat} {a b : Int} (h : Sz p a) (h' : Sz q b) (h1 : p ≤ n) (h2 : q ≤ n) : Sz (n + 1) (a + b) := (h.mono h1).add (h'.mono h2)
theorem Sz.dif {p q n : Nat} {a b : Int} (h : Sz p a) (h' : Sz q b) (h1 : p ≤ n) (h2 : q ≤ n) : Sz (n + 1) (a - b) := (h.mono h1).sub (h'.mono h2)
theorem kind_sz {f : Int} (h : Kind f) : Sz 3 f := by rcases h with rfl | rfl | rfl <;> (show Int.natAbs _ < 2 ^ 3; decide)
theorem IsLow.ne {p : Int × Int × Int} (h : IsLow p) : p.2.2 ≠ 0 := by have := h.1; omega
def sum2 (p q : Int × Int × Int) : Int × Int × Int := low (p.1 * q.2.2 + q.1 * p.2.2) (p.2.1 * q.2.2 + q.2.1 * p.2.2) (p.2.2 * q.2.2)
def opp (p : Int × Int × Int) : Int × Int × Int := (-p.1, -p.2.1, p.2.2)
def prA (f : Int) (p q : Int × Int × Int) : Int := if f = 5 then p.1 * q.1 + p.2.1 * q.2.1 else p.1 * q.1 + f * p.2.1 * q.2.1
def prB (f : Int) (p q : Int × Int × Int) : Int := if f = 5 then p.1 * q.2.1 + p.2.1 * q.1 + p.2.1 * q.2.1 else p.1 * q.2.1 + p.2.1 * q.1
def prd (f : Int) (p q : Int × Int × Int) : Int × Int × Int := low (prA f p q) (prB f p q) (p.2.2 * q.2.2)
def mat (f : Int) (p : Int × Int × Int) : Int × Int × Int := if f = 5 then (p.1 + p.2.1, -p.2.1, p.2.2) else (p.1, -p.2.1, p.2.2)
def nrm (f : Int) (p : Int × Int × Int) : Int × Int × Int := prd f p (mat f p)
def quo (f : Int) (p q : Int × Int × Int) : Int × Int × Int := low ((prd f p (mat f q)).1 * (nrm f q).2.2) ((prd f p (mat f q)).2.1 * (nrm f q).2.2) ((prd f p (mat f q)).2.2 * (nrm f q).1)
theorem mat_c {f : Int} {p : Int × Int × Int} : (mat f p).2.2 = p.2.2 := by
  unfold mat
  split <;> rfl
theorem prd_c {f : Int} {p q : Int × Int × Int} (h : p.2.2 ≠ 0) (h' : q.2.2 ≠ 0) : 0 < (prd f p q).2.2 := (low_low (Int.mul_ne_zero h h')).1
theorem low_sn {a b c : Int} {n m : Nat} (h : c ≠ 0) (h1 : Sz n a) (h2 : Sz n b) (h3 : Sz m c) : Sn n m (low a b c) := by
  obtain ⟨q1, q2, q3⟩ := low_size h h1 h2 h3
  exact ⟨q1, q2, q3⟩
section
variable {n m n' m' N : Nat} {f : Int} {p q : Int × Int × Int}
theorem Sz.zero {n : Nat} : Sz n 0 := Nat.two_pow_pos n
theorem Sz.one {n : Nat} : Sz (n + 1) 1 := Nat.one_lt_two_pow (by omega)
theorem wh_sn {w : Int} (h : Sz n w) : Sn n 1 (w, (0 : Int), (1 : Int)) := ⟨h, Sz.zero, Sz.one⟩
theorem wh_ne {w : Int} : ((w, (0 : Int), (1 : Int)) : Int × Int × Int).2.2 ≠ 0 := by show (1 : Int) ≠ 0; decide
theorem opp_sn (h : Sn n m p) : Sn n m (opp p) := ⟨h.a.neg, h.b.neg, h.c⟩
theorem mat_sn (h : Sn n m p) : Sn (n + 1) m (mat f p) := by
  unfold mat
  split
  · exact ⟨h.a.add h.b, h.b.neg.mono (Nat.le_succ _), h.c⟩
  · exact ⟨h.a.mono (Nat.le_succ _), h.b.neg.mono (Nat.le_succ _), h.c⟩
theorem sum2_sn (hp : Sn n m p) (hq : Sn n' m' q) (h : p.2.2 ≠ 0) (h' : q.2.2 ≠ 0) (h1 : n + m' ≤ N) (h2 : n' + m ≤ N) : Sn (N + 1) (m + m') (sum2 p q) :=
  low_sn (Int.mul_ne_zero h h') ((hp.a.mul hq.c).sum (hq.a.mul hp.c) h1 h2) ((hp.b.mul hq.c).sum (hq.b.mul hp.c) h1 h2) (hp.c.mul hq.c)
theorem prA_sz (hf : Kind f) (hp : Sn n m p) (hq : Sn n' m' q) : Sz (n + n' + 4) (prA f p q) := by
  unfold prA
  split
  · exact ((hp.a.mul hq.a).add (hp.b.mul hq.b)).mono (by omega)
  · exact ((hp.a.mul hq.a).sum (((kind_sz hf).mul hp.b).mul hq.b) (n := n + n' + 3) (by omega) (by omega))
theorem prB_sz (hp : Sn n m p) (hq : Sn n' m' q) : Sz (n + n' + 2) (prB f p q) := by
  unfold prB
  split
  · exact (((hp.a.mul hq.b).add (hp.b.mul hq.a)).sum (hp.b.mul hq.b) (n := n + n' + 1) (by omega) (by omega))
  · exact ((hp.a.mul hq.b).add (hp.b.mul hq.a)).mono (by omega)
theorem prd_sn (hf : Kind f) (hp : Sn n m p) (hq : Sn n' m' q) (h : p.2.2 ≠ 0) (h' : q.2.2 ≠ 0) : Sn (n + n' + 4) (m + m') (prd f p q) :=
  low_sn (Int.mul_ne_zero h h') (prA_sz hf hp hq) ((prB_sz hp hq).mono (by omega)) (hp.c.mul hq.c)
end
/-! ### the fields -/
theorem prB_mat {f : Int} {p : Int × Int × Int} : prB f p (mat f p) = 0 := by
  unfold prB mat
  split <;> grind
theorem prA_mat5 {p : Int × Int × Int} : prA 5 p (mat 5 p) = p.1 * p.1 + p.1 * p.2.1 - p.2.1 * p.2.1 := by
  unfold prA mat
  simp only [if_true]
  grind
theorem prA_mat {f : Int} (h : f ≠ 5) {p : Int × Int × Int} : prA f p (mat f p) = p.1 * p.1 - f * (p.2.1 * p.2.1) := by
  unfold prA mat
  simp only [if_neg h]
  grind
theorem nrm_ne {f : Int} (hf : Kind f) {p : Int × Int × Int} (lp : IsLow p) (h : p ≠ (0, 0, 1)) : prA f p (mat f p) ≠ 0 := by
  have z : p.1 ≠ 0 ∨ p.2.1 ≠ 0 := by
    by_cases h1 : p.1 = 0
    · by_cases h2 : p.2.1 = 0
      · have g := lp.2
        have g0 := lp.1
        rw [h1, h2] at g
        have : gc 0 0 p.2.2 = p.2.2.natAbs := by simp [gc]
        rw [this] at g
        exact absurd (show p = (0, 0, 1) by ext <;> (simp only; omega)) h
      · exact .inr h2
    · exact .inl h1
  rcases hf with rfl | rfl | rfl
  · rw [prA_mat (by decide)]
    exact nf_ne (f := 2) (by omega) z
  · rw [prA_mat (by decide)]
    exact nf_ne (f := 3) (by omega) z
  · rw [prA_mat5]
    exact n5_ne z
theorem low1_ne {a b n : Int} (h : a ≠ 0) : (low a b n).1 ≠ 0 := fun z => by
  have := (low_mul (a := a) (b := b) (n := n)).1
  rw [z, Int.zero_mul] at this
  exact h this.symm
theorem low2_0 {a n : Int} (h : n ≠ 0) : (low a 0 n).2.1 = 0 := by
  have := (low_mul (a := a) (b := 0) (n := n)).2.1
  rcases Int.mul_eq_zero.mp this with z | z
  · exact z
  · exact absurd z (sg_ne h)
/-- (u * v') * v = u * n(v), by parts -/
theorem alg {f : Int} {x y u v : Int × Int × Int} (hx : x.1 = prA f u (mat f v)) (hy : x.2.1 = prB f u (mat f v)) : prA f x v = u.1 * prA f v (mat f v) ∧ prB f x v = u.2.1 * prA f v (mat f v) := by
  by_cases h : f = 5
  · subst h
    unfold prA prB mat at *
    simp only [if_true] at *
    constructor
    · rw [hx, hy]; grind
    · rw [hx, hy]; grind
  · unfold prA prB mat at *
    simp only [if_neg h] at *
    constructor
    · rw [hx, hy]; grind
    · rw [hx, hy]; grind
theorem pr_scale {f c : Int} {x v : Int × Int × Int} {m : Int} : prA f (c * x.1, c * x.2.1, m) v = c * prA f x v ∧ prB f (c * x.1, c * x.2.1, m) v = c * prB f x v := by
  unfold prA prB
  constructor <;> split <;> grind
theorem quo_back {f : Int} (hf : Kind f) {u v : Int × Int × Int} (lu : IsLow u) (lv : IsLow v) (h0 : v ≠ (0, 0, 1)) : IsLow (quo f u v) ∧ prd f (quo f u v) v = u := by
  have hN := nrm_ne hf lv h0
  have u3 : u.2.2 ≠ 0 := by have := lu.1; omega
  have v3 : v.2.2 ≠ 0 := by have := lv.1; omega
  have m3 : (mat f v).2.2 ≠ 0 := by rw [mat_c]; exact v3
  have hn1 : (nrm f v).1 ≠ 0 := low1_ne hN
  have c3 := prd_c (f := f) u3 m3
  have d0 : (prd f u (mat f v)).2.2 * (nrm f v).1 ≠ 0 := Int.mul_ne_zero (by omega) hn1
  have lq : IsLow (quo f u v) := low_low d0
  refine ⟨lq, ?_⟩
  have q3 : (quo f u v).2.2 ≠ 0 := by have := lq.1; omega
  -- the parts
  obtain ⟨a1, a2, a3⟩ := low_mul (a := prA f u (mat f v)) (b := prB f u (mat f v)) (n := u.2.2 * (mat f v).2.2)
  have s0 := sg_ne (a := prA f u (mat f v)) (b := prB f u (mat f v)) (Int.mul_ne_zero u3 m3)
  obtain ⟨b1, b2, b3⟩ := low_mul (a := prA f v (mat f v)) (b := prB f v (mat f v)) (n := v.2.2 * (mat f v).2.2)
  have t0 := sg_ne (a := prA f v (mat f v)) (b := prB f v (mat f v)) (Int.mul_ne_zero v3 m3)
  obtain ⟨r1, r2, r3⟩ := low_mul (a := (prd f u (mat f v)).1 * (nrm f v).2.2) (b := (prd f u (mat f v)).2.1 * (nrm f v).2.2) (n := (prd f u (mat f v)).2.2 * (nrm f v).1)
  have r0 := sg_ne (a := (prd f u (mat f v)).1 * (nrm f v).2.2) (b := (prd f u (mat f v)).2.1 * (nrm f v).2.2) d0
  change (prd f u (mat f v)).1 * _ = _ at a1
  change (prd f u (mat f v)).2.1 * _ = _ at a2
  change (prd f u (mat f v)).2.2 * _ = _ at a3
  change (nrm f v).1 * _ = _ at b1
  change (nrm f v).2.2 * _ = _ at b3
  change (quo f u v).1 * _ = _ at r1
  change (quo f u v).2.1 * _ = _ at r2
  change (quo f u v).2.2 * _ = _ at r3
  generalize sg (prA f u (mat f v)) (prB f u (mat f v)) (u.2.2 * (mat f v).2.2) = s at a1 a2 a3 s0
  generalize sg (prA f v (mat f v)) (prB f v (mat f v)) (v.2.2 * (mat f v).2.2) = t at b1 b2 b3 t0
  generalize sg ((prd f u (mat f v)).1 * (nrm f v).2.2) ((prd f u (mat f v)).2.1 * (nrm f v).2.2) ((prd f u (mat f v)).2.2 * (nrm f v).1) = r at r1 r2 r3 r0
  rw [mat_c] at a3 b3
  obtain ⟨e1, e2⟩ := alg (f := f) (x := (prA f u (mat f v), prB f u (mat f v), 0)) (y := v) (u := u) (v := v) rfl rfl
  have K : r * (s * t) ≠ 0 := Int.mul_ne_zero r0 (Int.mul_ne_zero s0 t0)
  -- the quotient's parts, times r s t
  have x1 : (r * (s * t)) * (quo f u v).1 = (v.2.2 * v.2.2) * prA f u (mat f v) := by
    have : (r * (s * t)) * (quo f u v).1 = ((quo f u v).1 * r) * (s * t) := by grind
    rw [this, r1, ← b3, ← a1]
    grind
  have x2 : (r * (s * t)) * (quo f u v).2.1 = (v.2.2 * v.2.2) * prB f u (mat f v) := by
    have : (r * (s * t)) * (quo f u v).2.1 = ((quo f u v).2.1 * r) * (s * t) := by grind
    rw [this, r2, ← b3, ← a2]
    grind
  have x3 : (r * (s * t)) * (quo f u v).2.2 = (u.2.2 * v.2.2) * prA f v (mat f v) := by
    have : (r * (s * t)) * (quo f u v).2.2 = ((quo f u v).2.2 * r) * (s * t) := by grind
    rw [this, r3, ← a3, ← b1]
    grind
  refine (low_uniq lu (low_low (Int.mul_ne_zero q3 v3)) ?_ ?_).symm
  all_goals
    obtain ⟨g1, g2⟩ := low_mul (a := prA f (quo f u v) v) (b := prB f (quo f u v) v) (n := (quo f u v).2.2 * v.2.2)
    obtain ⟨g2, g3⟩ := g2
    have gs := sg_ne (a := prA f (quo f u v) v) (b := prB f (quo f u v) v) (Int.mul_ne_zero q3 v3)
    generalize low (prA f (quo f u v) v) (prB f (quo f u v) v) ((quo f u v).2.2 * v.2.2) = L at g1 g2 g3 ⊢
    generalize sg (prA f (quo f u v) v) (prB f (quo f u v) v) ((quo f u v).2.2 * v.2.2) = g at g1 g2 g3 gs
    obtain ⟨k1, k2⟩ := pr_scale (f := f) (c := r * (s * t)) (x := quo f u v) (v := v) (m := 0)
    rw [x1, x2] at k1 k2
    obtain ⟨h1, h2⟩ := pr_scale (f := f) (c := v.2.2 * v.2.2) (x := (prA f u (mat f v), prB f u (mat f v), 0)) (v := v) (m := 0)
    simp only at h1 h2
    rw [h1, e1] at k1
    rw [h2, e2] at k2
  · apply Int.eq_of_mul_eq_mul_right (Int.mul_ne_zero gs K)
    have l1 : u.1 * L.2.2 * (g * (r * (s * t))) = u.1 * ((L.2.2 * g) * (r * (s * t))) := by grind
    have l2 : L.1 * u.2.2 * (g * (r * (s * t))) = u.2.2 * ((r * (s * t)) * (L.1 * g)) := by grind
    rw [l1, l2, g1, g3, ← k1]
    have l3 : (quo f u v).2.2 * v.2.2 * (r * (s * t)) = v.2.2 * ((r * (s * t)) * (quo f u v).2.2) := by grind
    rw [l3, x3]
    grind
  · apply Int.eq_of_mul_eq_mul_right (Int.mul_ne_zero gs K)
    have l1 : u.2.1 * L.2.2 * (g * (r * (s * t))) = u.2.1 * ((L.2.2 * g) * (r * (s * t))) := by grind
    have l2 : L.2.1 * u.2.2 * (g * (r * (s * t))) = u.2.2 * ((r * (s * t)) * (L.2.1 * g)) := by grind
    rw [l1, l2, g2, g3, ← k2]
    have l3 : (quo f u v).2.2 * v.2.2 * (r * (s * t)) = v.2.2 * ((r * (s * t)) * (quo f u v).2.2) := by grind
    rw [l3, x3]
    grind
theorem mat_low {f : Int} {p : Int × Int × Int} (lp : IsLow p) : IsLow (mat f p) := by
  unfold mat
  split
  · exact ⟨lp.1, by rw [gc_mate]; exact lp.2⟩
  · exact ⟨lp.1, by rw [gc_neg]; exact lp.2⟩
theorem sum2_low {p q : Int × Int × Int} (h : IsLow p) (h' : IsLow q) : IsLow (sum2 p q) := low_low (Int.mul_ne_zero h.ne h'.ne)
theorem prd_low {f : Int} {p q : Int × Int × Int} (h : IsLow p) (h' : IsLow q) : IsLow (prd f p q) := low_low (Int.mul_ne_zero h.ne h'.ne)
theorem opp_low {p : Int × Int × Int} (h : IsLow p) : IsLow (opp p) := ⟨h.1, by
  have := h.2
  unfold gc at *
  simpa only [opp, Int.natAbs_neg] using this⟩
/-! ### signs -/
/-- the sign of x and y times the root of d together -/
def sgn (d x y : Int) : Int := if x = 0 ∧ y = 0 then 0 else if 0 ≤ x ∧ 0 ≤ y then 1 else if x ≤ 0 ∧ y ≤ 0 then -1 else if (decide (0 < x)) = decide (d * y * y < x * x) then 1 else -1
def rt (f : Int) (p : Int × Int × Int) : Int × Int × Int := if f = 5 then (2 * p.1 + p.2.1, p.2.1, 2 * p.2.2) else p
def sg3 (f : Int) (p : Int × Int × Int) : Int := sgn f (rt f p).1 (rt f p).2.1
theorem kind_pos {f : Int} (h : Kind f) : 0 < f := by rcases h with rfl | rfl | rfl <;> decide
theorem sq_ne {f : Int} (hf : Kind f) {x y : Int} (h : x ≠ 0 ∨ y ≠ 0) : x * x ≠ f * y * y := fun e => by
  rw [Int.mul_assoc] at e
  rcases hf with rfl | rfl | rfl
  · have := no_rootI (f := 2) (by omega) e; omega
  · have := no_rootI (f := 3) (by omega) e; omega
  · have := no_rootI (f := 5) (by omega) e; omega
theorem mul_lt_self {a b : Int} (h : 0 ≤ a) (h' : a < b) : a * a < b * b := Int.mul_self_lt_mul_self h h'
theorem mul_le_self {a b : Int} (h : 0 ≤ a) (h' : a ≤ b) : a * a ≤ b * b := Int.mul_self_le_mul_self h h'
/-- a sign is that of a positive multiple -/
theorem sgn_scale {d x y g : Int} (hg : 0 < g) : sgn d (x * g) (y * g) = sgn d x y := by
  have e0 : ∀ z : Int, z * g = 0 ↔ z = 0 := fun z => ⟨fun h => by rcases Int.mul_eq_zero.mp h with h | h <;> omega, fun h => by rw [h, Int.zero_mul]⟩
  have e1 : ∀ z : Int, 0 ≤ z * g ↔ 0 ≤ z := fun z => ⟨fun h => Int.le_of_mul_le_mul_right (by rw [Int.zero_mul]; exact h) hg, fun h => Int.mul_nonneg h (by omega)⟩
  have e2 : ∀ z : Int, z * g ≤ 0 ↔ z ≤ 0 := fun z => ⟨fun h => Int.le_of_mul_le_mul_right (by rw [Int.zero_mul]; exact h) hg, fun h => Int.mul_nonpos_of_nonpos_of_nonneg h (by omega)⟩
  have e3 : 0 < x * g ↔ 0 < x := by have := e2 x; omega
  have e4 : d * (y * g) * (y * g) < x * g * (x * g) ↔ d * y * y < x * x := by
    have a1 : d * (y * g) * (y * g) = (d * y * y) * (g * g) := by grind
    have a2 : x * g * (x * g) = (x * x) * (g * g) := by grind
    rw [a1, a2]
    have gg : 0 < g * g := Int.mul_pos hg hg
    exact ⟨fun h => Int.lt_of_mul_lt_mul_right h (by omega), fun h => Int.mul_lt_mul_of_pos_right h gg⟩
  unfold sgn
  simp only [e0, e1, e2, e3, e4]
theorem sgn_neg {d x y : Int} (hd : Kind d) : sgn d (-x) (-y) = - sgn d x y := by
  unfold sgn
  by_cases h0 : x = 0 ∧ y = 0
  · rw [if_pos (by omega), if_pos h0]
    rfl
  · rw [if_neg (by omega), if_neg h0]
    have ne := sq_ne hd (x := x) (y := y) (by omega)
    have a1 : d * -y * -y = d * y * y := by grind
    have a2 : -x * -x = x * x := by grind
    rw [a1, a2]
    by_cases h1 : 0 ≤ x ∧ 0 ≤ y
    · rw [if_pos h1, if_neg (by omega), if_pos (by omega)]
    · rw [if_neg h1]
      by_cases h2 : x ≤ 0 ∧ y ≤ 0
      · rw [if_pos h2, if_pos (by omega)]
        rfl
      · rw [if_neg h2, if_neg (by omega), if_neg (by omega)]
        by_cases h3 : d * y * y < x * x
        · rw [decide_eq_true h3]
          by_cases h4 : 0 < x
          · rw [decide_eq_true h4, decide_eq_false (by omega : ¬ 0 < -x)]
            rfl
          · rw [decide_eq_false h4, decide_eq_true (by omega : 0 < -x)]
            rfl
        · rw [decide_eq_false h3]
          by_cases h4 : 0 < x
          · rw [decide_eq_true h4, decide_eq_false (by omega : ¬ 0 < -x)]
            rfl
          · rw [decide_eq_false h4, decide_eq_true (by omega : 0 < -x)]
            rfl
/-- the sign of a lowest form -/
theorem sg3_low {f a b n : Int} (hn : 0 < n) : sg3 f (low a b n) = sg3 f (a, b, n) := by
  obtain ⟨h1, h2, h3⟩ := low_mul (a := a) (b := b) (n := n)
  have hs : 0 < sg a b n := by
    have := gc_pos (a := a) (b := b) (n := n) (by omega)
    unfold sg
    rw [if_neg (by omega)]
    omega
  unfold sg3 rt
  by_cases h : f = 5
  · simp only [if_pos h]
    rw [← sgn_scale hs]
    congr 1
    · rw [Int.add_mul, Int.mul_assoc, h1, h2]
  · simp only [if_neg h]
    rw [← sgn_scale hs, h1, h2]
theorem sg3_opp {f : Int} (hf : Kind f) {p : Int × Int × Int} : sg3 f (opp p) = - sg3 f p := by
  unfold sg3 rt opp
  by_cases h : f = 5
  · simp only [if_pos h]
    rw [← sgn_neg hf]
    congr 1
    omega
  · simp only [if_neg h]
    exact sgn_neg hf
/-- q less p is p less q, turned about -/
theorem sum2_opp {p q : Int × Int × Int} (h : p.2.2 ≠ 0) (h' : q.2.2 ≠ 0) : sum2 q (opp p) = opp (sum2 p (opp q)) := by
  have e : opp (sum2 p (opp q)) = low (-(p.1 * q.2.2 + -q.1 * p.2.2)) (-(p.2.1 * q.2.2 + -q.2.1 * p.2.2)) (p.2.2 * q.2.2) := by
    have n0 : p.2.2 * q.2.2 ≠ 0 := Int.mul_ne_zero h h'
    refine (low_uniq (low_low n0) (opp_low (low_low n0)) ?_ ?_).symm
    · show _ * (low _ _ _).2.2 = -(low _ _ _).1 * _
      obtain ⟨a1, a2, a3⟩ := low_mul (a := p.1 * (opp q).2.2 + (opp q).1 * p.2.2) (b := p.2.1 * (opp q).2.2 + (opp q).2.1 * p.2.2) (n := p.2.2 * (opp q).2.2)
      obtain ⟨b1, b2, b3⟩ := low_mul (a := -(p.1 * q.2.2 + -q.1 * p.2.2)) (b := -(p.2.1 * q.2.2 + -q.2.1 * p.2.2)) (n := p.2.2 * q.2.2)
      have s0 := sg_ne (a := p.1 * (opp q).2.2 + (opp q).1 * p.2.2) (b := p.2.1 * (opp q).2.2 + (opp q).2.1 * p.2.2) (n := p.2.2 * (opp q).2.2) n0
      have t0 := sg_ne (a := -(p.1 * q.2.2 + -q.1 * p.2.2)) (b := -(p.2.1 * q.2.2 + -q.2.1 * p.2.2)) n0
      apply Int.eq_of_mul_eq_mul_right (Int.mul_ne_zero s0 t0)
      simp only [opp] at *
      generalize low (p.1 * q.2.2 + -q.1 * p.2.2) (p.2.1 * q.2.2 + -q.2.1 * p.2.2) (p.2.2 * q.2.2) = u at *
      generalize low (-(p.1 * q.2.2 + -q.1 * p.2.2)) (-(p.2.1 * q.2.2 + -q.2.1 * p.2.2)) (p.2.2 * q.2.2) = v at *
      generalize sg (p.1 * q.2.2 + -q.1 * p.2.2) (p.2.1 * q.2.2 + -q.2.1 * p.2.2) (p.2.2 * q.2.2) = s at *
      generalize sg (-(p.1 * q.2.2 + -q.1 * p.2.2)) (-(p.2.1 * q.2.2 + -q.2.1 * p.2.2)) (p.2.2 * q.2.2) = t at *
      grind
    · show _ * (low _ _ _).2.2 = -(low _ _ _).2.1 * _
      obtain ⟨a1, a2, a3⟩ := low_mul (a := p.1 * (opp q).2.2 + (opp q).1 * p.2.2) (b := p.2.1 * (opp q).2.2 + (opp q).2.1 * p.2.2) (n := p.2.2 * (opp q).2.2)
      obtain ⟨b1, b2, b3⟩ := low_mul (a := -(p.1 * q.2.2 + -q.1 * p.2.2)) (b := -(p.2.1 * q.2.2 + -q.2.1 * p.2.2)) (n := p.2.2 * q.2.2)
      have s0 := sg_ne (a := p.1 * (opp q).2.2 + (opp q).1 * p.2.2) (b := p.2.1 * (opp q).2.2 + (opp q).2.1 * p.2.2) (n := p.2.2 * (opp q).2.2) n0
      have t0 := sg_ne (a := -(p.1 * q.2.2 + -q.1 * p.2.2)) (b := -(p.2.1 * q.2.2 + -q.2.1 * p.2.2)) n0
      apply Int.eq_of_mul_eq_mul_right (Int.mul_ne_zero s0 t0)
      simp only [opp] at *
      generalize low (p.1 * q.2.2 + -q.1 * p.2.2) (p.2.1 * q.2.2 + -q.2.1 * p.2.2) (p.2.2 * q.2.2) = u at *
      generalize low (-(p.1 * q.2.2 + -q.1 * p.2.2)) (-(p.2.1 * q.2.2 + -q.2.1 * p.2.2)) (p.2.2 * q.2.2) = v at *
      generalize sg (p.1 * q.2.2 + -q.1 * p.2.2) (p.2.1 * q.2.2 + -q.2.1 * p.2.2) (p.2.2 * q.2.2) = s at *
      generalize sg (-(p.1 * q.2.2 + -q.1 * p.2.2)) (-(p.2.1 * q.2.2 + -q.2.1 * p.2.2)) (p.2.2 * q.2.2) = t at *
      grind
  rw [e]
  unfold sum2 opp
  simp only
  congr 1
  · grind
  · grind
  · exact Int.mul_comm _ _
end Num

set_option Elab.async false
set_option linter.all false
set_option maxRecDepth 100000
set_option maxHeartbeats 4000000
/-! Plain numbers: floors by whole roots; other ways to tell a sign. -/
namespace Num
open PySem
theorem isqrt_le (n : Nat) : Float64.isqrt n * Float64.isqrt n ≤ n ∧ n < (Float64.isqrt n + 1) * (Float64.isqrt n + 1) := Float64.isqrt_spec n
def root (f y : Int) : Int := (Float64.isqrt (f * y * y).toNat : Nat)
theorem root_spec {f y : Int} (hf : 0 < f) : 0 ≤ root f y ∧ root f y * root f y ≤ f * y * y ∧ f * y * y < (root f y + 1) * (root f y + 1) := by
  have h0 : 0 ≤ f * y * y := by
    rw [Int.mul_assoc]
    exact Int.mul_nonneg (by omega) (by rcases Int.le_total 0 y with h | h; exact Int.mul_nonneg h h; exact Int.mul_nonneg_of_nonpos_of_nonpos h h)
  obtain ⟨h1, h2⟩ := isqrt_le (f * y * y).toNat
  unfold root
  generalize Float64.isqrt (f * y * y).toNat = r at *
  have e : ((f * y * y).toNat : Int) = f * y * y := Int.toNat_of_nonneg h0
  refine ⟨by omega, ?_, ?_⟩
  · have : ((r * r : Nat) : Int) ≤ ((f * y * y).toNat : Int) := by exact_mod_cast h1
    rw [e, Int.natCast_mul] at this
    exact this
  · have : ((f * y * y).toNat : Int) < (((r + 1) * (r + 1) : Nat) : Int) := by exact_mod_cast h2
    rw [e, Int.natCast_mul] at this
    exact_mod_cast this
def rot (f y : Int) : Int := if y < 0 then -(root f y) - 1 else root f y
def flo (f : Int) (p : Int × Int × Int) : Int := ((rt f p).1 + rot f (rt f p).2.1).fdiv (rt f p).2.2
/-- z and y times the root are not below zero if z and the whole root are not -/
theorem sgn_ge {f z y : Int} (hf : Kind f) (h : 0 ≤ z + rot f y) : 0 ≤ sgn f z y := by
  obtain ⟨r0, r1, r2⟩ := root_spec (f := f) (y := y) (kind_pos hf)
  unfold rot at h
  unfold sgn
  split
  · omega
  · split
    · omega
    · rename_i n0 n1
      split
      · rename_i h2
        exfalso
        split at h
        · omega
        · have y0 : y = 0 := by omega
          subst y0
          have : root f 0 = 0 := by
            rcases Int.lt_trichotomy (root f 0) 0 with q | q | q
            · omega
            · exact q
            · have := Int.mul_pos q q
              rw [Int.mul_zero] at r1
              omega
          omega
      · rename_i h2
        split
        · omega
        · rename_i h3
          exfalso
          apply h3
          split at h
          · -- y below zero: z above the root
            have hz : root f y + 1 ≤ z := by omega
            have := mul_le_self (a := root f y + 1) (by omega) hz
            rw [decide_eq_true (by omega : 0 < z), decide_eq_true (by omega)]
          · have hz : -z ≤ root f y := by omega
            have z0 : z < 0 := by omega
            have := mul_le_self (a := -z) (by omega) hz
            have e : -z * -z = z * z := by grind
            rw [e] at this
            rw [decide_eq_false (by omega : ¬ 0 < z), decide_eq_false (by omega)]
theorem sgn_lt {f z y : Int} (hf : Kind f) (h : z + rot f y < 0) : sgn f z y < 0 := by
  obtain ⟨r0, r1, r2⟩ := root_spec (f := f) (y := y) (kind_pos hf)
  unfold rot at h
  unfold sgn
  split
  · exfalso
    split at h <;> omega
  · split
    · exfalso
      split at h <;> omega
    · split
      · omega
      · rename_i n0 n1 n2
        split
        · rename_i h3
          exfalso
          split at h
          · have hz : z ≤ root f y := by omega
            have z0 : 0 < z := by omega
            have := mul_le_self (a := z) (by omega) hz
            rw [decide_eq_true z0, decide_eq_false (by omega)] at h3
            cases h3
          · have hz : root f y + 1 ≤ -z := by omega
            have := mul_le_self (a := root f y + 1) (by omega) hz
            have e : -z * -z = z * z := by grind
            rw [e] at this
            rw [decide_eq_false (by omega : ¬ 0 < z), decide_eq_true (by omega)] at h3
            cases h3
        · omega
theorem rt_shift {f w : Int} {p : Int × Int × Int} : rt f (p.1 - w * p.2.2, p.2.1, p.2.2) = ((rt f p).1 - w * (rt f p).2.2, (rt f p).2.1, (rt f p).2.2) := by
  unfold rt
  split
  · simp only
    congr 1
    grind
  · rfl
theorem rt_pos {f : Int} {p : Int × Int × Int} (h : 0 < p.2.2) : 0 < (rt f p).2.2 := by
  unfold rt
  split
  · simp only; omega
  · exact h
theorem flo_spec {f : Int} (hf : Kind f) {p : Int × Int × Int} (h : 0 < p.2.2) : 0 ≤ sg3 f (p.1 - flo f p * p.2.2, p.2.1, p.2.2) ∧ sg3 f (p.1 - (flo f p + 1) * p.2.2, p.2.1, p.2.2) < 0 := by
  have hn := rt_pos (f := f) h
  unfold sg3
  rw [rt_shift, rt_shift]
  have e : flo f p = ((rt f p).1 + rot f (rt f p).2.1).fdiv (rt f p).2.2 := rfl
  generalize flo f p = w at *
  generalize (rt f p).1 = x at *
  generalize (rt f p).2.1 = y at *
  generalize (rt f p).2.2 = n at *
  simp only
  have h1 := Int.mul_fdiv_add_fmod (x + rot f y) n
  have h2 := Int.fmod_nonneg_of_pos (x + rot f y) hn
  have h3 := Int.fmod_lt_of_pos (x + rot f y) hn
  rw [← e] at h1
  have c : n * w = w * n := Int.mul_comm _ _
  rw [c] at h1
  have e2 : (w + 1) * n = w * n + n := by grind
  rw [e2]
  exact ⟨sgn_ge hf (by omega), sgn_lt hf (by omega)⟩
/-- a number less a whole one -/
theorem sg3_less {f w : Int} {p : Int × Int × Int} (h : 0 < p.2.2) : sg3 f (sum2 p (opp (w, 0, 1))) = sg3 f (p.1 - w * p.2.2, p.2.1, p.2.2) := by
  unfold sum2 opp
  simp only [Int.mul_one]
  rw [sg3_low h]
  congr 1
  refine Prod.ext ?_ (Prod.ext ?_ rfl)
  · show p.1 + -w * p.2.2 = p.1 - w * p.2.2
    grind
  · show p.2.1 + -0 * p.2.2 = p.2.1
    grind
/-- a sign by the product, then by squares -/
def lsgn (d x y : Int) : Int := if 0 ≤ x * y then (if 0 < x + y then 1 else 0) - (if x + y < 0 then 1 else 0) else if 0 < x then (if 0 < x * x - d * y * y then 1 else 0) - (if x * x - d * y * y < 0 then 1 else 0) else (if x * x - d * y * y < 0 then 1 else 0) - (if 0 < x * x - d * y * y then 1 else 0)
theorem lsgn_eq {d x y : Int} (hd : Kind d) : lsgn d x y = sgn d x y := by
  unfold lsgn sgn
  by_cases h0 : x = 0 ∧ y = 0
  · obtain ⟨rfl, rfl⟩ := h0
    simp
  · rw [if_neg h0]
    have ne := sq_ne hd (x := x) (y := y) (by omega)
    by_cases h1 : 0 ≤ x ∧ 0 ≤ y
    · rw [if_pos (Int.mul_nonneg h1.1 h1.2), if_pos h1, if_pos (by omega), if_neg (by omega)]
      rfl
    · rw [if_neg h1]
      by_cases h2 : x ≤ 0 ∧ y ≤ 0
      · rw [if_pos (Int.mul_nonneg_of_nonpos_of_nonpos h2.1 h2.2), if_pos h2, if_neg (by omega), if_pos (by omega)]
        rfl
      · rw [if_neg h2]
        have hm : ¬ 0 ≤ x * y := by
          rcases Int.lt_or_gt_of_ne (show x ≠ 0 by intro z; subst z; omega) with q | q
          · have := Int.mul_neg_of_neg_of_pos q (show 0 < y by omega)
            omega
          · have := Int.mul_neg_of_pos_of_neg q (show y < 0 by omega)
            omega
        rw [if_neg hm]
        by_cases h3 : d * y * y < x * x
        · rw [decide_eq_true h3]
          by_cases h4 : 0 < x
          · rw [if_pos h4, decide_eq_true h4, if_pos (by omega), if_neg (by omega), if_pos rfl]
            rfl
          · rw [if_neg h4, decide_eq_false h4, if_neg (by omega), if_pos (by omega), if_neg (by decide)]
            rfl
        · rw [decide_eq_false h3]
          by_cases h4 : 0 < x
          · rw [if_pos h4, decide_eq_true h4, if_neg (by omega), if_pos (by omega), if_neg (by decide)]
            rfl
          · rw [if_neg h4, decide_eq_false h4, if_pos (by omega), if_neg (by omega), if_pos rfl]
            rfl
end Num

set_option Elab.async false
set_option linter.all false
set_option maxRecDepth 100000
set_option maxHeartbeats 4000000
/-! Plain numbers: sizes of floors. -/
namespace Num
theorem root_sz {n : Nat} {f y : Int} (hf : Kind f) (h : Sz n y) : Sz (n + 2) (root f y) := by
  obtain ⟨r0, r1, _⟩ := root_spec (f := f) (y := y) (kind_pos hf)
  unfold Sz at *
  have e : root f y * root f y ≤ 5 * ((y.natAbs : Int) * (y.natAbs : Int)) := by
    have : f * y * y ≤ 5 * ((y.natAbs : Int) * (y.natAbs : Int)) := by
      have a : (y.natAbs : Int) * (y.natAbs : Int) = y * y := Int.natAbs_mul_self
      rw [a, Int.mul_assoc]
      have p : 0 ≤ y * y := by rw [← a]; exact Int.mul_nonneg (by omega) (by omega)
      rcases hf with rfl | rfl | rfl <;> omega
    omega
  have l : (root f y).natAbs * (root f y).natAbs < 2 ^ (n + 2) * 2 ^ (n + 2) := by
    have e2 : (root f y).natAbs * (root f y).natAbs ≤ 5 * (y.natAbs * y.natAbs) := by
      have : (((root f y).natAbs * (root f y).natAbs : Nat) : Int) ≤ ((5 * (y.natAbs * y.natAbs) : Nat) : Int) := by
        rw [Int.natCast_mul, Int.natCast_mul, Int.natCast_mul, Int.natAbs_of_nonneg r0]
        exact e
      exact_mod_cast this
    have e3 : y.natAbs * y.natAbs < 2 ^ n * 2 ^ n := Nat.mul_lt_mul'' h h
    have e4 : (2 : Nat) ^ (n + 2) * 2 ^ (n + 2) = 16 * (2 ^ n * 2 ^ n) := by rw [Nat.pow_add]; grind
    omega
  apply Nat.lt_of_not_le
  intro z
  have := Nat.mul_le_mul z z
  omega
theorem rot_sz {n : Nat} {f y : Int} (hf : Kind f) (h : Sz n y) : Sz (n + 3) (rot f y) := by
  have := root_sz hf h
  unfold rot
  split
  · exact (this.neg.sub (Sz.mono (p := 1) (show Int.natAbs 1 < 2 ^ 1 by decide) (by omega)))
  · exact this.mono (by omega)
theorem fdiv_sz {n : Nat} {a b : Int} (h : Sz n a) (hb : 0 < b) : Sz n (a.fdiv b) := by
  unfold Sz at *
  have h1 := Int.mul_fdiv_add_fmod a b
  have h2 := Int.fmod_nonneg_of_pos a hb
  have h3 := Int.fmod_lt_of_pos a hb
  generalize a.fdiv b = q at *
  generalize a.fmod b = r at *
  have : q.natAbs ≤ a.natAbs := by
    rcases Int.lt_trichotomy q 0 with z | z | z
    · have : b * q ≤ -b := by
        have := Int.mul_le_mul_of_nonneg_left (show q ≤ -1 by omega) (show 0 ≤ b by omega)
        omega
      have k : b * q - q * 1 = (b - 1) * q := by grind
      have k2 : (b - 1) * q ≤ -(b - 1) := by
        have := Int.mul_le_mul_of_nonneg_left (show q ≤ -1 by omega) (show 0 ≤ b - 1 by omega)
        omega
      omega
    · omega
    · have k : b * q - q * 1 = (b - 1) * q := by grind
      have k2 : 0 ≤ (b - 1) * q := Int.mul_nonneg (by omega) (by omega)
      omega
  omega
theorem rt_sz {f : Int} {p : Int × Int × Int} {n m : Nat} (hp : Sn n m p) : Sn (n + 3) (m + 2) (rt f p) := by
  have c2 : Sz 2 (2 : Int) := Sz.const (by decide)
  unfold rt
  split
  · exact ⟨(c2.mul hp.a).sum hp.b (n := n + 2) (by omega) (by omega), hp.b.mono (by omega), (c2.mul hp.c).mono (by omega)⟩
  · exact hp.mono (by omega) (by omega)
theorem flo_sz {n m : Nat} {f : Int} {p : Int × Int × Int} (hf : Kind f) (hp : Sn n m p) (h : 0 < p.2.2) : Sz (n + 8) (flo f p) := by
  have s := rt_sz (f := f) hp
  have np := rt_pos (f := f) h
  unfold flo
  exact fdiv_sz ((s.a.sum (rot_sz hf s.b) (n := n + 7) (by omega) (by omega)).mono (by omega)) np
theorem pow10_sz {n : Nat} (h : n ≤ 60) : Sz 200 ((10 : Int) ^ n) := by
  unfold Sz
  have : ((10 : Int) ^ n).natAbs = 10 ^ n := by rw [Int.natAbs_pow]; rfl
  rw [this]
  exact Nat.lt_of_le_of_lt (Nat.pow_le_pow_right (by decide) h) (by decide)
end Num

set_option Elab.async false
set_option linter.all false
set_option maxRecDepth 100000
set_option maxHeartbeats 8000000
namespace LawP
open PySem PySem.Spec PyProof.Rows L2 EV Num
abbrev T3 (p : Int × Int × Int) : D := .tuple [.int p.1, .int p.2.1, .int p.2.2]
abbrev I (i : Int) : R := .v (.int i)
abbrev B (i : Bool) : R := .v (.bool i)
/-- so much that all is less -/
def bigN : Nat := 20000000
def bigD : Nat := 4000
structure Wl (wl : Nat) : Prop where
  h : 2 ^ bigN ≤ wl
theorem Wl.lt {wl n : Nat} {a : Int} (w : Wl wl) (h : Sz n a) (hn : n ≤ 20000000) : a.natAbs < wl := Nat.lt_of_lt_of_le (h.mono (show n ≤ bigN from hn)) w.h
section
variable {wl k : Nat} {S : Sto}
theorem gc_log {a b n : Int} (h : n ≠ 0) (hs : Sz 8990 n) : (gc a b n).log2 < 9000 := by
  have g := gc_le (a := a) (b := b) h
  have p := gc_pos (a := a) (b := b) h
  have : gc a b n < 2 ^ 8990 := Nat.lt_of_le_of_lt g hs
  exact Nat.lt_trans ((Nat.log2_lt (by omega)).mpr this) (by omega)
theorem dv1 {x a b n : Int} (h : n ≠ 0) (hs : Sz 8990 n) : divOk x (gc a b n : Nat) = true := by
  have p := gc_pos (a := a) (b := b) h
  exact div_ok (by omega) (by rw [Int.natAbs_natCast]; exact gc_log h hs)
theorem dv2 {x a b n : Int} (h : n ≠ 0) (hs : Sz 8990 n) : divOk x (-(gc a b n : Nat)) = true := by
  have p := gc_pos (a := a) (b := b) h
  exact div_ok (by omega) (by rw [Int.natAbs_neg, Int.natAbs_natCast]; exact gc_log h hs)
theorem shaped_T3 {p : Int × Int × Int} : SeqAt.shaped (T3 p) = true := rfl
theorem eqv_T3 {p q : Int × Int × Int} : PyData.eqv (T3 p) (T3 q) = decide (p = q) := by
  obtain ⟨a, b, c⟩ := p
  obtain ⟨a', b', c'⟩ := q
  show ((a == a') && ((b == b') && ((c == c') && true))) = _
  by_cases h1 : a = a' <;> by_cases h2 : b = b' <;> by_cases h3 : c = c' <;> simp [h1, h2, h3]
theorem o_eq3 {p q : Int × Int × Int} {Q : R → Sto → Prop} {E : EK} : W (cmpR .Eq (.v (T3 p)) (.v (T3 q)) S) Q E = Q (B (decide (p = q))) S := by
  rw [cmp_eq rfl rfl shaped_T3 shaped_T3, eqv_T3]
theorem rfl0 {α β : Type} {l : List (α × β)} : l = l := rfl
theorem rng_len {n : Nat} {lo : Int} : (rngD lo n).length = n := by simp [rngD]
theorem kdx {f : Int} (h : Kind f) {a b c : D} {Q : R → Sto → Prop} {E : EK} : W (dixR [.inl 2, .inl 3, .inl 5] [a, b, c] (I f) S) Q E = Q (.v (if f = 2 then a else if f = 3 then b else c)) S := by
  rcases h with rfl | rfl | rfl <;> rfl
theorem abs_if {x : Int} : (if x < 0 then -x else x) = (x.natAbs : Int) := by
  split <;> omega
theorem at_mem {l : List D} {t : Int} (h0 : 0 ≤ t) (h1 : t < l.length) : ∃ d, atI l t = some d ∧ d ∈ l := by
  have hl : t.toNat < l.length := by omega
  refine ⟨l[t.toNat], ?_, List.getElem_mem hl⟩
  unfold atI L2.ixN
  rw [if_pos h0, if_pos h1, Option.bind_some, List.getElem?_eq_getElem hl]
theorem x_lm {l : List D} {t : Int} {Q : R → Sto → Prop} {E : EK} (h0 : 0 ≤ t) (h1 : t < l.length) (hQ : ∀ d ∈ l, Q (.v d) S) : W (ixR (.v (.list l)) (.v (.int t)) S) Q E := by
  obtain ⟨d, e, m⟩ := at_mem h0 h1
  rw [x_l e]
  exact hQ d m
theorem szb {a : Int} {n : Nat} {b : Int} (h : -b ≤ a ∧ a ≤ b) (hb : b.natAbs < 2 ^ n) : Sz n a := by
  unfold Sz
  omega
theorem lk_KINDS : G.glob.lookup ("KINDS" : Str) = some (PyData.tuple [.int 2, .int 3, .int 5]) := by kernel_rfl
theorem in_kinds {f : Int} (h : Kind f) {Q : R → Sto → Prop} {E : EK} : W (cmpR .NotIn (I f) (.v (.tuple [.int 2, .int 3, .int 5])) S) Q E = Q (B false) S := by
  rcases h with rfl | rfl | rfl <;> rfl
theorem tk {S' : Sto} {j : Nat} (h : Same S S' j) : S'.take S.length = S' := List.take_of_length_le (by rw [h.len]; exact Nat.le_refl _)
/-! ### fresh.py -/
theorem e_is_integer {i : Int} : callN G wl (k + 1) "is_integer" [I i] S = .ok (B true) S := by
  apply W_eq
  rw [w_fun lk_is_integer rfl]
  simp only [d_is_integer, EV.w_loc, EV.w_at0, EV.w_atS, EV.w_lit, EV.w_op, EV.w_neg, EV.w_negR, EV.w_not, EV.w_cmp, EV.w_ite, EV.w_evT, EV.w_tup, EV.w_lst, EV.w_ix, EV.w_bi, EV.w_isi, EV.w_rev, EV.w_bop, EV.w_b1, EV.w_b2, EV.w_fld, EV.w_fldR, EV.w_call, EV.w_mth, EV.w_enil, EV.w_econs, EV.w_ono, EV.w_oso, EV.w_intO, EV.w_slc, EV.w_cno, EV.w_cso, EV.w_dix, EV.o_add, EV.o_sub, EV.o_mul, EV.o_div, EV.o_mod, EV.o_lt, EV.o_le, EV.o_gt, EV.o_ge, EV.o_eq, EV.o_ne, EV.o_tb, EV.o_ti, W_ok, W_ex, WS_ok, WS_ex, EV.s_nil, EV.s_cons, EV.s_asgN, EV.s_asgT, EV.s_par2, EV.s_par3, EV.s_set, EV.s_ex, EV.s_iff, EV.s_for, EV.s_wh, EV.s_ret, EV.s_retN, EV.s_rai, EV.rai_v, EV.s_try, EV.s_hnil, EV.s_pas, EV.s_brk, EV.s_cnt, NX_nx, NX_rt, NX_bk, NX_ct, JN_nx, JN_rt, JN_bk, JN_ct, TN_nx, TN_rt, TN_bk, TN_ct, RQ_nx, RQ_rt, EV.gc_v, EV.b_gcd, EV.b_abs, EV.b_max, EV.b_min, EV.b_int, EV.b_intb, EV.b_lens, EV.b_lent, EV.b_lenl, EV.b_isqrt, EV.b_listt, EV.b_listl, EV.t_1, EV.t_2, EV.t_3, EV.t_4, EV.ds_1, EV.ds_2, EV.ds_3, EV.ds_4, EV.l_0, EV.l_1, EV.l_2, EV.l_3, EV.l_4, EV.l_5, EV.l_6, EV.lm_2, EV.i_seq, EV.i_tup, EV.i_lst, EV.i_scr, EV.i_rng, EV.i_rngR, EV.i_rng2, List.set_cons_zero, List.set_cons_succ, List.map_cons, List.map_nil, List.cons_append, List.nil_append, List.replicate, List.length_cons, List.length_nil, List.take_length, decide_eq_true_eq, decide_eq_false_iff_not, okv, okr, oks, Bool.not_true, Bool.not_false, EV.x_t0, EV.x_t1, EV.x_t2, EV.x_l0, EV.x_l1, EV.x_l2, EV.c_20, EV.c_32, EV.isi_int_0, EV.isi_int_1, EV.isi_int_2, EV.isi_int_3, EV.isi_int_4, EV.isi_int_5, EV.isi_int_6, EV.isi_int_7, EV.isi_int_8, EV.isi_bool_0, EV.isi_bool_1, EV.isi_bool_2, EV.isi_bool_3, EV.isi_bool_4, EV.isi_bool_5, EV.isi_bool_6, EV.isi_bool_7, EV.isi_bool_8, EV.isi_str_0, EV.isi_str_1, EV.isi_str_2, EV.isi_str_3, EV.isi_str_4, EV.isi_str_5, EV.isi_str_6, EV.isi_str_7, EV.isi_str_8, EV.isi_none_0, EV.isi_none_1, EV.isi_none_2, EV.isi_none_3, EV.isi_none_4, EV.isi_none_5, EV.isi_none_6, EV.isi_none_7, EV.isi_none_8, EV.isi_tuple_0, EV.isi_tuple_1, EV.isi_tuple_2, EV.isi_tuple_3, EV.isi_tuple_4, EV.isi_tuple_5, EV.isi_tuple_6, EV.isi_tuple_7, EV.isi_tuple_8, EV.isi_list_0, EV.isi_list_1, EV.isi_list_2, EV.isi_list_3, EV.isi_list_4, EV.isi_list_5, EV.isi_list_6, EV.isi_list_7, EV.isi_list_8, EV.f_nm, EV.f_nil, EV.o_eqb, EV.o_neb, EV.o_isn, EV.o_isnn, EV.o_leq0, EV.o_lne0, EV.in_none, EV.in_int, EV.in_bool, EV.in_str, EV.in_tup, EV.in_lst, EV.td_v, SE_nx, SE_rtv, EV.sc_nil, EV.sc_none, EV.sc_v, EV.sc_r, EV.sc_s, EV.sc_x, Bool.not_eq_true', Bool.not_eq_false', EV.goB_a, EV.goB_o, EV.bo_t, EV.bo_l, EV.bo_nil, EV.bo_nm, EV.bo_tt, EV.bo_tl, EV.wipe_nil, EV.wipe_cons, Nat.reduceAdd, Nat.zero_add, Int.cast_ofNat_Int, Int.reduceEq, forall_const, not_true_eq_false, not_false_eq_true, false_implies, implies_true, and_true, true_and, decide_true, decide_false, Bool.false_eq_true, Bool.true_eq_false, eq_self, reduceCtorEq]
theorem e_lowest {a b n : Int} (hn : n ≠ 0) (hs : Sz 8990 n) : callN G wl (k + 1) "lowest" [I a, I b, I n] S = .ok (.v (T3 (low a b n))) S := by
  apply W_eq
  rw [w_fun lk_lowest rfl]
  have g : Nat.gcd (Nat.gcd a.natAbs b.natAbs) n.natAbs = gc a b n := rfl
  simp only [d_lowest, EV.w_loc, EV.w_at0, EV.w_atS, EV.w_lit, EV.w_op, EV.w_neg, EV.w_negR, EV.w_not, EV.w_cmp, EV.w_ite, EV.w_evT, EV.w_tup, EV.w_lst, EV.w_ix, EV.w_bi, EV.w_isi, EV.w_rev, EV.w_bop, EV.w_b1, EV.w_b2, EV.w_fld, EV.w_fldR, EV.w_call, EV.w_mth, EV.w_enil, EV.w_econs, EV.w_ono, EV.w_oso, EV.w_intO, EV.w_slc, EV.w_cno, EV.w_cso, EV.w_dix, EV.o_add, EV.o_sub, EV.o_mul, EV.o_div, EV.o_mod, EV.o_lt, EV.o_le, EV.o_gt, EV.o_ge, EV.o_eq, EV.o_ne, EV.o_tb, EV.o_ti, W_ok, W_ex, WS_ok, WS_ex, EV.s_nil, EV.s_cons, EV.s_asgN, EV.s_asgT, EV.s_par2, EV.s_par3, EV.s_set, EV.s_ex, EV.s_iff, EV.s_for, EV.s_wh, EV.s_ret, EV.s_retN, EV.s_rai, EV.rai_v, EV.s_try, EV.s_hnil, EV.s_pas, EV.s_brk, EV.s_cnt, NX_nx, NX_rt, NX_bk, NX_ct, JN_nx, JN_rt, JN_bk, JN_ct, TN_nx, TN_rt, TN_bk, TN_ct, RQ_nx, RQ_rt, EV.gc_v, EV.b_gcd, EV.b_abs, EV.b_max, EV.b_min, EV.b_int, EV.b_intb, EV.b_lens, EV.b_lent, EV.b_lenl, EV.b_isqrt, EV.b_listt, EV.b_listl, EV.t_1, EV.t_2, EV.t_3, EV.t_4, EV.ds_1, EV.ds_2, EV.ds_3, EV.ds_4, EV.l_0, EV.l_1, EV.l_2, EV.l_3, EV.l_4, EV.l_5, EV.l_6, EV.lm_2, EV.i_seq, EV.i_tup, EV.i_lst, EV.i_scr, EV.i_rng, EV.i_rngR, EV.i_rng2, List.set_cons_zero, List.set_cons_succ, List.map_cons, List.map_nil, List.cons_append, List.nil_append, List.replicate, List.length_cons, List.length_nil, List.take_length, decide_eq_true_eq, decide_eq_false_iff_not, okv, okr, oks, Bool.not_true, Bool.not_false, EV.x_t0, EV.x_t1, EV.x_t2, EV.x_l0, EV.x_l1, EV.x_l2, EV.c_20, EV.c_32, EV.isi_int_0, EV.isi_int_1, EV.isi_int_2, EV.isi_int_3, EV.isi_int_4, EV.isi_int_5, EV.isi_int_6, EV.isi_int_7, EV.isi_int_8, EV.isi_bool_0, EV.isi_bool_1, EV.isi_bool_2, EV.isi_bool_3, EV.isi_bool_4, EV.isi_bool_5, EV.isi_bool_6, EV.isi_bool_7, EV.isi_bool_8, EV.isi_str_0, EV.isi_str_1, EV.isi_str_2, EV.isi_str_3, EV.isi_str_4, EV.isi_str_5, EV.isi_str_6, EV.isi_str_7, EV.isi_str_8, EV.isi_none_0, EV.isi_none_1, EV.isi_none_2, EV.isi_none_3, EV.isi_none_4, EV.isi_none_5, EV.isi_none_6, EV.isi_none_7, EV.isi_none_8, EV.isi_tuple_0, EV.isi_tuple_1, EV.isi_tuple_2, EV.isi_tuple_3, EV.isi_tuple_4, EV.isi_tuple_5, EV.isi_tuple_6, EV.isi_tuple_7, EV.isi_tuple_8, EV.isi_list_0, EV.isi_list_1, EV.isi_list_2, EV.isi_list_3, EV.isi_list_4, EV.isi_list_5, EV.isi_list_6, EV.isi_list_7, EV.isi_list_8, EV.f_nm, EV.f_nil, EV.o_eqb, EV.o_neb, EV.o_isn, EV.o_isnn, EV.o_leq0, EV.o_lne0, EV.in_none, EV.in_int, EV.in_bool, EV.in_str, EV.in_tup, EV.in_lst, EV.td_v, SE_nx, SE_rtv, EV.sc_nil, EV.sc_none, EV.sc_v, EV.sc_r, EV.sc_s, EV.sc_x, Bool.not_eq_true', Bool.not_eq_false', EV.goB_a, EV.goB_o, EV.bo_t, EV.bo_l, EV.bo_nil, EV.bo_nm, EV.bo_tt, EV.bo_tl, EV.wipe_nil, EV.wipe_cons, Nat.reduceAdd, Nat.zero_add, Int.cast_ofNat_Int, Int.reduceEq, forall_const, not_true_eq_false, not_false_eq_true, false_implies, implies_true, and_true, true_and, decide_true, decide_false, Bool.false_eq_true, Bool.true_eq_false, eq_self, reduceCtorEq, Int.natAbs_natCast, g, dv1 hn hs, dv2 hn hs]
  constructor
  · intro h
    have e : sg a b n = -(gc a b n : Int) := if_pos h
    simp only [low, e]
  · intro h
    have e : sg a b n = (gc a b n : Int) := if_neg h
    simp only [low, e]
theorem e_opposite {p : Int × Int × Int} : callN G wl (k + 1) "opposite" [.v (T3 p)] S = .ok (.v (T3 (opp p))) S := by
  apply W_eq
  rw [w_fun lk_opposite rfl]
  simp only [d_opposite, EV.w_loc, EV.w_at0, EV.w_atS, EV.w_lit, EV.w_op, EV.w_neg, EV.w_negR, EV.w_not, EV.w_cmp, EV.w_ite, EV.w_evT, EV.w_tup, EV.w_lst, EV.w_ix, EV.w_bi, EV.w_isi, EV.w_rev, EV.w_bop, EV.w_b1, EV.w_b2, EV.w_fld, EV.w_fldR, EV.w_call, EV.w_mth, EV.w_enil, EV.w_econs, EV.w_ono, EV.w_oso, EV.w_intO, EV.w_slc, EV.w_cno, EV.w_cso, EV.w_dix, EV.o_add, EV.o_sub, EV.o_mul, EV.o_div, EV.o_mod, EV.o_lt, EV.o_le, EV.o_gt, EV.o_ge, EV.o_eq, EV.o_ne, EV.o_tb, EV.o_ti, W_ok, W_ex, WS_ok, WS_ex, EV.s_nil, EV.s_cons, EV.s_asgN, EV.s_asgT, EV.s_par2, EV.s_par3, EV.s_set, EV.s_ex, EV.s_iff, EV.s_for, EV.s_wh, EV.s_ret, EV.s_retN, EV.s_rai, EV.rai_v, EV.s_try, EV.s_hnil, EV.s_pas, EV.s_brk, EV.s_cnt, NX_nx, NX_rt, NX_bk, NX_ct, JN_nx, JN_rt, JN_bk, JN_ct, TN_nx, TN_rt, TN_bk, TN_ct, RQ_nx, RQ_rt, EV.gc_v, EV.b_gcd, EV.b_abs, EV.b_max, EV.b_min, EV.b_int, EV.b_intb, EV.b_lens, EV.b_lent, EV.b_lenl, EV.b_isqrt, EV.b_listt, EV.b_listl, EV.t_1, EV.t_2, EV.t_3, EV.t_4, EV.ds_1, EV.ds_2, EV.ds_3, EV.ds_4, EV.l_0, EV.l_1, EV.l_2, EV.l_3, EV.l_4, EV.l_5, EV.l_6, EV.lm_2, EV.i_seq, EV.i_tup, EV.i_lst, EV.i_scr, EV.i_rng, EV.i_rngR, EV.i_rng2, List.set_cons_zero, List.set_cons_succ, List.map_cons, List.map_nil, List.cons_append, List.nil_append, List.replicate, List.length_cons, List.length_nil, List.take_length, decide_eq_true_eq, decide_eq_false_iff_not, okv, okr, oks, Bool.not_true, Bool.not_false, EV.x_t0, EV.x_t1, EV.x_t2, EV.x_l0, EV.x_l1, EV.x_l2, EV.c_20, EV.c_32, EV.isi_int_0, EV.isi_int_1, EV.isi_int_2, EV.isi_int_3, EV.isi_int_4, EV.isi_int_5, EV.isi_int_6, EV.isi_int_7, EV.isi_int_8, EV.isi_bool_0, EV.isi_bool_1, EV.isi_bool_2, EV.isi_bool_3, EV.isi_bool_4, EV.isi_bool_5, EV.isi_bool_6, EV.isi_bool_7, EV.isi_bool_8, EV.isi_str_0, EV.isi_str_1, EV.isi_str_2, EV.isi_str_3, EV.isi_str_4, EV.isi_str_5, EV.isi_str_6, EV.isi_str_7, EV.isi_str_8, EV.isi_none_0, EV.isi_none_1, EV.isi_none_2, EV.isi_none_3, EV.isi_none_4, EV.isi_none_5, EV.isi_none_6, EV.isi_none_7, EV.isi_none_8, EV.isi_tuple_0, EV.isi_tuple_1, EV.isi_tuple_2, EV.isi_tuple_3, EV.isi_tuple_4, EV.isi_tuple_5, EV.isi_tuple_6, EV.isi_tuple_7, EV.isi_tuple_8, EV.isi_list_0, EV.isi_list_1, EV.isi_list_2, EV.isi_list_3, EV.isi_list_4, EV.isi_list_5, EV.isi_list_6, EV.isi_list_7, EV.isi_list_8, EV.f_nm, EV.f_nil, EV.o_eqb, EV.o_neb, EV.o_isn, EV.o_isnn, EV.o_leq0, EV.o_lne0, EV.in_none, EV.in_int, EV.in_bool, EV.in_str, EV.in_tup, EV.in_lst, EV.td_v, SE_nx, SE_rtv, EV.sc_nil, EV.sc_none, EV.sc_v, EV.sc_r, EV.sc_s, EV.sc_x, Bool.not_eq_true', Bool.not_eq_false', EV.goB_a, EV.goB_o, EV.bo_t, EV.bo_l, EV.bo_nil, EV.bo_nm, EV.bo_tt, EV.bo_tl, EV.wipe_nil, EV.wipe_cons, Nat.reduceAdd, Nat.zero_add, Int.cast_ofNat_Int, Int.reduceEq, forall_const, not_true_eq_false, not_false_eq_true, false_implies, implies_true, and_true, true_and, decide_true, decide_false, Bool.false_eq_true, Bool.true_eq_false, eq_self, reduceCtorEq, and_true, opp]
theorem e_is_lowest {p : Int × Int × Int} (hs : Sz 8990 p.2.2) : callN G wl (k + 2) "is_lowest" [.v (T3 p)] S = .ok (B (decide (0 < p.2.2 ∧ gc p.1 p.2.1 p.2.2 = 1))) S := by
  apply W_eq
  rw [w_fun lk_is_lowest rfl]
  have hlc : lcLoop (lcBody (evC G (callN G wl (k + 1)) Exo.no) (evE G (callN G wl (k + 1)) (Ex.call "is_integer" (Exs.cons (Ex.loc 1) Exs.nil) [] Exs.nil))) (Pt.nm 1) [some (R.v (T3 p)), none] [PyData.int p.1, PyData.int p.2.1, PyData.int p.2.2] [] S = .ok ([true, true, true].map .bool) S := by
    rw [lc_items (S := S) (fun _ => some (.bool true)) _ _ _ (by show 0 + 3 ≤ sizeLine; decide)]
    · rfl
    · intro d hd
      refine ⟨_, rfl, lcb_ok ?_⟩
      obtain ⟨i, rfl⟩ : ∃ i, d = .int i := by
        simp only [List.mem_cons, List.mem_nil_iff, or_false] at hd
        rcases hd with rfl | rfl | rfl <;> exact ⟨_, rfl⟩
      simp only [EV.w_loc, EV.w_at0, EV.w_atS, EV.w_lit, EV.w_op, EV.w_neg, EV.w_negR, EV.w_not, EV.w_cmp, EV.w_ite, EV.w_evT, EV.w_tup, EV.w_lst, EV.w_ix, EV.w_bi, EV.w_isi, EV.w_rev, EV.w_bop, EV.w_b1, EV.w_b2, EV.w_fld, EV.w_fldR, EV.w_call, EV.w_mth, EV.w_enil, EV.w_econs, EV.w_ono, EV.w_oso, EV.w_intO, EV.w_slc, EV.w_cno, EV.w_cso, EV.w_dix, EV.o_add, EV.o_sub, EV.o_mul, EV.o_div, EV.o_mod, EV.o_lt, EV.o_le, EV.o_gt, EV.o_ge, EV.o_eq, EV.o_ne, EV.o_tb, EV.o_ti, W_ok, W_ex, WS_ok, WS_ex, EV.s_nil, EV.s_cons, EV.s_asgN, EV.s_asgT, EV.s_par2, EV.s_par3, EV.s_set, EV.s_ex, EV.s_iff, EV.s_for, EV.s_wh, EV.s_ret, EV.s_retN, EV.s_rai, EV.rai_v, EV.s_try, EV.s_hnil, EV.s_pas, EV.s_brk, EV.s_cnt, NX_nx, NX_rt, NX_bk, NX_ct, JN_nx, JN_rt, JN_bk, JN_ct, TN_nx, TN_rt, TN_bk, TN_ct, RQ_nx, RQ_rt, EV.gc_v, EV.b_gcd, EV.b_abs, EV.b_max, EV.b_min, EV.b_int, EV.b_intb, EV.b_lens, EV.b_lent, EV.b_lenl, EV.b_isqrt, EV.b_listt, EV.b_listl, EV.t_1, EV.t_2, EV.t_3, EV.t_4, EV.ds_1, EV.ds_2, EV.ds_3, EV.ds_4, EV.l_0, EV.l_1, EV.l_2, EV.l_3, EV.l_4, EV.l_5, EV.l_6, EV.lm_2, EV.i_seq, EV.i_tup, EV.i_lst, EV.i_scr, EV.i_rng, EV.i_rngR, EV.i_rng2, List.set_cons_zero, List.set_cons_succ, List.map_cons, List.map_nil, List.cons_append, List.nil_append, List.replicate, List.length_cons, List.length_nil, List.take_length, decide_eq_true_eq, decide_eq_false_iff_not, okv, okr, oks, Bool.not_true, Bool.not_false, EV.x_t0, EV.x_t1, EV.x_t2, EV.x_l0, EV.x_l1, EV.x_l2, EV.c_20, EV.c_32, EV.isi_int_0, EV.isi_int_1, EV.isi_int_2, EV.isi_int_3, EV.isi_int_4, EV.isi_int_5, EV.isi_int_6, EV.isi_int_7, EV.isi_int_8, EV.isi_bool_0, EV.isi_bool_1, EV.isi_bool_2, EV.isi_bool_3, EV.isi_bool_4, EV.isi_bool_5, EV.isi_bool_6, EV.isi_bool_7, EV.isi_bool_8, EV.isi_str_0, EV.isi_str_1, EV.isi_str_2, EV.isi_str_3, EV.isi_str_4, EV.isi_str_5, EV.isi_str_6, EV.isi_str_7, EV.isi_str_8, EV.isi_none_0, EV.isi_none_1, EV.isi_none_2, EV.isi_none_3, EV.isi_none_4, EV.isi_none_5, EV.isi_none_6, EV.isi_none_7, EV.isi_none_8, EV.isi_tuple_0, EV.isi_tuple_1, EV.isi_tuple_2, EV.isi_tuple_3, EV.isi_tuple_4, EV.isi_tuple_5, EV.isi_tuple_6, EV.isi_tuple_7, EV.isi_tuple_8, EV.isi_list_0, EV.isi_list_1, EV.isi_list_2, EV.isi_list_3, EV.isi_list_4, EV.isi_list_5, EV.isi_list_6, EV.isi_list_7, EV.isi_list_8, EV.f_nm, EV.f_nil, EV.o_eqb, EV.o_neb, EV.o_isn, EV.o_isnn, EV.o_leq0, EV.o_lne0, EV.in_none, EV.in_int, EV.in_bool, EV.in_str, EV.in_tup, EV.in_lst, EV.td_v, SE_nx, SE_rtv, EV.sc_nil, EV.sc_none, EV.sc_v, EV.sc_r, EV.sc_s, EV.sc_x, Bool.not_eq_true', Bool.not_eq_false', EV.goB_a, EV.goB_o, EV.bo_t, EV.bo_l, EV.bo_nil, EV.bo_nm, EV.bo_tt, EV.bo_tl, EV.wipe_nil, EV.wipe_cons, Nat.reduceAdd, Nat.zero_add, Int.cast_ofNat_Int, Int.reduceEq, forall_const, not_true_eq_false, not_false_eq_true, false_implies, implies_true, and_true, true_and, decide_true, decide_false, Bool.false_eq_true, Bool.true_eq_false, eq_self, reduceCtorEq, c_is_integer_0, c_lowest_0, c_is_lowest_0, c_sum_of_two_0, c_opposite_0, c_difference_0, c_times_integer_0, c_rooted_0, c_sign_of_0, c_order_0, c_floor_of_number_0, c_check_kind_0, c_check_number_0, c_check_count_0, c_is_number_0, c_sign_0, c_sign_1, c_compared_0, c_compared_1, c_floor_of_0, c_floor_of_1, c_about_0, c_about_1, c_unit_0, c_unit_1, c_stretch_unit_0, c_stretch_unit_1, c__law_deck_0, c__law_take_0, c__law_gcd_0, c__law_num_0, c__law_plus_0, c__law_minus_0, c__law_times_0, c__law_sign_0, c__law_same_0, c__law_number_0, c__law_near_0, c__law_drawn_0, c__law_is_floor_0, c__law_right_0, c__law_units_0, e_is_integer]
      exact ⟨_, rfl, rfl⟩
  simp only [d_is_lowest, EV.w_loc, EV.w_at0, EV.w_atS, EV.w_lit, EV.w_op, EV.w_neg, EV.w_negR, EV.w_not, EV.w_cmp, EV.w_ite, EV.w_evT, EV.w_tup, EV.w_lst, EV.w_ix, EV.w_bi, EV.w_isi, EV.w_rev, EV.w_bop, EV.w_b1, EV.w_b2, EV.w_fld, EV.w_fldR, EV.w_call, EV.w_mth, EV.w_enil, EV.w_econs, EV.w_ono, EV.w_oso, EV.w_intO, EV.w_slc, EV.w_cno, EV.w_cso, EV.w_dix, EV.o_add, EV.o_sub, EV.o_mul, EV.o_div, EV.o_mod, EV.o_lt, EV.o_le, EV.o_gt, EV.o_ge, EV.o_eq, EV.o_ne, EV.o_tb, EV.o_ti, W_ok, W_ex, WS_ok, WS_ex, EV.s_nil, EV.s_cons, EV.s_asgN, EV.s_asgT, EV.s_par2, EV.s_par3, EV.s_set, EV.s_ex, EV.s_iff, EV.s_for, EV.s_wh, EV.s_ret, EV.s_retN, EV.s_rai, EV.rai_v, EV.s_try, EV.s_hnil, EV.s_pas, EV.s_brk, EV.s_cnt, NX_nx, NX_rt, NX_bk, NX_ct, JN_nx, JN_rt, JN_bk, JN_ct, TN_nx, TN_rt, TN_bk, TN_ct, RQ_nx, RQ_rt, EV.gc_v, EV.b_gcd, EV.b_abs, EV.b_max, EV.b_min, EV.b_int, EV.b_intb, EV.b_lens, EV.b_lent, EV.b_lenl, EV.b_isqrt, EV.b_listt, EV.b_listl, EV.t_1, EV.t_2, EV.t_3, EV.t_4, EV.ds_1, EV.ds_2, EV.ds_3, EV.ds_4, EV.l_0, EV.l_1, EV.l_2, EV.l_3, EV.l_4, EV.l_5, EV.l_6, EV.lm_2, EV.i_seq, EV.i_tup, EV.i_lst, EV.i_scr, EV.i_rng, EV.i_rngR, EV.i_rng2, List.set_cons_zero, List.set_cons_succ, List.map_cons, List.map_nil, List.cons_append, List.nil_append, List.replicate, List.length_cons, List.length_nil, List.take_length, decide_eq_true_eq, decide_eq_false_iff_not, okv, okr, oks, Bool.not_true, Bool.not_false, EV.x_t0, EV.x_t1, EV.x_t2, EV.x_l0, EV.x_l1, EV.x_l2, EV.c_20, EV.c_32, EV.isi_int_0, EV.isi_int_1, EV.isi_int_2, EV.isi_int_3, EV.isi_int_4, EV.isi_int_5, EV.isi_int_6, EV.isi_int_7, EV.isi_int_8, EV.isi_bool_0, EV.isi_bool_1, EV.isi_bool_2, EV.isi_bool_3, EV.isi_bool_4, EV.isi_bool_5, EV.isi_bool_6, EV.isi_bool_7, EV.isi_bool_8, EV.isi_str_0, EV.isi_str_1, EV.isi_str_2, EV.isi_str_3, EV.isi_str_4, EV.isi_str_5, EV.isi_str_6, EV.isi_str_7, EV.isi_str_8, EV.isi_none_0, EV.isi_none_1, EV.isi_none_2, EV.isi_none_3, EV.isi_none_4, EV.isi_none_5, EV.isi_none_6, EV.isi_none_7, EV.isi_none_8, EV.isi_tuple_0, EV.isi_tuple_1, EV.isi_tuple_2, EV.isi_tuple_3, EV.isi_tuple_4, EV.isi_tuple_5, EV.isi_tuple_6, EV.isi_tuple_7, EV.isi_tuple_8, EV.isi_list_0, EV.isi_list_1, EV.isi_list_2, EV.isi_list_3, EV.isi_list_4, EV.isi_list_5, EV.isi_list_6, EV.isi_list_7, EV.isi_list_8, EV.f_nm, EV.f_nil, EV.o_eqb, EV.o_neb, EV.o_isn, EV.o_isnn, EV.o_leq0, EV.o_lne0, EV.in_none, EV.in_int, EV.in_bool, EV.in_str, EV.in_tup, EV.in_lst, EV.td_v, SE_nx, SE_rtv, EV.sc_nil, EV.sc_none, EV.sc_v, EV.sc_r, EV.sc_s, EV.sc_x, Bool.not_eq_true', Bool.not_eq_false', EV.goB_a, EV.goB_o, EV.bo_t, EV.bo_l, EV.bo_nil, EV.bo_nm, EV.bo_tt, EV.bo_tl, EV.wipe_nil, EV.wipe_cons, Nat.reduceAdd, Nat.zero_add, Int.cast_ofNat_Int, Int.reduceEq, forall_const, not_true_eq_false, not_false_eq_true, false_implies, implies_true, and_true, true_and, decide_true, decide_false, Bool.false_eq_true, Bool.true_eq_false, eq_self, reduceCtorEq, w_lc, hlc, c_is_integer_0, c_lowest_0, c_is_lowest_0, c_sum_of_two_0, c_opposite_0, c_difference_0, c_times_integer_0, c_rooted_0, c_sign_of_0, c_order_0, c_floor_of_number_0, c_check_kind_0, c_check_number_0, c_check_count_0, c_is_number_0, c_sign_0, c_sign_1, c_compared_0, c_compared_1, c_floor_of_0, c_floor_of_1, c_about_0, c_about_1, c_unit_0, c_unit_1, c_stretch_unit_0, c_stretch_unit_1, c__law_deck_0, c__law_take_0, c__law_gcd_0, c__law_num_0, c__law_plus_0, c__law_minus_0, c__law_times_0, c__law_sign_0, c__law_same_0, c__law_number_0, c__law_near_0, c__law_drawn_0, c__law_is_floor_0, c__law_right_0, c__law_units_0]
  rw [l_new (by decide)]
  rw [show [PyData.bool true, PyData.bool true, PyData.bool true] = [true, true, true].map .bool from rfl, b_all]
  simp only [EV.w_loc, EV.w_at0, EV.w_atS, EV.w_lit, EV.w_op, EV.w_neg, EV.w_negR, EV.w_not, EV.w_cmp, EV.w_ite, EV.w_evT, EV.w_tup, EV.w_lst, EV.w_ix, EV.w_bi, EV.w_isi, EV.w_rev, EV.w_bop, EV.w_b1, EV.w_b2, EV.w_fld, EV.w_fldR, EV.w_call, EV.w_mth, EV.w_enil, EV.w_econs, EV.w_ono, EV.w_oso, EV.w_intO, EV.w_slc, EV.w_cno, EV.w_cso, EV.w_dix, EV.o_add, EV.o_sub, EV.o_mul, EV.o_div, EV.o_mod, EV.o_lt, EV.o_le, EV.o_gt, EV.o_ge, EV.o_eq, EV.o_ne, EV.o_tb, EV.o_ti, W_ok, W_ex, WS_ok, WS_ex, EV.s_nil, EV.s_cons, EV.s_asgN, EV.s_asgT, EV.s_par2, EV.s_par3, EV.s_set, EV.s_ex, EV.s_iff, EV.s_for, EV.s_wh, EV.s_ret, EV.s_retN, EV.s_rai, EV.rai_v, EV.s_try, EV.s_hnil, EV.s_pas, EV.s_brk, EV.s_cnt, NX_nx, NX_rt, NX_bk, NX_ct, JN_nx, JN_rt, JN_bk, JN_ct, TN_nx, TN_rt, TN_bk, TN_ct, RQ_nx, RQ_rt, EV.gc_v, EV.b_gcd, EV.b_abs, EV.b_max, EV.b_min, EV.b_int, EV.b_intb, EV.b_lens, EV.b_lent, EV.b_lenl, EV.b_isqrt, EV.b_listt, EV.b_listl, EV.t_1, EV.t_2, EV.t_3, EV.t_4, EV.ds_1, EV.ds_2, EV.ds_3, EV.ds_4, EV.l_0, EV.l_1, EV.l_2, EV.l_3, EV.l_4, EV.l_5, EV.l_6, EV.lm_2, EV.i_seq, EV.i_tup, EV.i_lst, EV.i_scr, EV.i_rng, EV.i_rngR, EV.i_rng2, List.set_cons_zero, List.set_cons_succ, List.map_cons, List.map_nil, List.cons_append, List.nil_append, List.replicate, List.length_cons, List.length_nil, List.take_length, decide_eq_true_eq, decide_eq_false_iff_not, okv, okr, oks, Bool.not_true, Bool.not_false, EV.x_t0, EV.x_t1, EV.x_t2, EV.x_l0, EV.x_l1, EV.x_l2, EV.c_20, EV.c_32, EV.isi_int_0, EV.isi_int_1, EV.isi_int_2, EV.isi_int_3, EV.isi_int_4, EV.isi_int_5, EV.isi_int_6, EV.isi_int_7, EV.isi_int_8, EV.isi_bool_0, EV.isi_bool_1, EV.isi_bool_2, EV.isi_bool_3, EV.isi_bool_4, EV.isi_bool_5, EV.isi_bool_6, EV.isi_bool_7, EV.isi_bool_8, EV.isi_str_0, EV.isi_str_1, EV.isi_str_2, EV.isi_str_3, EV.isi_str_4, EV.isi_str_5, EV.isi_str_6, EV.isi_str_7, EV.isi_str_8, EV.isi_none_0, EV.isi_none_1, EV.isi_none_2, EV.isi_none_3, EV.isi_none_4, EV.isi_none_5, EV.isi_none_6, EV.isi_none_7, EV.isi_none_8, EV.isi_tuple_0, EV.isi_tuple_1, EV.isi_tuple_2, EV.isi_tuple_3, EV.isi_tuple_4, EV.isi_tuple_5, EV.isi_tuple_6, EV.isi_tuple_7, EV.isi_tuple_8, EV.isi_list_0, EV.isi_list_1, EV.isi_list_2, EV.isi_list_3, EV.isi_list_4, EV.isi_list_5, EV.isi_list_6, EV.isi_list_7, EV.isi_list_8, EV.f_nm, EV.f_nil, EV.o_eqb, EV.o_neb, EV.o_isn, EV.o_isnn, EV.o_leq0, EV.o_lne0, EV.in_none, EV.in_int, EV.in_bool, EV.in_str, EV.in_tup, EV.in_lst, EV.td_v, SE_nx, SE_rtv, EV.sc_nil, EV.sc_none, EV.sc_v, EV.sc_r, EV.sc_s, EV.sc_x, Bool.not_eq_true', Bool.not_eq_false', EV.goB_a, EV.goB_o, EV.bo_t, EV.bo_l, EV.bo_nil, EV.bo_nm, EV.bo_tt, EV.bo_tl, EV.wipe_nil, EV.wipe_cons, Nat.reduceAdd, Nat.zero_add, Int.cast_ofNat_Int, Int.reduceEq, forall_const, not_true_eq_false, not_false_eq_true, false_implies, implies_true, and_true, true_and, decide_true, decide_false, Bool.false_eq_true, Bool.true_eq_false, eq_self, reduceCtorEq, List.all_cons, List.all_nil, Bool.and_true, id]
  constructor
  · intro h
    have hn : p.2.2 ≠ 0 := by omega
    simp only [e_lowest hn hs, EV.w_loc, EV.w_at0, EV.w_atS, EV.w_lit, EV.w_op, EV.w_neg, EV.w_negR, EV.w_not, EV.w_cmp, EV.w_ite, EV.w_evT, EV.w_tup, EV.w_lst, EV.w_ix, EV.w_bi, EV.w_isi, EV.w_rev, EV.w_bop, EV.w_b1, EV.w_b2, EV.w_fld, EV.w_fldR, EV.w_call, EV.w_mth, EV.w_enil, EV.w_econs, EV.w_ono, EV.w_oso, EV.w_intO, EV.w_slc, EV.w_cno, EV.w_cso, EV.w_dix, EV.o_add, EV.o_sub, EV.o_mul, EV.o_div, EV.o_mod, EV.o_lt, EV.o_le, EV.o_gt, EV.o_ge, EV.o_eq, EV.o_ne, EV.o_tb, EV.o_ti, W_ok, W_ex, WS_ok, WS_ex, EV.s_nil, EV.s_cons, EV.s_asgN, EV.s_asgT, EV.s_par2, EV.s_par3, EV.s_set, EV.s_ex, EV.s_iff, EV.s_for, EV.s_wh, EV.s_ret, EV.s_retN, EV.s_rai, EV.rai_v, EV.s_try, EV.s_hnil, EV.s_pas, EV.s_brk, EV.s_cnt, NX_nx, NX_rt, NX_bk, NX_ct, JN_nx, JN_rt, JN_bk, JN_ct, TN_nx, TN_rt, TN_bk, TN_ct, RQ_nx, RQ_rt, EV.gc_v, EV.b_gcd, EV.b_abs, EV.b_max, EV.b_min, EV.b_int, EV.b_intb, EV.b_lens, EV.b_lent, EV.b_lenl, EV.b_isqrt, EV.b_listt, EV.b_listl, EV.t_1, EV.t_2, EV.t_3, EV.t_4, EV.ds_1, EV.ds_2, EV.ds_3, EV.ds_4, EV.l_0, EV.l_1, EV.l_2, EV.l_3, EV.l_4, EV.l_5, EV.l_6, EV.lm_2, EV.i_seq, EV.i_tup, EV.i_lst, EV.i_scr, EV.i_rng, EV.i_rngR, EV.i_rng2, List.set_cons_zero, List.set_cons_succ, List.map_cons, List.map_nil, List.cons_append, List.nil_append, List.replicate, List.length_cons, List.length_nil, List.take_length, decide_eq_true_eq, decide_eq_false_iff_not, okv, okr, oks, Bool.not_true, Bool.not_false, EV.x_t0, EV.x_t1, EV.x_t2, EV.x_l0, EV.x_l1, EV.x_l2, EV.c_20, EV.c_32, EV.isi_int_0, EV.isi_int_1, EV.isi_int_2, EV.isi_int_3, EV.isi_int_4, EV.isi_int_5, EV.isi_int_6, EV.isi_int_7, EV.isi_int_8, EV.isi_bool_0, EV.isi_bool_1, EV.isi_bool_2, EV.isi_bool_3, EV.isi_bool_4, EV.isi_bool_5, EV.isi_bool_6, EV.isi_bool_7, EV.isi_bool_8, EV.isi_str_0, EV.isi_str_1, EV.isi_str_2, EV.isi_str_3, EV.isi_str_4, EV.isi_str_5, EV.isi_str_6, EV.isi_str_7, EV.isi_str_8, EV.isi_none_0, EV.isi_none_1, EV.isi_none_2, EV.isi_none_3, EV.isi_none_4, EV.isi_none_5, EV.isi_none_6, EV.isi_none_7, EV.isi_none_8, EV.isi_tuple_0, EV.isi_tuple_1, EV.isi_tuple_2, EV.isi_tuple_3, EV.isi_tuple_4, EV.isi_tuple_5, EV.isi_tuple_6, EV.isi_tuple_7, EV.isi_tuple_8, EV.isi_list_0, EV.isi_list_1, EV.isi_list_2, EV.isi_list_3, EV.isi_list_4, EV.isi_list_5, EV.isi_list_6, EV.isi_list_7, EV.isi_list_8, EV.f_nm, EV.f_nil, EV.o_eqb, EV.o_neb, EV.o_isn, EV.o_isnn, EV.o_leq0, EV.o_lne0, EV.in_none, EV.in_int, EV.in_bool, EV.in_str, EV.in_tup, EV.in_lst, EV.td_v, SE_nx, SE_rtv, EV.sc_nil, EV.sc_none, EV.sc_v, EV.sc_r, EV.sc_s, EV.sc_x, Bool.not_eq_true', Bool.not_eq_false', EV.goB_a, EV.goB_o, EV.bo_t, EV.bo_l, EV.bo_nil, EV.bo_nm, EV.bo_tt, EV.bo_tl, EV.wipe_nil, EV.wipe_cons, Nat.reduceAdd, Nat.zero_add, Int.cast_ofNat_Int, Int.reduceEq, forall_const, not_true_eq_false, not_false_eq_true, false_implies, implies_true, and_true, true_and, decide_true, decide_false, Bool.false_eq_true, Bool.true_eq_false, eq_self, reduceCtorEq, o_eq3]
    have e := low_iff (a := p.1) (b := p.2.1) h
    by_cases g : gc p.1 p.2.1 p.2.2 = 1
    · rw [decide_eq_true (And.intro h g)]
      exact congrArg (fun b => R.v (PyData.bool b)) (decide_eq_true (e.mpr g))
    · rw [decide_eq_false (fun z : 0 < p.2.2 ∧ gc p.1 p.2.1 p.2.2 = 1 => g z.2)]
      exact congrArg (fun b => R.v (PyData.bool b)) (decide_eq_false (fun z => g (e.mp z)))
  · intro h
    rw [decide_eq_false h, decide_eq_false (fun z => h z.1)]
theorem e_is_lowestT {p : Int × Int × Int} {n m : Nat} (hp : Sn n m p) (hm : m ≤ 8990) (h : IsLow p) : callN G wl (k + 2) "is_lowest" [.v (T3 p)] S = .ok (B true) S := by
  rw [e_is_lowest (hp.c.mono hm), decide_eq_true (show 0 < p.2.2 ∧ gc p.1 p.2.1 p.2.2 = 1 from h)]
theorem e_sum {p q : Int × Int × Int} {n m n' m' : Nat} (hp : Sn n m p) (hq : Sn n' m' q) (h : p.2.2 ≠ 0) (h' : q.2.2 ≠ 0) (hn : n ≤ 1000000) (hn' : n' ≤ 1000000) (hm : m ≤ 4000) (hm' : m' ≤ 4000) : callN G wl (k + 2) "sum_of_two" [.v (T3 p), .v (T3 q)] S = .ok (.v (T3 (sum2 p q))) S := by
  apply W_eq
  rw [w_fun lk_sum_of_two rfl]
  have n0 : p.2.2 * q.2.2 ≠ 0 := Int.mul_ne_zero h h'
  have sz : Sz 8990 (p.2.2 * q.2.2) := (hp.c.mul hq.c).mono (by omega)
  simp only [d_sum_of_two, EV.w_loc, EV.w_at0, EV.w_atS, EV.w_lit, EV.w_op, EV.w_neg, EV.w_negR, EV.w_not, EV.w_cmp, EV.w_ite, EV.w_evT, EV.w_tup, EV.w_lst, EV.w_ix, EV.w_bi, EV.w_isi, EV.w_rev, EV.w_bop, EV.w_b1, EV.w_b2, EV.w_fld, EV.w_fldR, EV.w_call, EV.w_mth, EV.w_enil, EV.w_econs, EV.w_ono, EV.w_oso, EV.w_intO, EV.w_slc, EV.w_cno, EV.w_cso, EV.w_dix, EV.o_add, EV.o_sub, EV.o_mul, EV.o_div, EV.o_mod, EV.o_lt, EV.o_le, EV.o_gt, EV.o_ge, EV.o_eq, EV.o_ne, EV.o_tb, EV.o_ti, W_ok, W_ex, WS_ok, WS_ex, EV.s_nil, EV.s_cons, EV.s_asgN, EV.s_asgT, EV.s_par2, EV.s_par3, EV.s_set, EV.s_ex, EV.s_iff, EV.s_for, EV.s_wh, EV.s_ret, EV.s_retN, EV.s_rai, EV.rai_v, EV.s_try, EV.s_hnil, EV.s_pas, EV.s_brk, EV.s_cnt, NX_nx, NX_rt, NX_bk, NX_ct, JN_nx, JN_rt, JN_bk, JN_ct, TN_nx, TN_rt, TN_bk, TN_ct, RQ_nx, RQ_rt, EV.gc_v, EV.b_gcd, EV.b_abs, EV.b_max, EV.b_min, EV.b_int, EV.b_intb, EV.b_lens, EV.b_lent, EV.b_lenl, EV.b_isqrt, EV.b_listt, EV.b_listl, EV.t_1, EV.t_2, EV.t_3, EV.t_4, EV.ds_1, EV.ds_2, EV.ds_3, EV.ds_4, EV.l_0, EV.l_1, EV.l_2, EV.l_3, EV.l_4, EV.l_5, EV.l_6, EV.lm_2, EV.i_seq, EV.i_tup, EV.i_lst, EV.i_scr, EV.i_rng, EV.i_rngR, EV.i_rng2, List.set_cons_zero, List.set_cons_succ, List.map_cons, List.map_nil, List.cons_append, List.nil_append, List.replicate, List.length_cons, List.length_nil, List.take_length, decide_eq_true_eq, decide_eq_false_iff_not, okv, okr, oks, Bool.not_true, Bool.not_false, EV.x_t0, EV.x_t1, EV.x_t2, EV.x_l0, EV.x_l1, EV.x_l2, EV.c_20, EV.c_32, EV.isi_int_0, EV.isi_int_1, EV.isi_int_2, EV.isi_int_3, EV.isi_int_4, EV.isi_int_5, EV.isi_int_6, EV.isi_int_7, EV.isi_int_8, EV.isi_bool_0, EV.isi_bool_1, EV.isi_bool_2, EV.isi_bool_3, EV.isi_bool_4, EV.isi_bool_5, EV.isi_bool_6, EV.isi_bool_7, EV.isi_bool_8, EV.isi_str_0, EV.isi_str_1, EV.isi_str_2, EV.isi_str_3, EV.isi_str_4, EV.isi_str_5, EV.isi_str_6, EV.isi_str_7, EV.isi_str_8, EV.isi_none_0, EV.isi_none_1, EV.isi_none_2, EV.isi_none_3, EV.isi_none_4, EV.isi_none_5, EV.isi_none_6, EV.isi_none_7, EV.isi_none_8, EV.isi_tuple_0, EV.isi_tuple_1, EV.isi_tuple_2, EV.isi_tuple_3, EV.isi_tuple_4, EV.isi_tuple_5, EV.isi_tuple_6, EV.isi_tuple_7, EV.isi_tuple_8, EV.isi_list_0, EV.isi_list_1, EV.isi_list_2, EV.isi_list_3, EV.isi_list_4, EV.isi_list_5, EV.isi_list_6, EV.isi_list_7, EV.isi_list_8, EV.f_nm, EV.f_nil, EV.o_eqb, EV.o_neb, EV.o_isn, EV.o_isnn, EV.o_leq0, EV.o_lne0, EV.in_none, EV.in_int, EV.in_bool, EV.in_str, EV.in_tup, EV.in_lst, EV.td_v, SE_nx, SE_rtv, EV.sc_nil, EV.sc_none, EV.sc_v, EV.sc_r, EV.sc_s, EV.sc_x, Bool.not_eq_true', Bool.not_eq_false', EV.goB_a, EV.goB_o, EV.bo_t, EV.bo_l, EV.bo_nil, EV.bo_nm, EV.bo_tt, EV.bo_tl, EV.wipe_nil, EV.wipe_cons, Nat.reduceAdd, Nat.zero_add, Int.cast_ofNat_Int, Int.reduceEq, forall_const, not_true_eq_false, not_false_eq_true, false_implies, implies_true, and_true, true_and, decide_true, decide_false, Bool.false_eq_true, Bool.true_eq_false, eq_self, reduceCtorEq, c_is_integer_0, c_lowest_0, c_is_lowest_0, c_sum_of_two_0, c_opposite_0, c_difference_0, c_times_integer_0, c_rooted_0, c_sign_of_0, c_order_0, c_floor_of_number_0, c_check_kind_0, c_check_number_0, c_check_count_0, c_is_number_0, c_sign_0, c_sign_1, c_compared_0, c_compared_1, c_floor_of_0, c_floor_of_1, c_about_0, c_about_1, c_unit_0, c_unit_1, c_stretch_unit_0, c_stretch_unit_1, c__law_deck_0, c__law_take_0, c__law_gcd_0, c__law_num_0, c__law_plus_0, c__law_minus_0, c__law_times_0, c__law_sign_0, c__law_same_0, c__law_number_0, c__law_near_0, c__law_drawn_0, c__law_is_floor_0, c__law_right_0, c__law_units_0, e_lowest n0 sz, mul_ok hp.a hq.c (by omega), mul_ok hq.a hp.c (by omega), mul_ok hp.b hq.c (by omega), mul_ok hq.b hp.c (by omega), mul_ok hp.c hq.c (by omega), sum2]
theorem e_difference {p q : Int × Int × Int} {n m n' m' : Nat} (hp : Sn n m p) (hq : Sn n' m' q) (h : p.2.2 ≠ 0) (h' : q.2.2 ≠ 0) (hn : n ≤ 1000000) (hn' : n' ≤ 1000000) (hm : m ≤ 4000) (hm' : m' ≤ 4000) : callN G wl (k + 3) "difference" [.v (T3 p), .v (T3 q)] S = .ok (.v (T3 (sum2 p (opp q)))) S := by
  apply W_eq
  rw [w_fun lk_difference rfl]
  have e := fun S => e_sum (wl := wl) (k := k) (S := S) (p := p) (q := opp q) hp (opp_sn hq) h h' hn hn' hm hm'
  have o : ∀ S, callN G wl (k + 2) "opposite" [.v (T3 q)] S = .ok (.v (T3 (opp q))) S := fun S => e_opposite
  simp only [d_difference, EV.w_loc, EV.w_at0, EV.w_atS, EV.w_lit, EV.w_op, EV.w_neg, EV.w_negR, EV.w_not, EV.w_cmp, EV.w_ite, EV.w_evT, EV.w_tup, EV.w_lst, EV.w_ix, EV.w_bi, EV.w_isi, EV.w_rev, EV.w_bop, EV.w_b1, EV.w_b2, EV.w_fld, EV.w_fldR, EV.w_call, EV.w_mth, EV.w_enil, EV.w_econs, EV.w_ono, EV.w_oso, EV.w_intO, EV.w_slc, EV.w_cno, EV.w_cso, EV.w_dix, EV.o_add, EV.o_sub, EV.o_mul, EV.o_div, EV.o_mod, EV.o_lt, EV.o_le, EV.o_gt, EV.o_ge, EV.o_eq, EV.o_ne, EV.o_tb, EV.o_ti, W_ok, W_ex, WS_ok, WS_ex, EV.s_nil, EV.s_cons, EV.s_asgN, EV.s_asgT, EV.s_par2, EV.s_par3, EV.s_set, EV.s_ex, EV.s_iff, EV.s_for, EV.s_wh, EV.s_ret, EV.s_retN, EV.s_rai, EV.rai_v, EV.s_try, EV.s_hnil, EV.s_pas, EV.s_brk, EV.s_cnt, NX_nx, NX_rt, NX_bk, NX_ct, JN_nx, JN_rt, JN_bk, JN_ct, TN_nx, TN_rt, TN_bk, TN_ct, RQ_nx, RQ_rt, EV.gc_v, EV.b_gcd, EV.b_abs, EV.b_max, EV.b_min, EV.b_int, EV.b_intb, EV.b_lens, EV.b_lent, EV.b_lenl, EV.b_isqrt, EV.b_listt, EV.b_listl, EV.t_1, EV.t_2, EV.t_3, EV.t_4, EV.ds_1, EV.ds_2, EV.ds_3, EV.ds_4, EV.l_0, EV.l_1, EV.l_2, EV.l_3, EV.l_4, EV.l_5, EV.l_6, EV.lm_2, EV.i_seq, EV.i_tup, EV.i_lst, EV.i_scr, EV.i_rng, EV.i_rngR, EV.i_rng2, List.set_cons_zero, List.set_cons_succ, List.map_cons, List.map_nil, List.cons_append, List.nil_append, List.replicate, List.length_cons, List.length_nil, List.take_length, decide_eq_true_eq, decide_eq_false_iff_not, okv, okr, oks, Bool.not_true, Bool.not_false, EV.x_t0, EV.x_t1, EV.x_t2, EV.x_l0, EV.x_l1, EV.x_l2, EV.c_20, EV.c_32, EV.isi_int_0, EV.isi_int_1, EV.isi_int_2, EV.isi_int_3, EV.isi_int_4, EV.isi_int_5, EV.isi_int_6, EV.isi_int_7, EV.isi_int_8, EV.isi_bool_0, EV.isi_bool_1, EV.isi_bool_2, EV.isi_bool_3, EV.isi_bool_4, EV.isi_bool_5, EV.isi_bool_6, EV.isi_bool_7, EV.isi_bool_8, EV.isi_str_0, EV.isi_str_1, EV.isi_str_2, EV.isi_str_3, EV.isi_str_4, EV.isi_str_5, EV.isi_str_6, EV.isi_str_7, EV.isi_str_8, EV.isi_none_0, EV.isi_none_1, EV.isi_none_2, EV.isi_none_3, EV.isi_none_4, EV.isi_none_5, EV.isi_none_6, EV.isi_none_7, EV.isi_none_8, EV.isi_tuple_0, EV.isi_tuple_1, EV.isi_tuple_2, EV.isi_tuple_3, EV.isi_tuple_4, EV.isi_tuple_5, EV.isi_tuple_6, EV.isi_tuple_7, EV.isi_tuple_8, EV.isi_list_0, EV.isi_list_1, EV.isi_list_2, EV.isi_list_3, EV.isi_list_4, EV.isi_list_5, EV.isi_list_6, EV.isi_list_7, EV.isi_list_8, EV.f_nm, EV.f_nil, EV.o_eqb, EV.o_neb, EV.o_isn, EV.o_isnn, EV.o_leq0, EV.o_lne0, EV.in_none, EV.in_int, EV.in_bool, EV.in_str, EV.in_tup, EV.in_lst, EV.td_v, SE_nx, SE_rtv, EV.sc_nil, EV.sc_none, EV.sc_v, EV.sc_r, EV.sc_s, EV.sc_x, Bool.not_eq_true', Bool.not_eq_false', EV.goB_a, EV.goB_o, EV.bo_t, EV.bo_l, EV.bo_nil, EV.bo_nm, EV.bo_tt, EV.bo_tl, EV.wipe_nil, EV.wipe_cons, Nat.reduceAdd, Nat.zero_add, Int.cast_ofNat_Int, Int.reduceEq, forall_const, not_true_eq_false, not_false_eq_true, false_implies, implies_true, and_true, true_and, decide_true, decide_false, Bool.false_eq_true, Bool.true_eq_false, eq_self, reduceCtorEq, c_is_integer_0, c_lowest_0, c_is_lowest_0, c_sum_of_two_0, c_opposite_0, c_difference_0, c_times_integer_0, c_rooted_0, c_sign_of_0, c_order_0, c_floor_of_number_0, c_check_kind_0, c_check_number_0, c_check_count_0, c_is_number_0, c_sign_0, c_sign_1, c_compared_0, c_compared_1, c_floor_of_0, c_floor_of_1, c_about_0, c_about_1, c_unit_0, c_unit_1, c_stretch_unit_0, c_stretch_unit_1, c__law_deck_0, c__law_take_0, c__law_gcd_0, c__law_num_0, c__law_plus_0, c__law_minus_0, c__law_times_0, c__law_sign_0, c__law_same_0, c__law_number_0, c__law_near_0, c__law_drawn_0, c__law_is_floor_0, c__law_right_0, c__law_units_0, o, e]
theorem e_times_integer {p : Int × Int × Int} {t : Int} {n m r : Nat} (hp : Sn n m p) (ht : Sz r t) (h : p.2.2 ≠ 0) (hn : n ≤ 1000000) (hm : m ≤ 4000) (hr : r ≤ 1000000) : callN G wl (k + 2) "times_integer" [.v (T3 p), I t] S = .ok (.v (T3 (low (p.1 * t) (p.2.1 * t) p.2.2))) S := by
  apply W_eq
  rw [w_fun lk_times_integer rfl]
  simp only [d_times_integer, EV.w_loc, EV.w_at0, EV.w_atS, EV.w_lit, EV.w_op, EV.w_neg, EV.w_negR, EV.w_not, EV.w_cmp, EV.w_ite, EV.w_evT, EV.w_tup, EV.w_lst, EV.w_ix, EV.w_bi, EV.w_isi, EV.w_rev, EV.w_bop, EV.w_b1, EV.w_b2, EV.w_fld, EV.w_fldR, EV.w_call, EV.w_mth, EV.w_enil, EV.w_econs, EV.w_ono, EV.w_oso, EV.w_intO, EV.w_slc, EV.w_cno, EV.w_cso, EV.w_dix, EV.o_add, EV.o_sub, EV.o_mul, EV.o_div, EV.o_mod, EV.o_lt, EV.o_le, EV.o_gt, EV.o_ge, EV.o_eq, EV.o_ne, EV.o_tb, EV.o_ti, W_ok, W_ex, WS_ok, WS_ex, EV.s_nil, EV.s_cons, EV.s_asgN, EV.s_asgT, EV.s_par2, EV.s_par3, EV.s_set, EV.s_ex, EV.s_iff, EV.s_for, EV.s_wh, EV.s_ret, EV.s_retN, EV.s_rai, EV.rai_v, EV.s_try, EV.s_hnil, EV.s_pas, EV.s_brk, EV.s_cnt, NX_nx, NX_rt, NX_bk, NX_ct, JN_nx, JN_rt, JN_bk, JN_ct, TN_nx, TN_rt, TN_bk, TN_ct, RQ_nx, RQ_rt, EV.gc_v, EV.b_gcd, EV.b_abs, EV.b_max, EV.b_min, EV.b_int, EV.b_intb, EV.b_lens, EV.b_lent, EV.b_lenl, EV.b_isqrt, EV.b_listt, EV.b_listl, EV.t_1, EV.t_2, EV.t_3, EV.t_4, EV.ds_1, EV.ds_2, EV.ds_3, EV.ds_4, EV.l_0, EV.l_1, EV.l_2, EV.l_3, EV.l_4, EV.l_5, EV.l_6, EV.lm_2, EV.i_seq, EV.i_tup, EV.i_lst, EV.i_scr, EV.i_rng, EV.i_rngR, EV.i_rng2, List.set_cons_zero, List.set_cons_succ, List.map_cons, List.map_nil, List.cons_append, List.nil_append, List.replicate, List.length_cons, List.length_nil, List.take_length, decide_eq_true_eq, decide_eq_false_iff_not, okv, okr, oks, Bool.not_true, Bool.not_false, EV.x_t0, EV.x_t1, EV.x_t2, EV.x_l0, EV.x_l1, EV.x_l2, EV.c_20, EV.c_32, EV.isi_int_0, EV.isi_int_1, EV.isi_int_2, EV.isi_int_3, EV.isi_int_4, EV.isi_int_5, EV.isi_int_6, EV.isi_int_7, EV.isi_int_8, EV.isi_bool_0, EV.isi_bool_1, EV.isi_bool_2, EV.isi_bool_3, EV.isi_bool_4, EV.isi_bool_5, EV.isi_bool_6, EV.isi_bool_7, EV.isi_bool_8, EV.isi_str_0, EV.isi_str_1, EV.isi_str_2, EV.isi_str_3, EV.isi_str_4, EV.isi_str_5, EV.isi_str_6, EV.isi_str_7, EV.isi_str_8, EV.isi_none_0, EV.isi_none_1, EV.isi_none_2, EV.isi_none_3, EV.isi_none_4, EV.isi_none_5, EV.isi_none_6, EV.isi_none_7, EV.isi_none_8, EV.isi_tuple_0, EV.isi_tuple_1, EV.isi_tuple_2, EV.isi_tuple_3, EV.isi_tuple_4, EV.isi_tuple_5, EV.isi_tuple_6, EV.isi_tuple_7, EV.isi_tuple_8, EV.isi_list_0, EV.isi_list_1, EV.isi_list_2, EV.isi_list_3, EV.isi_list_4, EV.isi_list_5, EV.isi_list_6, EV.isi_list_7, EV.isi_list_8, EV.f_nm, EV.f_nil, EV.o_eqb, EV.o_neb, EV.o_isn, EV.o_isnn, EV.o_leq0, EV.o_lne0, EV.in_none, EV.in_int, EV.in_bool, EV.in_str, EV.in_tup, EV.in_lst, EV.td_v, SE_nx, SE_rtv, EV.sc_nil, EV.sc_none, EV.sc_v, EV.sc_r, EV.sc_s, EV.sc_x, Bool.not_eq_true', Bool.not_eq_false', EV.goB_a, EV.goB_o, EV.bo_t, EV.bo_l, EV.bo_nil, EV.bo_nm, EV.bo_tt, EV.bo_tl, EV.wipe_nil, EV.wipe_cons, Nat.reduceAdd, Nat.zero_add, Int.cast_ofNat_Int, Int.reduceEq, forall_const, not_true_eq_false, not_false_eq_true, false_implies, implies_true, and_true, true_and, decide_true, decide_false, Bool.false_eq_true, Bool.true_eq_false, eq_self, reduceCtorEq, c_is_integer_0, c_lowest_0, c_is_lowest_0, c_sum_of_two_0, c_opposite_0, c_difference_0, c_times_integer_0, c_rooted_0, c_sign_of_0, c_order_0, c_floor_of_number_0, c_check_kind_0, c_check_number_0, c_check_count_0, c_is_number_0, c_sign_0, c_sign_1, c_compared_0, c_compared_1, c_floor_of_0, c_floor_of_1, c_about_0, c_about_1, c_unit_0, c_unit_1, c_stretch_unit_0, c_stretch_unit_1, c__law_deck_0, c__law_take_0, c__law_gcd_0, c__law_num_0, c__law_plus_0, c__law_minus_0, c__law_times_0, c__law_sign_0, c__law_same_0, c__law_number_0, c__law_near_0, c__law_drawn_0, c__law_is_floor_0, c__law_right_0, c__law_units_0, e_lowest h (hp.c.mono (by omega)), mul_ok hp.a ht (by omega), mul_ok hp.b ht (by omega)]
theorem e_rooted {f : Int} {p : Int × Int × Int} {n m : Nat} (hp : Sn n m p) (hn : n ≤ 1000000) (hm : m ≤ 1000000) : callN G wl (k + 1) "rooted" [I f, .v (T3 p)] S = .ok (.v (T3 (rt f p))) S := by
  apply W_eq
  rw [w_fun lk_rooted rfl]
  have c2 : Sz 2 (2 : Int) := Sz.const (by decide)
  simp only [d_rooted, EV.w_loc, EV.w_at0, EV.w_atS, EV.w_lit, EV.w_op, EV.w_neg, EV.w_negR, EV.w_not, EV.w_cmp, EV.w_ite, EV.w_evT, EV.w_tup, EV.w_lst, EV.w_ix, EV.w_bi, EV.w_isi, EV.w_rev, EV.w_bop, EV.w_b1, EV.w_b2, EV.w_fld, EV.w_fldR, EV.w_call, EV.w_mth, EV.w_enil, EV.w_econs, EV.w_ono, EV.w_oso, EV.w_intO, EV.w_slc, EV.w_cno, EV.w_cso, EV.w_dix, EV.o_add, EV.o_sub, EV.o_mul, EV.o_div, EV.o_mod, EV.o_lt, EV.o_le, EV.o_gt, EV.o_ge, EV.o_eq, EV.o_ne, EV.o_tb, EV.o_ti, W_ok, W_ex, WS_ok, WS_ex, EV.s_nil, EV.s_cons, EV.s_asgN, EV.s_asgT, EV.s_par2, EV.s_par3, EV.s_set, EV.s_ex, EV.s_iff, EV.s_for, EV.s_wh, EV.s_ret, EV.s_retN, EV.s_rai, EV.rai_v, EV.s_try, EV.s_hnil, EV.s_pas, EV.s_brk, EV.s_cnt, NX_nx, NX_rt, NX_bk, NX_ct, JN_nx, JN_rt, JN_bk, JN_ct, TN_nx, TN_rt, TN_bk, TN_ct, RQ_nx, RQ_rt, EV.gc_v, EV.b_gcd, EV.b_abs, EV.b_max, EV.b_min, EV.b_int, EV.b_intb, EV.b_lens, EV.b_lent, EV.b_lenl, EV.b_isqrt, EV.b_listt, EV.b_listl, EV.t_1, EV.t_2, EV.t_3, EV.t_4, EV.ds_1, EV.ds_2, EV.ds_3, EV.ds_4, EV.l_0, EV.l_1, EV.l_2, EV.l_3, EV.l_4, EV.l_5, EV.l_6, EV.lm_2, EV.i_seq, EV.i_tup, EV.i_lst, EV.i_scr, EV.i_rng, EV.i_rngR, EV.i_rng2, List.set_cons_zero, List.set_cons_succ, List.map_cons, List.map_nil, List.cons_append, List.nil_append, List.replicate, List.length_cons, List.length_nil, List.take_length, decide_eq_true_eq, decide_eq_false_iff_not, okv, okr, oks, Bool.not_true, Bool.not_false, EV.x_t0, EV.x_t1, EV.x_t2, EV.x_l0, EV.x_l1, EV.x_l2, EV.c_20, EV.c_32, EV.isi_int_0, EV.isi_int_1, EV.isi_int_2, EV.isi_int_3, EV.isi_int_4, EV.isi_int_5, EV.isi_int_6, EV.isi_int_7, EV.isi_int_8, EV.isi_bool_0, EV.isi_bool_1, EV.isi_bool_2, EV.isi_bool_3, EV.isi_bool_4, EV.isi_bool_5, EV.isi_bool_6, EV.isi_bool_7, EV.isi_bool_8, EV.isi_str_0, EV.isi_str_1, EV.isi_str_2, EV.isi_str_3, EV.isi_str_4, EV.isi_str_5, EV.isi_str_6, EV.isi_str_7, EV.isi_str_8, EV.isi_none_0, EV.isi_none_1, EV.isi_none_2, EV.isi_none_3, EV.isi_none_4, EV.isi_none_5, EV.isi_none_6, EV.isi_none_7, EV.isi_none_8, EV.isi_tuple_0, EV.isi_tuple_1, EV.isi_tuple_2, EV.isi_tuple_3, EV.isi_tuple_4, EV.isi_tuple_5, EV.isi_tuple_6, EV.isi_tuple_7, EV.isi_tuple_8, EV.isi_list_0, EV.isi_list_1, EV.isi_list_2, EV.isi_list_3, EV.isi_list_4, EV.isi_list_5, EV.isi_list_6, EV.isi_list_7, EV.isi_list_8, EV.f_nm, EV.f_nil, EV.o_eqb, EV.o_neb, EV.o_isn, EV.o_isnn, EV.o_leq0, EV.o_lne0, EV.in_none, EV.in_int, EV.in_bool, EV.in_str, EV.in_tup, EV.in_lst, EV.td_v, SE_nx, SE_rtv, EV.sc_nil, EV.sc_none, EV.sc_v, EV.sc_r, EV.sc_s, EV.sc_x, Bool.not_eq_true', Bool.not_eq_false', EV.goB_a, EV.goB_o, EV.bo_t, EV.bo_l, EV.bo_nil, EV.bo_nm, EV.bo_tt, EV.bo_tl, EV.wipe_nil, EV.wipe_cons, Nat.reduceAdd, Nat.zero_add, Int.cast_ofNat_Int, Int.reduceEq, forall_const, not_true_eq_false, not_false_eq_true, false_implies, implies_true, and_true, true_and, decide_true, decide_false, Bool.false_eq_true, Bool.true_eq_false, eq_self, reduceCtorEq, mul_ok c2 hp.a (by omega), mul_ok c2 hp.c (by omega), rt]
  constructor
  · intro h
    simp only [if_pos h]
  · intro h
    simp only [if_neg h]
theorem rt_sn {f : Int} {p : Int × Int × Int} {n m : Nat} (hp : Sn n m p) : Sn (n + 3) (m + 2) (rt f p) := by
  have c2 : Sz 2 (2 : Int) := Sz.const (by decide)
  unfold rt
  split
  · exact ⟨(c2.mul hp.a).sum hp.b (n := n + 2) (by omega) (by omega), hp.b.mono (by omega), (c2.mul hp.c).mono (by omega)⟩
  · exact hp.mono (by omega) (by omega)
theorem e_sign_of {f : Int} {p : Int × Int × Int} {n m : Nat} (hf : Kind f) (hp : Sn n m p) (hn : n ≤ 1000000) (hm : m ≤ 1000000) : callN G wl (k + 2) "sign_of" [I f, .v (T3 p)] S = .ok (I (sg3 f p)) S := by
  apply W_eq
  rw [w_fun lk_sign_of rfl]
  have e : ∀ S, callN G wl (k + 1) "rooted" [I f, .v (T3 p)] S = .ok (.v (T3 (rt f p))) S := fun S => e_rooted hp hn hm
  have s := rt_sn (f := f) hp
  have fb := (kind_sz hf).mul s.b
  have ra : sg3 f p = sgn f (rt f p).1 (rt f p).2.1 := rfl
  simp only [d_sign_of, EV.w_loc, EV.w_at0, EV.w_atS, EV.w_lit, EV.w_op, EV.w_neg, EV.w_negR, EV.w_not, EV.w_cmp, EV.w_ite, EV.w_evT, EV.w_tup, EV.w_lst, EV.w_ix, EV.w_bi, EV.w_isi, EV.w_rev, EV.w_bop, EV.w_b1, EV.w_b2, EV.w_fld, EV.w_fldR, EV.w_call, EV.w_mth, EV.w_enil, EV.w_econs, EV.w_ono, EV.w_oso, EV.w_intO, EV.w_slc, EV.w_cno, EV.w_cso, EV.w_dix, EV.o_add, EV.o_sub, EV.o_mul, EV.o_div, EV.o_mod, EV.o_lt, EV.o_le, EV.o_gt, EV.o_ge, EV.o_eq, EV.o_ne, EV.o_tb, EV.o_ti, W_ok, W_ex, WS_ok, WS_ex, EV.s_nil, EV.s_cons, EV.s_asgN, EV.s_asgT, EV.s_par2, EV.s_par3, EV.s_set, EV.s_ex, EV.s_iff, EV.s_for, EV.s_wh, EV.s_ret, EV.s_retN, EV.s_rai, EV.rai_v, EV.s_try, EV.s_hnil, EV.s_pas, EV.s_brk, EV.s_cnt, NX_nx, NX_rt, NX_bk, NX_ct, JN_nx, JN_rt, JN_bk, JN_ct, TN_nx, TN_rt, TN_bk, TN_ct, RQ_nx, RQ_rt, EV.gc_v, EV.b_gcd, EV.b_abs, EV.b_max, EV.b_min, EV.b_int, EV.b_intb, EV.b_lens, EV.b_lent, EV.b_lenl, EV.b_isqrt, EV.b_listt, EV.b_listl, EV.t_1, EV.t_2, EV.t_3, EV.t_4, EV.ds_1, EV.ds_2, EV.ds_3, EV.ds_4, EV.l_0, EV.l_1, EV.l_2, EV.l_3, EV.l_4, EV.l_5, EV.l_6, EV.lm_2, EV.i_seq, EV.i_tup, EV.i_lst, EV.i_scr, EV.i_rng, EV.i_rngR, EV.i_rng2, List.set_cons_zero, List.set_cons_succ, List.map_cons, List.map_nil, List.cons_append, List.nil_append, List.replicate, List.length_cons, List.length_nil, List.take_length, decide_eq_true_eq, decide_eq_false_iff_not, okv, okr, oks, Bool.not_true, Bool.not_false, EV.x_t0, EV.x_t1, EV.x_t2, EV.x_l0, EV.x_l1, EV.x_l2, EV.c_20, EV.c_32, EV.isi_int_0, EV.isi_int_1, EV.isi_int_2, EV.isi_int_3, EV.isi_int_4, EV.isi_int_5, EV.isi_int_6, EV.isi_int_7, EV.isi_int_8, EV.isi_bool_0, EV.isi_bool_1, EV.isi_bool_2, EV.isi_bool_3, EV.isi_bool_4, EV.isi_bool_5, EV.isi_bool_6, EV.isi_bool_7, EV.isi_bool_8, EV.isi_str_0, EV.isi_str_1, EV.isi_str_2, EV.isi_str_3, EV.isi_str_4, EV.isi_str_5, EV.isi_str_6, EV.isi_str_7, EV.isi_str_8, EV.isi_none_0, EV.isi_none_1, EV.isi_none_2, EV.isi_none_3, EV.isi_none_4, EV.isi_none_5, EV.isi_none_6, EV.isi_none_7, EV.isi_none_8, EV.isi_tuple_0, EV.isi_tuple_1, EV.isi_tuple_2, EV.isi_tuple_3, EV.isi_tuple_4, EV.isi_tuple_5, EV.isi_tuple_6, EV.isi_tuple_7, EV.isi_tuple_8, EV.isi_list_0, EV.isi_list_1, EV.isi_list_2, EV.isi_list_3, EV.isi_list_4, EV.isi_list_5, EV.isi_list_6, EV.isi_list_7, EV.isi_list_8, EV.f_nm, EV.f_nil, EV.o_eqb, EV.o_neb, EV.o_isn, EV.o_isnn, EV.o_leq0, EV.o_lne0, EV.in_none, EV.in_int, EV.in_bool, EV.in_str, EV.in_tup, EV.in_lst, EV.td_v, SE_nx, SE_rtv, EV.sc_nil, EV.sc_none, EV.sc_v, EV.sc_r, EV.sc_s, EV.sc_x, Bool.not_eq_true', Bool.not_eq_false', EV.goB_a, EV.goB_o, EV.bo_t, EV.bo_l, EV.bo_nil, EV.bo_nm, EV.bo_tt, EV.bo_tl, EV.wipe_nil, EV.wipe_cons, Nat.reduceAdd, Nat.zero_add, Int.cast_ofNat_Int, Int.reduceEq, forall_const, not_true_eq_false, not_false_eq_true, false_implies, implies_true, and_true, true_and, decide_true, decide_false, Bool.false_eq_true, Bool.true_eq_false, eq_self, reduceCtorEq, c_is_integer_0, c_lowest_0, c_is_lowest_0, c_sum_of_two_0, c_opposite_0, c_difference_0, c_times_integer_0, c_rooted_0, c_sign_of_0, c_order_0, c_floor_of_number_0, c_check_kind_0, c_check_number_0, c_check_count_0, c_is_number_0, c_sign_0, c_sign_1, c_compared_0, c_compared_1, c_floor_of_0, c_floor_of_1, c_about_0, c_about_1, c_unit_0, c_unit_1, c_stretch_unit_0, c_stretch_unit_1, c__law_deck_0, c__law_take_0, c__law_gcd_0, c__law_num_0, c__law_plus_0, c__law_minus_0, c__law_times_0, c__law_sign_0, c__law_same_0, c__law_number_0, c__law_near_0, c__law_drawn_0, c__law_is_floor_0, c__law_right_0, c__law_units_0, e, mul_ok s.a s.a (by omega), mul_ok (kind_sz hf) s.b (by omega), mul_ok fb s.b (by omega)]
  rw [ra]
  generalize (rt f p).1 = x at *
  generalize (rt f p).2.1 = y at *
  unfold sgn
  simp only [R.v.injEq, PyData.int.injEq, beq_iff_eq, beq_eq_false_iff_ne, ne_eq, decide_eq_decide]
  clear e s fb ra
  repeat' (first | intro _ | apply And.intro)
  all_goals (repeat' split) <;> first | rfl | contradiction | omega
/-- less, the same, more -/
def cmp3 (f : Int) (p q : Int × Int × Int) : Int := sg3 f (sum2 p (opp q))
theorem dif_sn {p q : Int × Int × Int} {n m n' m' : Nat} (hp : Sn n m p) (hq : Sn n' m' q) (h : p.2.2 ≠ 0) (h' : q.2.2 ≠ 0) : Sn (n + n' + m + m' + 1) (m + m') (sum2 p (opp q)) := sum2_sn hp (opp_sn hq) h h' (by omega) (by omega)
theorem e_order {f : Int} {p q : Int × Int × Int} {n m n' m' : Nat} (hf : Kind f) (hp : Sn n m p) (hq : Sn n' m' q) (h : p.2.2 ≠ 0) (h' : q.2.2 ≠ 0) (hn : n ≤ 400000) (hn' : n' ≤ 400000) (hm : m ≤ 4000) (hm' : m' ≤ 4000) : callN G wl (k + 4) "order" [I f, .v (T3 p), .v (T3 q)] S = .ok (I (cmp3 f p q)) S := by
  apply W_eq
  rw [w_fun lk_order rfl]
  have e : ∀ S, callN G wl (k + 3) "difference" [.v (T3 p), .v (T3 q)] S = .ok (.v (T3 (sum2 p (opp q)))) S := fun S => e_difference hp hq h h' (by omega) (by omega) hm hm'
  have e2 : ∀ S, callN G wl (k + 3) "sign_of" [I f, .v (T3 (sum2 p (opp q)))] S = .ok (I (cmp3 f p q)) S := fun S => e_sign_of hf (dif_sn hp hq h h') (by omega) (by omega)
  simp only [d_order, EV.w_loc, EV.w_at0, EV.w_atS, EV.w_lit, EV.w_op, EV.w_neg, EV.w_negR, EV.w_not, EV.w_cmp, EV.w_ite, EV.w_evT, EV.w_tup, EV.w_lst, EV.w_ix, EV.w_bi, EV.w_isi, EV.w_rev, EV.w_bop, EV.w_b1, EV.w_b2, EV.w_fld, EV.w_fldR, EV.w_call, EV.w_mth, EV.w_enil, EV.w_econs, EV.w_ono, EV.w_oso, EV.w_intO, EV.w_slc, EV.w_cno, EV.w_cso, EV.w_dix, EV.o_add, EV.o_sub, EV.o_mul, EV.o_div, EV.o_mod, EV.o_lt, EV.o_le, EV.o_gt, EV.o_ge, EV.o_eq, EV.o_ne, EV.o_tb, EV.o_ti, W_ok, W_ex, WS_ok, WS_ex, EV.s_nil, EV.s_cons, EV.s_asgN, EV.s_asgT, EV.s_par2, EV.s_par3, EV.s_set, EV.s_ex, EV.s_iff, EV.s_for, EV.s_wh, EV.s_ret, EV.s_retN, EV.s_rai, EV.rai_v, EV.s_try, EV.s_hnil, EV.s_pas, EV.s_brk, EV.s_cnt, NX_nx, NX_rt, NX_bk, NX_ct, JN_nx, JN_rt, JN_bk, JN_ct, TN_nx, TN_rt, TN_bk, TN_ct, RQ_nx, RQ_rt, EV.gc_v, EV.b_gcd, EV.b_abs, EV.b_max, EV.b_min, EV.b_int, EV.b_intb, EV.b_lens, EV.b_lent, EV.b_lenl, EV.b_isqrt, EV.b_listt, EV.b_listl, EV.t_1, EV.t_2, EV.t_3, EV.t_4, EV.ds_1, EV.ds_2, EV.ds_3, EV.ds_4, EV.l_0, EV.l_1, EV.l_2, EV.l_3, EV.l_4, EV.l_5, EV.l_6, EV.lm_2, EV.i_seq, EV.i_tup, EV.i_lst, EV.i_scr, EV.i_rng, EV.i_rngR, EV.i_rng2, List.set_cons_zero, List.set_cons_succ, List.map_cons, List.map_nil, List.cons_append, List.nil_append, List.replicate, List.length_cons, List.length_nil, List.take_length, decide_eq_true_eq, decide_eq_false_iff_not, okv, okr, oks, Bool.not_true, Bool.not_false, EV.x_t0, EV.x_t1, EV.x_t2, EV.x_l0, EV.x_l1, EV.x_l2, EV.c_20, EV.c_32, EV.isi_int_0, EV.isi_int_1, EV.isi_int_2, EV.isi_int_3, EV.isi_int_4, EV.isi_int_5, EV.isi_int_6, EV.isi_int_7, EV.isi_int_8, EV.isi_bool_0, EV.isi_bool_1, EV.isi_bool_2, EV.isi_bool_3, EV.isi_bool_4, EV.isi_bool_5, EV.isi_bool_6, EV.isi_bool_7, EV.isi_bool_8, EV.isi_str_0, EV.isi_str_1, EV.isi_str_2, EV.isi_str_3, EV.isi_str_4, EV.isi_str_5, EV.isi_str_6, EV.isi_str_7, EV.isi_str_8, EV.isi_none_0, EV.isi_none_1, EV.isi_none_2, EV.isi_none_3, EV.isi_none_4, EV.isi_none_5, EV.isi_none_6, EV.isi_none_7, EV.isi_none_8, EV.isi_tuple_0, EV.isi_tuple_1, EV.isi_tuple_2, EV.isi_tuple_3, EV.isi_tuple_4, EV.isi_tuple_5, EV.isi_tuple_6, EV.isi_tuple_7, EV.isi_tuple_8, EV.isi_list_0, EV.isi_list_1, EV.isi_list_2, EV.isi_list_3, EV.isi_list_4, EV.isi_list_5, EV.isi_list_6, EV.isi_list_7, EV.isi_list_8, EV.f_nm, EV.f_nil, EV.o_eqb, EV.o_neb, EV.o_isn, EV.o_isnn, EV.o_leq0, EV.o_lne0, EV.in_none, EV.in_int, EV.in_bool, EV.in_str, EV.in_tup, EV.in_lst, EV.td_v, SE_nx, SE_rtv, EV.sc_nil, EV.sc_none, EV.sc_v, EV.sc_r, EV.sc_s, EV.sc_x, Bool.not_eq_true', Bool.not_eq_false', EV.goB_a, EV.goB_o, EV.bo_t, EV.bo_l, EV.bo_nil, EV.bo_nm, EV.bo_tt, EV.bo_tl, EV.wipe_nil, EV.wipe_cons, Nat.reduceAdd, Nat.zero_add, Int.cast_ofNat_Int, Int.reduceEq, forall_const, not_true_eq_false, not_false_eq_true, false_implies, implies_true, and_true, true_and, decide_true, decide_false, Bool.false_eq_true, Bool.true_eq_false, eq_self, reduceCtorEq, c_is_integer_0, c_lowest_0, c_is_lowest_0, c_sum_of_two_0, c_opposite_0, c_difference_0, c_times_integer_0, c_rooted_0, c_sign_of_0, c_order_0, c_floor_of_number_0, c_check_kind_0, c_check_number_0, c_check_count_0, c_is_number_0, c_sign_0, c_sign_1, c_compared_0, c_compared_1, c_floor_of_0, c_floor_of_1, c_about_0, c_about_1, c_unit_0, c_unit_1, c_stretch_unit_0, c_stretch_unit_1, c__law_deck_0, c__law_take_0, c__law_gcd_0, c__law_num_0, c__law_plus_0, c__law_minus_0, c__law_times_0, c__law_sign_0, c__law_same_0, c__law_number_0, c__law_near_0, c__law_drawn_0, c__law_is_floor_0, c__law_right_0, c__law_units_0, e, e2]
theorem e_floor {f : Int} {p : Int × Int × Int} {n m : Nat} (hf : Kind f) (hp : Sn n m p) (h : 0 < p.2.2) (hn : n ≤ 6000) (hm : m ≤ 6000) : callN G wl (k + 2) "floor_of_number" [I f, .v (T3 p)] S = .ok (I (flo f p)) S := by
  apply W_eq
  rw [w_fun lk_floor_of_number rfl]
  have e : ∀ S, callN G wl (k + 1) "rooted" [I f, .v (T3 p)] S = .ok (.v (T3 (rt f p))) S := fun S => e_rooted hp (by omega) (by omega)
  have s := rt_sn (f := f) hp
  have fb := (kind_sz hf).mul s.b
  have fbb : Sz (3 + (n + 3) + (n + 3)) (f * (rt f p).2.1 * (rt f p).2.1) := fb.mul s.b
  have h0 : 0 ≤ f * (rt f p).2.1 * (rt f p).2.1 := by
    obtain ⟨r0, r1, _⟩ := root_spec (f := f) (y := (rt f p).2.1) (kind_pos hf)
    exact Int.le_trans (Int.mul_nonneg r0 r0) r1
  have l0 : (f * (rt f p).2.1 * (rt f p).2.1).toNat.log2 < 13400 := by
    have := fbb.log
    rw [show (f * (rt f p).2.1 * (rt f p).2.1).toNat = (f * (rt f p).2.1 * (rt f p).2.1).natAbs by omega]
    omega
  have np := rt_pos (f := f) h
  have dv : ∀ x, divOk x (rt f p).2.2 = true := fun x => div_ok (by omega) (by have := s.c.log; omega)
  have ro : ((Float64.isqrt (f * (rt f p).2.1 * (rt f p).2.1).toNat : Nat) : Int) = root f (rt f p).2.1 := rfl
  simp only [d_floor_of_number, EV.w_loc, EV.w_at0, EV.w_atS, EV.w_lit, EV.w_op, EV.w_neg, EV.w_negR, EV.w_not, EV.w_cmp, EV.w_ite, EV.w_evT, EV.w_tup, EV.w_lst, EV.w_ix, EV.w_bi, EV.w_isi, EV.w_rev, EV.w_bop, EV.w_b1, EV.w_b2, EV.w_fld, EV.w_fldR, EV.w_call, EV.w_mth, EV.w_enil, EV.w_econs, EV.w_ono, EV.w_oso, EV.w_intO, EV.w_slc, EV.w_cno, EV.w_cso, EV.w_dix, EV.o_add, EV.o_sub, EV.o_mul, EV.o_div, EV.o_mod, EV.o_lt, EV.o_le, EV.o_gt, EV.o_ge, EV.o_eq, EV.o_ne, EV.o_tb, EV.o_ti, W_ok, W_ex, WS_ok, WS_ex, EV.s_nil, EV.s_cons, EV.s_asgN, EV.s_asgT, EV.s_par2, EV.s_par3, EV.s_set, EV.s_ex, EV.s_iff, EV.s_for, EV.s_wh, EV.s_ret, EV.s_retN, EV.s_rai, EV.rai_v, EV.s_try, EV.s_hnil, EV.s_pas, EV.s_brk, EV.s_cnt, NX_nx, NX_rt, NX_bk, NX_ct, JN_nx, JN_rt, JN_bk, JN_ct, TN_nx, TN_rt, TN_bk, TN_ct, RQ_nx, RQ_rt, EV.gc_v, EV.b_gcd, EV.b_abs, EV.b_max, EV.b_min, EV.b_int, EV.b_intb, EV.b_lens, EV.b_lent, EV.b_lenl, EV.b_isqrt, EV.b_listt, EV.b_listl, EV.t_1, EV.t_2, EV.t_3, EV.t_4, EV.ds_1, EV.ds_2, EV.ds_3, EV.ds_4, EV.l_0, EV.l_1, EV.l_2, EV.l_3, EV.l_4, EV.l_5, EV.l_6, EV.lm_2, EV.i_seq, EV.i_tup, EV.i_lst, EV.i_scr, EV.i_rng, EV.i_rngR, EV.i_rng2, List.set_cons_zero, List.set_cons_succ, List.map_cons, List.map_nil, List.cons_append, List.nil_append, List.replicate, List.length_cons, List.length_nil, List.take_length, decide_eq_true_eq, decide_eq_false_iff_not, okv, okr, oks, Bool.not_true, Bool.not_false, EV.x_t0, EV.x_t1, EV.x_t2, EV.x_l0, EV.x_l1, EV.x_l2, EV.c_20, EV.c_32, EV.isi_int_0, EV.isi_int_1, EV.isi_int_2, EV.isi_int_3, EV.isi_int_4, EV.isi_int_5, EV.isi_int_6, EV.isi_int_7, EV.isi_int_8, EV.isi_bool_0, EV.isi_bool_1, EV.isi_bool_2, EV.isi_bool_3, EV.isi_bool_4, EV.isi_bool_5, EV.isi_bool_6, EV.isi_bool_7, EV.isi_bool_8, EV.isi_str_0, EV.isi_str_1, EV.isi_str_2, EV.isi_str_3, EV.isi_str_4, EV.isi_str_5, EV.isi_str_6, EV.isi_str_7, EV.isi_str_8, EV.isi_none_0, EV.isi_none_1, EV.isi_none_2, EV.isi_none_3, EV.isi_none_4, EV.isi_none_5, EV.isi_none_6, EV.isi_none_7, EV.isi_none_8, EV.isi_tuple_0, EV.isi_tuple_1, EV.isi_tuple_2, EV.isi_tuple_3, EV.isi_tuple_4, EV.isi_tuple_5, EV.isi_tuple_6, EV.isi_tuple_7, EV.isi_tuple_8, EV.isi_list_0, EV.isi_list_1, EV.isi_list_2, EV.isi_list_3, EV.isi_list_4, EV.isi_list_5, EV.isi_list_6, EV.isi_list_7, EV.isi_list_8, EV.f_nm, EV.f_nil, EV.o_eqb, EV.o_neb, EV.o_isn, EV.o_isnn, EV.o_leq0, EV.o_lne0, EV.in_none, EV.in_int, EV.in_bool, EV.in_str, EV.in_tup, EV.in_lst, EV.td_v, SE_nx, SE_rtv, EV.sc_nil, EV.sc_none, EV.sc_v, EV.sc_r, EV.sc_s, EV.sc_x, Bool.not_eq_true', Bool.not_eq_false', EV.goB_a, EV.goB_o, EV.bo_t, EV.bo_l, EV.bo_nil, EV.bo_nm, EV.bo_tt, EV.bo_tl, EV.wipe_nil, EV.wipe_cons, Nat.reduceAdd, Nat.zero_add, Int.cast_ofNat_Int, Int.reduceEq, forall_const, not_true_eq_false, not_false_eq_true, false_implies, implies_true, and_true, true_and, decide_true, decide_false, Bool.false_eq_true, Bool.true_eq_false, eq_self, reduceCtorEq, c_is_integer_0, c_lowest_0, c_is_lowest_0, c_sum_of_two_0, c_opposite_0, c_difference_0, c_times_integer_0, c_rooted_0, c_sign_of_0, c_order_0, c_floor_of_number_0, c_check_kind_0, c_check_number_0, c_check_count_0, c_is_number_0, c_sign_0, c_sign_1, c_compared_0, c_compared_1, c_floor_of_0, c_floor_of_1, c_about_0, c_about_1, c_unit_0, c_unit_1, c_stretch_unit_0, c_stretch_unit_1, c__law_deck_0, c__law_take_0, c__law_gcd_0, c__law_num_0, c__law_plus_0, c__law_minus_0, c__law_times_0, c__law_sign_0, c__law_same_0, c__law_number_0, c__law_near_0, c__law_drawn_0, c__law_is_floor_0, c__law_right_0, c__law_units_0, e, mul_ok (kind_sz hf) s.b (by omega), mul_ok fb s.b (by omega), h0, l0, dv, ro, flo, rot]
  constructor
  · intro hy
    rw [if_pos hy]
  · intro hy
    rw [if_neg hy]
theorem e_is_number {p : Int × Int × Int} (hs : Sz 8990 p.2.2) : callN G wl (k + 3) "is_number" [.v (T3 p)] S = .ok (B (decide (0 < p.2.2 ∧ gc p.1 p.2.1 p.2.2 = 1))) S := by
  apply W_eq
  rw [w_fun lk_is_number rfl]
  simp only [d_is_number, EV.w_loc, EV.w_at0, EV.w_atS, EV.w_lit, EV.w_op, EV.w_neg, EV.w_negR, EV.w_not, EV.w_cmp, EV.w_ite, EV.w_evT, EV.w_tup, EV.w_lst, EV.w_ix, EV.w_bi, EV.w_isi, EV.w_rev, EV.w_bop, EV.w_b1, EV.w_b2, EV.w_fld, EV.w_fldR, EV.w_call, EV.w_mth, EV.w_enil, EV.w_econs, EV.w_ono, EV.w_oso, EV.w_intO, EV.w_slc, EV.w_cno, EV.w_cso, EV.w_dix, EV.o_add, EV.o_sub, EV.o_mul, EV.o_div, EV.o_mod, EV.o_lt, EV.o_le, EV.o_gt, EV.o_ge, EV.o_eq, EV.o_ne, EV.o_tb, EV.o_ti, W_ok, W_ex, WS_ok, WS_ex, EV.s_nil, EV.s_cons, EV.s_asgN, EV.s_asgT, EV.s_par2, EV.s_par3, EV.s_set, EV.s_ex, EV.s_iff, EV.s_for, EV.s_wh, EV.s_ret, EV.s_retN, EV.s_rai, EV.rai_v, EV.s_try, EV.s_hnil, EV.s_pas, EV.s_brk, EV.s_cnt, NX_nx, NX_rt, NX_bk, NX_ct, JN_nx, JN_rt, JN_bk, JN_ct, TN_nx, TN_rt, TN_bk, TN_ct, RQ_nx, RQ_rt, EV.gc_v, EV.b_gcd, EV.b_abs, EV.b_max, EV.b_min, EV.b_int, EV.b_intb, EV.b_lens, EV.b_lent, EV.b_lenl, EV.b_isqrt, EV.b_listt, EV.b_listl, EV.t_1, EV.t_2, EV.t_3, EV.t_4, EV.ds_1, EV.ds_2, EV.ds_3, EV.ds_4, EV.l_0, EV.l_1, EV.l_2, EV.l_3, EV.l_4, EV.l_5, EV.l_6, EV.lm_2, EV.i_seq, EV.i_tup, EV.i_lst, EV.i_scr, EV.i_rng, EV.i_rngR, EV.i_rng2, List.set_cons_zero, List.set_cons_succ, List.map_cons, List.map_nil, List.cons_append, List.nil_append, List.replicate, List.length_cons, List.length_nil, List.take_length, decide_eq_true_eq, decide_eq_false_iff_not, okv, okr, oks, Bool.not_true, Bool.not_false, EV.x_t0, EV.x_t1, EV.x_t2, EV.x_l0, EV.x_l1, EV.x_l2, EV.c_20, EV.c_32, EV.isi_int_0, EV.isi_int_1, EV.isi_int_2, EV.isi_int_3, EV.isi_int_4, EV.isi_int_5, EV.isi_int_6, EV.isi_int_7, EV.isi_int_8, EV.isi_bool_0, EV.isi_bool_1, EV.isi_bool_2, EV.isi_bool_3, EV.isi_bool_4, EV.isi_bool_5, EV.isi_bool_6, EV.isi_bool_7, EV.isi_bool_8, EV.isi_str_0, EV.isi_str_1, EV.isi_str_2, EV.isi_str_3, EV.isi_str_4, EV.isi_str_5, EV.isi_str_6, EV.isi_str_7, EV.isi_str_8, EV.isi_none_0, EV.isi_none_1, EV.isi_none_2, EV.isi_none_3, EV.isi_none_4, EV.isi_none_5, EV.isi_none_6, EV.isi_none_7, EV.isi_none_8, EV.isi_tuple_0, EV.isi_tuple_1, EV.isi_tuple_2, EV.isi_tuple_3, EV.isi_tuple_4, EV.isi_tuple_5, EV.isi_tuple_6, EV.isi_tuple_7, EV.isi_tuple_8, EV.isi_list_0, EV.isi_list_1, EV.isi_list_2, EV.isi_list_3, EV.isi_list_4, EV.isi_list_5, EV.isi_list_6, EV.isi_list_7, EV.isi_list_8, EV.f_nm, EV.f_nil, EV.o_eqb, EV.o_neb, EV.o_isn, EV.o_isnn, EV.o_leq0, EV.o_lne0, EV.in_none, EV.in_int, EV.in_bool, EV.in_str, EV.in_tup, EV.in_lst, EV.td_v, SE_nx, SE_rtv, EV.sc_nil, EV.sc_none, EV.sc_v, EV.sc_r, EV.sc_s, EV.sc_x, Bool.not_eq_true', Bool.not_eq_false', EV.goB_a, EV.goB_o, EV.bo_t, EV.bo_l, EV.bo_nil, EV.bo_nm, EV.bo_tt, EV.bo_tl, EV.wipe_nil, EV.wipe_cons, Nat.reduceAdd, Nat.zero_add, Int.cast_ofNat_Int, Int.reduceEq, forall_const, not_true_eq_false, not_false_eq_true, false_implies, implies_true, and_true, true_and, decide_true, decide_false, Bool.false_eq_true, Bool.true_eq_false, eq_self, reduceCtorEq, c_is_integer_0, c_lowest_0, c_is_lowest_0, c_sum_of_two_0, c_opposite_0, c_difference_0, c_times_integer_0, c_rooted_0, c_sign_of_0, c_order_0, c_floor_of_number_0, c_check_kind_0, c_check_number_0, c_check_count_0, c_is_number_0, c_sign_0, c_sign_1, c_compared_0, c_compared_1, c_floor_of_0, c_floor_of_1, c_about_0, c_about_1, c_unit_0, c_unit_1, c_stretch_unit_0, c_stretch_unit_1, c__law_deck_0, c__law_take_0, c__law_gcd_0, c__law_num_0, c__law_plus_0, c__law_minus_0, c__law_times_0, c__law_sign_0, c__law_same_0, c__law_number_0, c__law_near_0, c__law_drawn_0, c__law_is_floor_0, c__law_right_0, c__law_units_0, e_is_lowest hs]
theorem e_check_number {p : Int × Int × Int} {n m : Nat} (hp : Sn n m p) (hm : m ≤ 8990) (h : IsLow p) : callN G wl (k + 4) "check_number" [.v (T3 p)] S = .ok (.v .none) S := by
  apply W_eq
  rw [w_fun lk_check_number rfl]
  have e : decide (0 < p.2.2 ∧ gc p.1 p.2.1 p.2.2 = 1) = true := decide_eq_true h
  simp only [d_check_number, EV.w_loc, EV.w_at0, EV.w_atS, EV.w_lit, EV.w_op, EV.w_neg, EV.w_negR, EV.w_not, EV.w_cmp, EV.w_ite, EV.w_evT, EV.w_tup, EV.w_lst, EV.w_ix, EV.w_bi, EV.w_isi, EV.w_rev, EV.w_bop, EV.w_b1, EV.w_b2, EV.w_fld, EV.w_fldR, EV.w_call, EV.w_mth, EV.w_enil, EV.w_econs, EV.w_ono, EV.w_oso, EV.w_intO, EV.w_slc, EV.w_cno, EV.w_cso, EV.w_dix, EV.o_add, EV.o_sub, EV.o_mul, EV.o_div, EV.o_mod, EV.o_lt, EV.o_le, EV.o_gt, EV.o_ge, EV.o_eq, EV.o_ne, EV.o_tb, EV.o_ti, W_ok, W_ex, WS_ok, WS_ex, EV.s_nil, EV.s_cons, EV.s_asgN, EV.s_asgT, EV.s_par2, EV.s_par3, EV.s_set, EV.s_ex, EV.s_iff, EV.s_for, EV.s_wh, EV.s_ret, EV.s_retN, EV.s_rai, EV.rai_v, EV.s_try, EV.s_hnil, EV.s_pas, EV.s_brk, EV.s_cnt, NX_nx, NX_rt, NX_bk, NX_ct, JN_nx, JN_rt, JN_bk, JN_ct, TN_nx, TN_rt, TN_bk, TN_ct, RQ_nx, RQ_rt, EV.gc_v, EV.b_gcd, EV.b_abs, EV.b_max, EV.b_min, EV.b_int, EV.b_intb, EV.b_lens, EV.b_lent, EV.b_lenl, EV.b_isqrt, EV.b_listt, EV.b_listl, EV.t_1, EV.t_2, EV.t_3, EV.t_4, EV.ds_1, EV.ds_2, EV.ds_3, EV.ds_4, EV.l_0, EV.l_1, EV.l_2, EV.l_3, EV.l_4, EV.l_5, EV.l_6, EV.lm_2, EV.i_seq, EV.i_tup, EV.i_lst, EV.i_scr, EV.i_rng, EV.i_rngR, EV.i_rng2, List.set_cons_zero, List.set_cons_succ, List.map_cons, List.map_nil, List.cons_append, List.nil_append, List.replicate, List.length_cons, List.length_nil, List.take_length, decide_eq_true_eq, decide_eq_false_iff_not, okv, okr, oks, Bool.not_true, Bool.not_false, EV.x_t0, EV.x_t1, EV.x_t2, EV.x_l0, EV.x_l1, EV.x_l2, EV.c_20, EV.c_32, EV.isi_int_0, EV.isi_int_1, EV.isi_int_2, EV.isi_int_3, EV.isi_int_4, EV.isi_int_5, EV.isi_int_6, EV.isi_int_7, EV.isi_int_8, EV.isi_bool_0, EV.isi_bool_1, EV.isi_bool_2, EV.isi_bool_3, EV.isi_bool_4, EV.isi_bool_5, EV.isi_bool_6, EV.isi_bool_7, EV.isi_bool_8, EV.isi_str_0, EV.isi_str_1, EV.isi_str_2, EV.isi_str_3, EV.isi_str_4, EV.isi_str_5, EV.isi_str_6, EV.isi_str_7, EV.isi_str_8, EV.isi_none_0, EV.isi_none_1, EV.isi_none_2, EV.isi_none_3, EV.isi_none_4, EV.isi_none_5, EV.isi_none_6, EV.isi_none_7, EV.isi_none_8, EV.isi_tuple_0, EV.isi_tuple_1, EV.isi_tuple_2, EV.isi_tuple_3, EV.isi_tuple_4, EV.isi_tuple_5, EV.isi_tuple_6, EV.isi_tuple_7, EV.isi_tuple_8, EV.isi_list_0, EV.isi_list_1, EV.isi_list_2, EV.isi_list_3, EV.isi_list_4, EV.isi_list_5, EV.isi_list_6, EV.isi_list_7, EV.isi_list_8, EV.f_nm, EV.f_nil, EV.o_eqb, EV.o_neb, EV.o_isn, EV.o_isnn, EV.o_leq0, EV.o_lne0, EV.in_none, EV.in_int, EV.in_bool, EV.in_str, EV.in_tup, EV.in_lst, EV.td_v, SE_nx, SE_rtv, EV.sc_nil, EV.sc_none, EV.sc_v, EV.sc_r, EV.sc_s, EV.sc_x, Bool.not_eq_true', Bool.not_eq_false', EV.goB_a, EV.goB_o, EV.bo_t, EV.bo_l, EV.bo_nil, EV.bo_nm, EV.bo_tt, EV.bo_tl, EV.wipe_nil, EV.wipe_cons, Nat.reduceAdd, Nat.zero_add, Int.cast_ofNat_Int, Int.reduceEq, forall_const, not_true_eq_false, not_false_eq_true, false_implies, implies_true, and_true, true_and, decide_true, decide_false, Bool.false_eq_true, Bool.true_eq_false, eq_self, reduceCtorEq, c_is_integer_0, c_lowest_0, c_is_lowest_0, c_sum_of_two_0, c_opposite_0, c_difference_0, c_times_integer_0, c_rooted_0, c_sign_of_0, c_order_0, c_floor_of_number_0, c_check_kind_0, c_check_number_0, c_check_count_0, c_is_number_0, c_sign_0, c_sign_1, c_compared_0, c_compared_1, c_floor_of_0, c_floor_of_1, c_about_0, c_about_1, c_unit_0, c_unit_1, c_stretch_unit_0, c_stretch_unit_1, c__law_deck_0, c__law_take_0, c__law_gcd_0, c__law_num_0, c__law_plus_0, c__law_minus_0, c__law_times_0, c__law_sign_0, c__law_same_0, c__law_number_0, c__law_near_0, c__law_drawn_0, c__law_is_floor_0, c__law_right_0, c__law_units_0, e_is_number (hp.c.mono hm), e]
theorem e_check_kind {f : Int} (h : Kind f) : callN G wl (k + 2) "check_kind" [I f] S = .ok (.v .none) S := by
  apply W_eq
  rw [w_fun lk_check_kind rfl]
  simp only [d_check_kind, EV.w_loc, EV.w_at0, EV.w_atS, EV.w_lit, EV.w_op, EV.w_neg, EV.w_negR, EV.w_not, EV.w_cmp, EV.w_ite, EV.w_evT, EV.w_tup, EV.w_lst, EV.w_ix, EV.w_bi, EV.w_isi, EV.w_rev, EV.w_bop, EV.w_b1, EV.w_b2, EV.w_fld, EV.w_fldR, EV.w_call, EV.w_mth, EV.w_enil, EV.w_econs, EV.w_ono, EV.w_oso, EV.w_intO, EV.w_slc, EV.w_cno, EV.w_cso, EV.w_dix, EV.o_add, EV.o_sub, EV.o_mul, EV.o_div, EV.o_mod, EV.o_lt, EV.o_le, EV.o_gt, EV.o_ge, EV.o_eq, EV.o_ne, EV.o_tb, EV.o_ti, W_ok, W_ex, WS_ok, WS_ex, EV.s_nil, EV.s_cons, EV.s_asgN, EV.s_asgT, EV.s_par2, EV.s_par3, EV.s_set, EV.s_ex, EV.s_iff, EV.s_for, EV.s_wh, EV.s_ret, EV.s_retN, EV.s_rai, EV.rai_v, EV.s_try, EV.s_hnil, EV.s_pas, EV.s_brk, EV.s_cnt, NX_nx, NX_rt, NX_bk, NX_ct, JN_nx, JN_rt, JN_bk, JN_ct, TN_nx, TN_rt, TN_bk, TN_ct, RQ_nx, RQ_rt, EV.gc_v, EV.b_gcd, EV.b_abs, EV.b_max, EV.b_min, EV.b_int, EV.b_intb, EV.b_lens, EV.b_lent, EV.b_lenl, EV.b_isqrt, EV.b_listt, EV.b_listl, EV.t_1, EV.t_2, EV.t_3, EV.t_4, EV.ds_1, EV.ds_2, EV.ds_3, EV.ds_4, EV.l_0, EV.l_1, EV.l_2, EV.l_3, EV.l_4, EV.l_5, EV.l_6, EV.lm_2, EV.i_seq, EV.i_tup, EV.i_lst, EV.i_scr, EV.i_rng, EV.i_rngR, EV.i_rng2, List.set_cons_zero, List.set_cons_succ, List.map_cons, List.map_nil, List.cons_append, List.nil_append, List.replicate, List.length_cons, List.length_nil, List.take_length, decide_eq_true_eq, decide_eq_false_iff_not, okv, okr, oks, Bool.not_true, Bool.not_false, EV.x_t0, EV.x_t1, EV.x_t2, EV.x_l0, EV.x_l1, EV.x_l2, EV.c_20, EV.c_32, EV.isi_int_0, EV.isi_int_1, EV.isi_int_2, EV.isi_int_3, EV.isi_int_4, EV.isi_int_5, EV.isi_int_6, EV.isi_int_7, EV.isi_int_8, EV.isi_bool_0, EV.isi_bool_1, EV.isi_bool_2, EV.isi_bool_3, EV.isi_bool_4, EV.isi_bool_5, EV.isi_bool_6, EV.isi_bool_7, EV.isi_bool_8, EV.isi_str_0, EV.isi_str_1, EV.isi_str_2, EV.isi_str_3, EV.isi_str_4, EV.isi_str_5, EV.isi_str_6, EV.isi_str_7, EV.isi_str_8, EV.isi_none_0, EV.isi_none_1, EV.isi_none_2, EV.isi_none_3, EV.isi_none_4, EV.isi_none_5, EV.isi_none_6, EV.isi_none_7, EV.isi_none_8, EV.isi_tuple_0, EV.isi_tuple_1, EV.isi_tuple_2, EV.isi_tuple_3, EV.isi_tuple_4, EV.isi_tuple_5, EV.isi_tuple_6, EV.isi_tuple_7, EV.isi_tuple_8, EV.isi_list_0, EV.isi_list_1, EV.isi_list_2, EV.isi_list_3, EV.isi_list_4, EV.isi_list_5, EV.isi_list_6, EV.isi_list_7, EV.isi_list_8, EV.f_nm, EV.f_nil, EV.o_eqb, EV.o_neb, EV.o_isn, EV.o_isnn, EV.o_leq0, EV.o_lne0, EV.in_none, EV.in_int, EV.in_bool, EV.in_str, EV.in_tup, EV.in_lst, EV.td_v, SE_nx, SE_rtv, EV.sc_nil, EV.sc_none, EV.sc_v, EV.sc_r, EV.sc_s, EV.sc_x, Bool.not_eq_true', Bool.not_eq_false', EV.goB_a, EV.goB_o, EV.bo_t, EV.bo_l, EV.bo_nil, EV.bo_nm, EV.bo_tt, EV.bo_tl, EV.wipe_nil, EV.wipe_cons, Nat.reduceAdd, Nat.zero_add, Int.cast_ofNat_Int, Int.reduceEq, forall_const, not_true_eq_false, not_false_eq_true, false_implies, implies_true, and_true, true_and, decide_true, decide_false, Bool.false_eq_true, Bool.true_eq_false, eq_self, reduceCtorEq, c_is_integer_0, c_lowest_0, c_is_lowest_0, c_sum_of_two_0, c_opposite_0, c_difference_0, c_times_integer_0, c_rooted_0, c_sign_of_0, c_order_0, c_floor_of_number_0, c_check_kind_0, c_check_number_0, c_check_count_0, c_is_number_0, c_sign_0, c_sign_1, c_compared_0, c_compared_1, c_floor_of_0, c_floor_of_1, c_about_0, c_about_1, c_unit_0, c_unit_1, c_stretch_unit_0, c_stretch_unit_1, c__law_deck_0, c__law_take_0, c__law_gcd_0, c__law_num_0, c__law_plus_0, c__law_minus_0, c__law_times_0, c__law_sign_0, c__law_same_0, c__law_number_0, c__law_near_0, c__law_drawn_0, c__law_is_floor_0, c__law_right_0, c__law_units_0, e_is_integer, w_gl lk_KINDS, in_kinds h]
theorem e_check_count {n : Int} (h : 0 ≤ n) : callN G wl (k + 2) "check_count" [I n] S = .ok (.v .none) S := by
  apply W_eq
  rw [w_fun lk_check_count rfl]
  simp only [d_check_count, EV.w_loc, EV.w_at0, EV.w_atS, EV.w_lit, EV.w_op, EV.w_neg, EV.w_negR, EV.w_not, EV.w_cmp, EV.w_ite, EV.w_evT, EV.w_tup, EV.w_lst, EV.w_ix, EV.w_bi, EV.w_isi, EV.w_rev, EV.w_bop, EV.w_b1, EV.w_b2, EV.w_fld, EV.w_fldR, EV.w_call, EV.w_mth, EV.w_enil, EV.w_econs, EV.w_ono, EV.w_oso, EV.w_intO, EV.w_slc, EV.w_cno, EV.w_cso, EV.w_dix, EV.o_add, EV.o_sub, EV.o_mul, EV.o_div, EV.o_mod, EV.o_lt, EV.o_le, EV.o_gt, EV.o_ge, EV.o_eq, EV.o_ne, EV.o_tb, EV.o_ti, W_ok, W_ex, WS_ok, WS_ex, EV.s_nil, EV.s_cons, EV.s_asgN, EV.s_asgT, EV.s_par2, EV.s_par3, EV.s_set, EV.s_ex, EV.s_iff, EV.s_for, EV.s_wh, EV.s_ret, EV.s_retN, EV.s_rai, EV.rai_v, EV.s_try, EV.s_hnil, EV.s_pas, EV.s_brk, EV.s_cnt, NX_nx, NX_rt, NX_bk, NX_ct, JN_nx, JN_rt, JN_bk, JN_ct, TN_nx, TN_rt, TN_bk, TN_ct, RQ_nx, RQ_rt, EV.gc_v, EV.b_gcd, EV.b_abs, EV.b_max, EV.b_min, EV.b_int, EV.b_intb, EV.b_lens, EV.b_lent, EV.b_lenl, EV.b_isqrt, EV.b_listt, EV.b_listl, EV.t_1, EV.t_2, EV.t_3, EV.t_4, EV.ds_1, EV.ds_2, EV.ds_3, EV.ds_4, EV.l_0, EV.l_1, EV.l_2, EV.l_3, EV.l_4, EV.l_5, EV.l_6, EV.lm_2, EV.i_seq, EV.i_tup, EV.i_lst, EV.i_scr, EV.i_rng, EV.i_rngR, EV.i_rng2, List.set_cons_zero, List.set_cons_succ, List.map_cons, List.map_nil, List.cons_append, List.nil_append, List.replicate, List.length_cons, List.length_nil, List.take_length, decide_eq_true_eq, decide_eq_false_iff_not, okv, okr, oks, Bool.not_true, Bool.not_false, EV.x_t0, EV.x_t1, EV.x_t2, EV.x_l0, EV.x_l1, EV.x_l2, EV.c_20, EV.c_32, EV.isi_int_0, EV.isi_int_1, EV.isi_int_2, EV.isi_int_3, EV.isi_int_4, EV.isi_int_5, EV.isi_int_6, EV.isi_int_7, EV.isi_int_8, EV.isi_bool_0, EV.isi_bool_1, EV.isi_bool_2, EV.isi_bool_3, EV.isi_bool_4, EV.isi_bool_5, EV.isi_bool_6, EV.isi_bool_7, EV.isi_bool_8, EV.isi_str_0, EV.isi_str_1, EV.isi_str_2, EV.isi_str_3, EV.isi_str_4, EV.isi_str_5, EV.isi_str_6, EV.isi_str_7, EV.isi_str_8, EV.isi_none_0, EV.isi_none_1, EV.isi_none_2, EV.isi_none_3, EV.isi_none_4, EV.isi_none_5, EV.isi_none_6, EV.isi_none_7, EV.isi_none_8, EV.isi_tuple_0, EV.isi_tuple_1, EV.isi_tuple_2, EV.isi_tuple_3, EV.isi_tuple_4, EV.isi_tuple_5, EV.isi_tuple_6, EV.isi_tuple_7, EV.isi_tuple_8, EV.isi_list_0, EV.isi_list_1, EV.isi_list_2, EV.isi_list_3, EV.isi_list_4, EV.isi_list_5, EV.isi_list_6, EV.isi_list_7, EV.isi_list_8, EV.f_nm, EV.f_nil, EV.o_eqb, EV.o_neb, EV.o_isn, EV.o_isnn, EV.o_leq0, EV.o_lne0, EV.in_none, EV.in_int, EV.in_bool, EV.in_str, EV.in_tup, EV.in_lst, EV.td_v, SE_nx, SE_rtv, EV.sc_nil, EV.sc_none, EV.sc_v, EV.sc_r, EV.sc_s, EV.sc_x, Bool.not_eq_true', Bool.not_eq_false', EV.goB_a, EV.goB_o, EV.bo_t, EV.bo_l, EV.bo_nil, EV.bo_nm, EV.bo_tt, EV.bo_tl, EV.wipe_nil, EV.wipe_cons, Nat.reduceAdd, Nat.zero_add, Int.cast_ofNat_Int, Int.reduceEq, forall_const, not_true_eq_false, not_false_eq_true, false_implies, implies_true, and_true, true_and, decide_true, decide_false, Bool.false_eq_true, Bool.true_eq_false, eq_self, reduceCtorEq, c_is_integer_0, c_lowest_0, c_is_lowest_0, c_sum_of_two_0, c_opposite_0, c_difference_0, c_times_integer_0, c_rooted_0, c_sign_of_0, c_order_0, c_floor_of_number_0, c_check_kind_0, c_check_number_0, c_check_count_0, c_is_number_0, c_sign_0, c_sign_1, c_compared_0, c_compared_1, c_floor_of_0, c_floor_of_1, c_about_0, c_about_1, c_unit_0, c_unit_1, c_stretch_unit_0, c_stretch_unit_1, c__law_deck_0, c__law_take_0, c__law_gcd_0, c__law_num_0, c__law_plus_0, c__law_minus_0, c__law_times_0, c__law_sign_0, c__law_same_0, c__law_number_0, c__law_near_0, c__law_drawn_0, c__law_is_floor_0, c__law_right_0, c__law_units_0, e_is_integer, (show (¬ n < 0) = True from propext ⟨fun _ => trivial, fun _ => by omega⟩), (show (n < 0) = False from propext ⟨fun z => by omega, fun z => z.elim⟩)]
theorem e_sign {f : Int} {p : Int × Int × Int} {n m : Nat} (hf : Kind f) (hp : Sn n m p) (lp : IsLow p) (hn : n ≤ 1000000) (hm : m ≤ 8990) : callN G wl (k + 5) "sign" [I f, .v (T3 p)] S = .ok (I (sg3 f p)) S := by
  apply W_eq
  rw [w_fun lk_sign rfl]
  have e : ∀ S, callN G wl (k + 4) "sign_of" [I f, .v (T3 p)] S = .ok (I (sg3 f p)) S := fun S => e_sign_of hf hp hn (by omega)
  have c1 : ∀ S, callN G wl (k + 4) "check_number" [.v (T3 p)] S = .ok (.v .none) S := fun S => e_check_number hp hm lp
  have c2 : ∀ S, callN G wl (k + 4) "check_kind" [I f] S = .ok (.v .none) S := fun S => e_check_kind hf
  simp only [d_sign, EV.w_loc, EV.w_at0, EV.w_atS, EV.w_lit, EV.w_op, EV.w_neg, EV.w_negR, EV.w_not, EV.w_cmp, EV.w_ite, EV.w_evT, EV.w_tup, EV.w_lst, EV.w_ix, EV.w_bi, EV.w_isi, EV.w_rev, EV.w_bop, EV.w_b1, EV.w_b2, EV.w_fld, EV.w_fldR, EV.w_call, EV.w_mth, EV.w_enil, EV.w_econs, EV.w_ono, EV.w_oso, EV.w_intO, EV.w_slc, EV.w_cno, EV.w_cso, EV.w_dix, EV.o_add, EV.o_sub, EV.o_mul, EV.o_div, EV.o_mod, EV.o_lt, EV.o_le, EV.o_gt, EV.o_ge, EV.o_eq, EV.o_ne, EV.o_tb, EV.o_ti, W_ok, W_ex, WS_ok, WS_ex, EV.s_nil, EV.s_cons, EV.s_asgN, EV.s_asgT, EV.s_par2, EV.s_par3, EV.s_set, EV.s_ex, EV.s_iff, EV.s_for, EV.s_wh, EV.s_ret, EV.s_retN, EV.s_rai, EV.rai_v, EV.s_try, EV.s_hnil, EV.s_pas, EV.s_brk, EV.s_cnt, NX_nx, NX_rt, NX_bk, NX_ct, JN_nx, JN_rt, JN_bk, JN_ct, TN_nx, TN_rt, TN_bk, TN_ct, RQ_nx, RQ_rt, EV.gc_v, EV.b_gcd, EV.b_abs, EV.b_max, EV.b_min, EV.b_int, EV.b_intb, EV.b_lens, EV.b_lent, EV.b_lenl, EV.b_isqrt, EV.b_listt, EV.b_listl, EV.t_1, EV.t_2, EV.t_3, EV.t_4, EV.ds_1, EV.ds_2, EV.ds_3, EV.ds_4, EV.l_0, EV.l_1, EV.l_2, EV.l_3, EV.l_4, EV.l_5, EV.l_6, EV.lm_2, EV.i_seq, EV.i_tup, EV.i_lst, EV.i_scr, EV.i_rng, EV.i_rngR, EV.i_rng2, List.set_cons_zero, List.set_cons_succ, List.map_cons, List.map_nil, List.cons_append, List.nil_append, List.replicate, List.length_cons, List.length_nil, List.take_length, decide_eq_true_eq, decide_eq_false_iff_not, okv, okr, oks, Bool.not_true, Bool.not_false, EV.x_t0, EV.x_t1, EV.x_t2, EV.x_l0, EV.x_l1, EV.x_l2, EV.c_20, EV.c_32, EV.isi_int_0, EV.isi_int_1, EV.isi_int_2, EV.isi_int_3, EV.isi_int_4, EV.isi_int_5, EV.isi_int_6, EV.isi_int_7, EV.isi_int_8, EV.isi_bool_0, EV.isi_bool_1, EV.isi_bool_2, EV.isi_bool_3, EV.isi_bool_4, EV.isi_bool_5, EV.isi_bool_6, EV.isi_bool_7, EV.isi_bool_8, EV.isi_str_0, EV.isi_str_1, EV.isi_str_2, EV.isi_str_3, EV.isi_str_4, EV.isi_str_5, EV.isi_str_6, EV.isi_str_7, EV.isi_str_8, EV.isi_none_0, EV.isi_none_1, EV.isi_none_2, EV.isi_none_3, EV.isi_none_4, EV.isi_none_5, EV.isi_none_6, EV.isi_none_7, EV.isi_none_8, EV.isi_tuple_0, EV.isi_tuple_1, EV.isi_tuple_2, EV.isi_tuple_3, EV.isi_tuple_4, EV.isi_tuple_5, EV.isi_tuple_6, EV.isi_tuple_7, EV.isi_tuple_8, EV.isi_list_0, EV.isi_list_1, EV.isi_list_2, EV.isi_list_3, EV.isi_list_4, EV.isi_list_5, EV.isi_list_6, EV.isi_list_7, EV.isi_list_8, EV.f_nm, EV.f_nil, EV.o_eqb, EV.o_neb, EV.o_isn, EV.o_isnn, EV.o_leq0, EV.o_lne0, EV.in_none, EV.in_int, EV.in_bool, EV.in_str, EV.in_tup, EV.in_lst, EV.td_v, SE_nx, SE_rtv, EV.sc_nil, EV.sc_none, EV.sc_v, EV.sc_r, EV.sc_s, EV.sc_x, Bool.not_eq_true', Bool.not_eq_false', EV.goB_a, EV.goB_o, EV.bo_t, EV.bo_l, EV.bo_nil, EV.bo_nm, EV.bo_tt, EV.bo_tl, EV.wipe_nil, EV.wipe_cons, Nat.reduceAdd, Nat.zero_add, Int.cast_ofNat_Int, Int.reduceEq, forall_const, not_true_eq_false, not_false_eq_true, false_implies, implies_true, and_true, true_and, decide_true, decide_false, Bool.false_eq_true, Bool.true_eq_false, eq_self, reduceCtorEq, c_is_integer_0, c_lowest_0, c_is_lowest_0, c_sum_of_two_0, c_opposite_0, c_difference_0, c_times_integer_0, c_rooted_0, c_sign_of_0, c_order_0, c_floor_of_number_0, c_check_kind_0, c_check_number_0, c_check_count_0, c_is_number_0, c_sign_0, c_sign_1, c_compared_0, c_compared_1, c_floor_of_0, c_floor_of_1, c_about_0, c_about_1, c_unit_0, c_unit_1, c_stretch_unit_0, c_stretch_unit_1, c__law_deck_0, c__law_take_0, c__law_gcd_0, c__law_num_0, c__law_plus_0, c__law_minus_0, c__law_times_0, c__law_sign_0, c__law_same_0, c__law_number_0, c__law_near_0, c__law_drawn_0, c__law_is_floor_0, c__law_right_0, c__law_units_0, c1, c2, e]
theorem e_compared {f : Int} {p q : Int × Int × Int} {n m n' m' : Nat} (hf : Kind f) (hp : Sn n m p) (hq : Sn n' m' q) (lp : IsLow p) (lq : IsLow q) (hn : n ≤ 400000) (hn' : n' ≤ 400000) (hm : m ≤ 4000) (hm' : m' ≤ 4000) : callN G wl (k + 5) "compared" [I f, .v (T3 p), .v (T3 q)] S = .ok (I (cmp3 f p q)) S := by
  apply W_eq
  rw [w_fun lk_compared rfl]
  have e : ∀ S, callN G wl (k + 4) "order" [I f, .v (T3 p), .v (T3 q)] S = .ok (I (cmp3 f p q)) S := fun S => e_order hf hp hq lp.ne lq.ne hn hn' hm hm'
  have c1 : ∀ S, callN G wl (k + 4) "check_number" [.v (T3 p)] S = .ok (.v .none) S := fun S => e_check_number hp (by omega) lp
  have c3 : ∀ S, callN G wl (k + 4) "check_number" [.v (T3 q)] S = .ok (.v .none) S := fun S => e_check_number hq (by omega) lq
  have c2 : ∀ S, callN G wl (k + 4) "check_kind" [I f] S = .ok (.v .none) S := fun S => e_check_kind hf
  simp only [d_compared, EV.w_loc, EV.w_at0, EV.w_atS, EV.w_lit, EV.w_op, EV.w_neg, EV.w_negR, EV.w_not, EV.w_cmp, EV.w_ite, EV.w_evT, EV.w_tup, EV.w_lst, EV.w_ix, EV.w_bi, EV.w_isi, EV.w_rev, EV.w_bop, EV.w_b1, EV.w_b2, EV.w_fld, EV.w_fldR, EV.w_call, EV.w_mth, EV.w_enil, EV.w_econs, EV.w_ono, EV.w_oso, EV.w_intO, EV.w_slc, EV.w_cno, EV.w_cso, EV.w_dix, EV.o_add, EV.o_sub, EV.o_mul, EV.o_div, EV.o_mod, EV.o_lt, EV.o_le, EV.o_gt, EV.o_ge, EV.o_eq, EV.o_ne, EV.o_tb, EV.o_ti, W_ok, W_ex, WS_ok, WS_ex, EV.s_nil, EV.s_cons, EV.s_asgN, EV.s_asgT, EV.s_par2, EV.s_par3, EV.s_set, EV.s_ex, EV.s_iff, EV.s_for, EV.s_wh, EV.s_ret, EV.s_retN, EV.s_rai, EV.rai_v, EV.s_try, EV.s_hnil, EV.s_pas, EV.s_brk, EV.s_cnt, NX_nx, NX_rt, NX_bk, NX_ct, JN_nx, JN_rt, JN_bk, JN_ct, TN_nx, TN_rt, TN_bk, TN_ct, RQ_nx, RQ_rt, EV.gc_v, EV.b_gcd, EV.b_abs, EV.b_max, EV.b_min, EV.b_int, EV.b_intb, EV.b_lens, EV.b_lent, EV.b_lenl, EV.b_isqrt, EV.b_listt, EV.b_listl, EV.t_1, EV.t_2, EV.t_3, EV.t_4, EV.ds_1, EV.ds_2, EV.ds_3, EV.ds_4, EV.l_0, EV.l_1, EV.l_2, EV.l_3, EV.l_4, EV.l_5, EV.l_6, EV.lm_2, EV.i_seq, EV.i_tup, EV.i_lst, EV.i_scr, EV.i_rng, EV.i_rngR, EV.i_rng2, List.set_cons_zero, List.set_cons_succ, List.map_cons, List.map_nil, List.cons_append, List.nil_append, List.replicate, List.length_cons, List.length_nil, List.take_length, decide_eq_true_eq, decide_eq_false_iff_not, okv, okr, oks, Bool.not_true, Bool.not_false, EV.x_t0, EV.x_t1, EV.x_t2, EV.x_l0, EV.x_l1, EV.x_l2, EV.c_20, EV.c_32, EV.isi_int_0, EV.isi_int_1, EV.isi_int_2, EV.isi_int_3, EV.isi_int_4, EV.isi_int_5, EV.isi_int_6, EV.isi_int_7, EV.isi_int_8, EV.isi_bool_0, EV.isi_bool_1, EV.isi_bool_2, EV.isi_bool_3, EV.isi_bool_4, EV.isi_bool_5, EV.isi_bool_6, EV.isi_bool_7, EV.isi_bool_8, EV.isi_str_0, EV.isi_str_1, EV.isi_str_2, EV.isi_str_3, EV.isi_str_4, EV.isi_str_5, EV.isi_str_6, EV.isi_str_7, EV.isi_str_8, EV.isi_none_0, EV.isi_none_1, EV.isi_none_2, EV.isi_none_3, EV.isi_none_4, EV.isi_none_5, EV.isi_none_6, EV.isi_none_7, EV.isi_none_8, EV.isi_tuple_0, EV.isi_tuple_1, EV.isi_tuple_2, EV.isi_tuple_3, EV.isi_tuple_4, EV.isi_tuple_5, EV.isi_tuple_6, EV.isi_tuple_7, EV.isi_tuple_8, EV.isi_list_0, EV.isi_list_1, EV.isi_list_2, EV.isi_list_3, EV.isi_list_4, EV.isi_list_5, EV.isi_list_6, EV.isi_list_7, EV.isi_list_8, EV.f_nm, EV.f_nil, EV.o_eqb, EV.o_neb, EV.o_isn, EV.o_isnn, EV.o_leq0, EV.o_lne0, EV.in_none, EV.in_int, EV.in_bool, EV.in_str, EV.in_tup, EV.in_lst, EV.td_v, SE_nx, SE_rtv, EV.sc_nil, EV.sc_none, EV.sc_v, EV.sc_r, EV.sc_s, EV.sc_x, Bool.not_eq_true', Bool.not_eq_false', EV.goB_a, EV.goB_o, EV.bo_t, EV.bo_l, EV.bo_nil, EV.bo_nm, EV.bo_tt, EV.bo_tl, EV.wipe_nil, EV.wipe_cons, Nat.reduceAdd, Nat.zero_add, Int.cast_ofNat_Int, Int.reduceEq, forall_const, not_true_eq_false, not_false_eq_true, false_implies, implies_true, and_true, true_and, decide_true, decide_false, Bool.false_eq_true, Bool.true_eq_false, eq_self, reduceCtorEq, c_is_integer_0, c_lowest_0, c_is_lowest_0, c_sum_of_two_0, c_opposite_0, c_difference_0, c_times_integer_0, c_rooted_0, c_sign_of_0, c_order_0, c_floor_of_number_0, c_check_kind_0, c_check_number_0, c_check_count_0, c_is_number_0, c_sign_0, c_sign_1, c_compared_0, c_compared_1, c_floor_of_0, c_floor_of_1, c_about_0, c_about_1, c_unit_0, c_unit_1, c_stretch_unit_0, c_stretch_unit_1, c__law_deck_0, c__law_take_0, c__law_gcd_0, c__law_num_0, c__law_plus_0, c__law_minus_0, c__law_times_0, c__law_sign_0, c__law_same_0, c__law_number_0, c__law_near_0, c__law_drawn_0, c__law_is_floor_0, c__law_right_0, c__law_units_0, c1, c2, c3, e]
theorem e_floor_of {f : Int} {p : Int × Int × Int} {n m : Nat} (hf : Kind f) (hp : Sn n m p) (lp : IsLow p) (hn : n ≤ 6000) (hm : m ≤ 4000) : callN G wl (k + 5) "floor_of" [I f, .v (T3 p)] S = .ok (I (flo f p)) S := by
  apply W_eq
  rw [w_fun lk_floor_of rfl]
  have e : ∀ S, callN G wl (k + 4) "floor_of_number" [I f, .v (T3 p)] S = .ok (I (flo f p)) S := fun S => e_floor hf hp lp.1 hn (by omega)
  have c1 : ∀ S, callN G wl (k + 4) "check_number" [.v (T3 p)] S = .ok (.v .none) S := fun S => e_check_number hp (by omega) lp
  have c2 : ∀ S, callN G wl (k + 4) "check_kind" [I f] S = .ok (.v .none) S := fun S => e_check_kind hf
  simp only [d_floor_of, EV.w_loc, EV.w_at0, EV.w_atS, EV.w_lit, EV.w_op, EV.w_neg, EV.w_negR, EV.w_not, EV.w_cmp, EV.w_ite, EV.w_evT, EV.w_tup, EV.w_lst, EV.w_ix, EV.w_bi, EV.w_isi, EV.w_rev, EV.w_bop, EV.w_b1, EV.w_b2, EV.w_fld, EV.w_fldR, EV.w_call, EV.w_mth, EV.w_enil, EV.w_econs, EV.w_ono, EV.w_oso, EV.w_intO, EV.w_slc, EV.w_cno, EV.w_cso, EV.w_dix, EV.o_add, EV.o_sub, EV.o_mul, EV.o_div, EV.o_mod, EV.o_lt, EV.o_le, EV.o_gt, EV.o_ge, EV.o_eq, EV.o_ne, EV.o_tb, EV.o_ti, W_ok, W_ex, WS_ok, WS_ex, EV.s_nil, EV.s_cons, EV.s_asgN, EV.s_asgT, EV.s_par2, EV.s_par3, EV.s_set, EV.s_ex, EV.s_iff, EV.s_for, EV.s_wh, EV.s_ret, EV.s_retN, EV.s_rai, EV.rai_v, EV.s_try, EV.s_hnil, EV.s_pas, EV.s_brk, EV.s_cnt, NX_nx, NX_rt, NX_bk, NX_ct, JN_nx, JN_rt, JN_bk, JN_ct, TN_nx, TN_rt, TN_bk, TN_ct, RQ_nx, RQ_rt, EV.gc_v, EV.b_gcd, EV.b_abs, EV.b_max, EV.b_min, EV.b_int, EV.b_intb, EV.b_lens, EV.b_lent, EV.b_lenl, EV.b_isqrt, EV.b_listt, EV.b_listl, EV.t_1, EV.t_2, EV.t_3, EV.t_4, EV.ds_1, EV.ds_2, EV.ds_3, EV.ds_4, EV.l_0, EV.l_1, EV.l_2, EV.l_3, EV.l_4, EV.l_5, EV.l_6, EV.lm_2, EV.i_seq, EV.i_tup, EV.i_lst, EV.i_scr, EV.i_rng, EV.i_rngR, EV.i_rng2, List.set_cons_zero, List.set_cons_succ, List.map_cons, List.map_nil, List.cons_append, List.nil_append, List.replicate, List.length_cons, List.length_nil, List.take_length, decide_eq_true_eq, decide_eq_false_iff_not, okv, okr, oks, Bool.not_true, Bool.not_false, EV.x_t0, EV.x_t1, EV.x_t2, EV.x_l0, EV.x_l1, EV.x_l2, EV.c_20, EV.c_32, EV.isi_int_0, EV.isi_int_1, EV.isi_int_2, EV.isi_int_3, EV.isi_int_4, EV.isi_int_5, EV.isi_int_6, EV.isi_int_7, EV.isi_int_8, EV.isi_bool_0, EV.isi_bool_1, EV.isi_bool_2, EV.isi_bool_3, EV.isi_bool_4, EV.isi_bool_5, EV.isi_bool_6, EV.isi_bool_7, EV.isi_bool_8, EV.isi_str_0, EV.isi_str_1, EV.isi_str_2, EV.isi_str_3, EV.isi_str_4, EV.isi_str_5, EV.isi_str_6, EV.isi_str_7, EV.isi_str_8, EV.isi_none_0, EV.isi_none_1, EV.isi_none_2, EV.isi_none_3, EV.isi_none_4, EV.isi_none_5, EV.isi_none_6, EV.isi_none_7, EV.isi_none_8, EV.isi_tuple_0, EV.isi_tuple_1, EV.isi_tuple_2, EV.isi_tuple_3, EV.isi_tuple_4, EV.isi_tuple_5, EV.isi_tuple_6, EV.isi_tuple_7, EV.isi_tuple_8, EV.isi_list_0, EV.isi_list_1, EV.isi_list_2, EV.isi_list_3, EV.isi_list_4, EV.isi_list_5, EV.isi_list_6, EV.isi_list_7, EV.isi_list_8, EV.f_nm, EV.f_nil, EV.o_eqb, EV.o_neb, EV.o_isn, EV.o_isnn, EV.o_leq0, EV.o_lne0, EV.in_none, EV.in_int, EV.in_bool, EV.in_str, EV.in_tup, EV.in_lst, EV.td_v, SE_nx, SE_rtv, EV.sc_nil, EV.sc_none, EV.sc_v, EV.sc_r, EV.sc_s, EV.sc_x, Bool.not_eq_true', Bool.not_eq_false', EV.goB_a, EV.goB_o, EV.bo_t, EV.bo_l, EV.bo_nil, EV.bo_nm, EV.bo_tt, EV.bo_tl, EV.wipe_nil, EV.wipe_cons, Nat.reduceAdd, Nat.zero_add, Int.cast_ofNat_Int, Int.reduceEq, forall_const, not_true_eq_false, not_false_eq_true, false_implies, implies_true, and_true, true_and, decide_true, decide_false, Bool.false_eq_true, Bool.true_eq_false, eq_self, reduceCtorEq, c_is_integer_0, c_lowest_0, c_is_lowest_0, c_sum_of_two_0, c_opposite_0, c_difference_0, c_times_integer_0, c_rooted_0, c_sign_of_0, c_order_0, c_floor_of_number_0, c_check_kind_0, c_check_number_0, c_check_count_0, c_is_number_0, c_sign_0, c_sign_1, c_compared_0, c_compared_1, c_floor_of_0, c_floor_of_1, c_about_0, c_about_1, c_unit_0, c_unit_1, c_stretch_unit_0, c_stretch_unit_1, c__law_deck_0, c__law_take_0, c__law_gcd_0, c__law_num_0, c__law_plus_0, c__law_minus_0, c__law_times_0, c__law_sign_0, c__law_same_0, c__law_number_0, c__law_near_0, c__law_drawn_0, c__law_is_floor_0, c__law_right_0, c__law_units_0, c1, c2, e]
theorem lk_UNITS : G.dict.lookup ("UNITS" : Str) = some [(2, T3 (1, 1, 1)), (3, T3 (2, 1, 1)), (5, T3 (0, 1, 1))] := by kernel_rfl
def un1 (f : Int) : Int × Int × Int := if f = 2 then (1, 1, 1) else if f = 3 then (2, 1, 1) else (0, 1, 1)
theorem e_unit {f : Int} (hf : Kind f) : callN G wl (k + 3) "unit" [I f] S = .ok (.v (T3 (un1 f))) S := by
  apply W_eq
  rw [w_fun lk_unit rfl]
  have c2 : ∀ S, callN G wl (k + 2) "check_kind" [I f] S = .ok (.v .none) S := fun S => e_check_kind hf
  have g : ∀ {S : Sto} {Q : R → Sto → Prop} {E : EK}, W (gixR [(2, T3 (1, 1, 1)), (3, T3 (2, 1, 1)), (5, T3 (0, 1, 1))] (I f) S) Q E = Q (.v (T3 (un1 f))) S := fun {S Q E} => by
    rcases hf with rfl | rfl | rfl <;> rfl
  simp only [d_unit, EV.w_loc, EV.w_at0, EV.w_atS, EV.w_lit, EV.w_op, EV.w_neg, EV.w_negR, EV.w_not, EV.w_cmp, EV.w_ite, EV.w_evT, EV.w_tup, EV.w_lst, EV.w_ix, EV.w_bi, EV.w_isi, EV.w_rev, EV.w_bop, EV.w_b1, EV.w_b2, EV.w_fld, EV.w_fldR, EV.w_call, EV.w_mth, EV.w_enil, EV.w_econs, EV.w_ono, EV.w_oso, EV.w_intO, EV.w_slc, EV.w_cno, EV.w_cso, EV.w_dix, EV.o_add, EV.o_sub, EV.o_mul, EV.o_div, EV.o_mod, EV.o_lt, EV.o_le, EV.o_gt, EV.o_ge, EV.o_eq, EV.o_ne, EV.o_tb, EV.o_ti, W_ok, W_ex, WS_ok, WS_ex, EV.s_nil, EV.s_cons, EV.s_asgN, EV.s_asgT, EV.s_par2, EV.s_par3, EV.s_set, EV.s_ex, EV.s_iff, EV.s_for, EV.s_wh, EV.s_ret, EV.s_retN, EV.s_rai, EV.rai_v, EV.s_try, EV.s_hnil, EV.s_pas, EV.s_brk, EV.s_cnt, NX_nx, NX_rt, NX_bk, NX_ct, JN_nx, JN_rt, JN_bk, JN_ct, TN_nx, TN_rt, TN_bk, TN_ct, RQ_nx, RQ_rt, EV.gc_v, EV.b_gcd, EV.b_abs, EV.b_max, EV.b_min, EV.b_int, EV.b_intb, EV.b_lens, EV.b_lent, EV.b_lenl, EV.b_isqrt, EV.b_listt, EV.b_listl, EV.t_1, EV.t_2, EV.t_3, EV.t_4, EV.ds_1, EV.ds_2, EV.ds_3, EV.ds_4, EV.l_0, EV.l_1, EV.l_2, EV.l_3, EV.l_4, EV.l_5, EV.l_6, EV.lm_2, EV.i_seq, EV.i_tup, EV.i_lst, EV.i_scr, EV.i_rng, EV.i_rngR, EV.i_rng2, List.set_cons_zero, List.set_cons_succ, List.map_cons, List.map_nil, List.cons_append, List.nil_append, List.replicate, List.length_cons, List.length_nil, List.take_length, decide_eq_true_eq, decide_eq_false_iff_not, okv, okr, oks, Bool.not_true, Bool.not_false, EV.x_t0, EV.x_t1, EV.x_t2, EV.x_l0, EV.x_l1, EV.x_l2, EV.c_20, EV.c_32, EV.isi_int_0, EV.isi_int_1, EV.isi_int_2, EV.isi_int_3, EV.isi_int_4, EV.isi_int_5, EV.isi_int_6, EV.isi_int_7, EV.isi_int_8, EV.isi_bool_0, EV.isi_bool_1, EV.isi_bool_2, EV.isi_bool_3, EV.isi_bool_4, EV.isi_bool_5, EV.isi_bool_6, EV.isi_bool_7, EV.isi_bool_8, EV.isi_str_0, EV.isi_str_1, EV.isi_str_2, EV.isi_str_3, EV.isi_str_4, EV.isi_str_5, EV.isi_str_6, EV.isi_str_7, EV.isi_str_8, EV.isi_none_0, EV.isi_none_1, EV.isi_none_2, EV.isi_none_3, EV.isi_none_4, EV.isi_none_5, EV.isi_none_6, EV.isi_none_7, EV.isi_none_8, EV.isi_tuple_0, EV.isi_tuple_1, EV.isi_tuple_2, EV.isi_tuple_3, EV.isi_tuple_4, EV.isi_tuple_5, EV.isi_tuple_6, EV.isi_tuple_7, EV.isi_tuple_8, EV.isi_list_0, EV.isi_list_1, EV.isi_list_2, EV.isi_list_3, EV.isi_list_4, EV.isi_list_5, EV.isi_list_6, EV.isi_list_7, EV.isi_list_8, EV.f_nm, EV.f_nil, EV.o_eqb, EV.o_neb, EV.o_isn, EV.o_isnn, EV.o_leq0, EV.o_lne0, EV.in_none, EV.in_int, EV.in_bool, EV.in_str, EV.in_tup, EV.in_lst, EV.td_v, SE_nx, SE_rtv, EV.sc_nil, EV.sc_none, EV.sc_v, EV.sc_r, EV.sc_s, EV.sc_x, Bool.not_eq_true', Bool.not_eq_false', EV.goB_a, EV.goB_o, EV.bo_t, EV.bo_l, EV.bo_nil, EV.bo_nm, EV.bo_tt, EV.bo_tl, EV.wipe_nil, EV.wipe_cons, Nat.reduceAdd, Nat.zero_add, Int.cast_ofNat_Int, Int.reduceEq, forall_const, not_true_eq_false, not_false_eq_true, false_implies, implies_true, and_true, true_and, decide_true, decide_false, Bool.false_eq_true, Bool.true_eq_false, eq_self, reduceCtorEq, c_is_integer_0, c_lowest_0, c_is_lowest_0, c_sum_of_two_0, c_opposite_0, c_difference_0, c_times_integer_0, c_rooted_0, c_sign_of_0, c_order_0, c_floor_of_number_0, c_check_kind_0, c_check_number_0, c_check_count_0, c_is_number_0, c_sign_0, c_sign_1, c_compared_0, c_compared_1, c_floor_of_0, c_floor_of_1, c_about_0, c_about_1, c_unit_0, c_unit_1, c_stretch_unit_0, c_stretch_unit_1, c__law_deck_0, c__law_take_0, c__law_gcd_0, c__law_num_0, c__law_plus_0, c__law_minus_0, c__law_times_0, c__law_sign_0, c__law_same_0, c__law_number_0, c__law_near_0, c__law_drawn_0, c__law_is_floor_0, c__law_right_0, c__law_units_0, c2, w_gix lk_UNITS, g]
theorem lk_STR : G.dict.lookup ("STRETCH_UNITS" : Str) = some [(2, T3 (3, 2, 1)), (3, T3 (2, 1, 1)), (5, T3 (1, 1, 1))] := by kernel_rfl
def un2 (f : Int) : Int × Int × Int := if f = 2 then (3, 2, 1) else if f = 3 then (2, 1, 1) else (1, 1, 1)
theorem e_stretch_unit {f : Int} (hf : Kind f) : callN G wl (k + 3) "stretch_unit" [I f] S = .ok (.v (T3 (un2 f))) S := by
  apply W_eq
  rw [w_fun lk_stretch_unit rfl]
  have c2 : ∀ S, callN G wl (k + 2) "check_kind" [I f] S = .ok (.v .none) S := fun S => e_check_kind hf
  have g : ∀ {S : Sto} {Q : R → Sto → Prop} {E : EK}, W (gixR [(2, T3 (3, 2, 1)), (3, T3 (2, 1, 1)), (5, T3 (1, 1, 1))] (I f) S) Q E = Q (.v (T3 (un2 f))) S := fun {S Q E} => by
    rcases hf with rfl | rfl | rfl <;> rfl
  simp only [d_stretch_unit, EV.w_loc, EV.w_at0, EV.w_atS, EV.w_lit, EV.w_op, EV.w_neg, EV.w_negR, EV.w_not, EV.w_cmp, EV.w_ite, EV.w_evT, EV.w_tup, EV.w_lst, EV.w_ix, EV.w_bi, EV.w_isi, EV.w_rev, EV.w_bop, EV.w_b1, EV.w_b2, EV.w_fld, EV.w_fldR, EV.w_call, EV.w_mth, EV.w_enil, EV.w_econs, EV.w_ono, EV.w_oso, EV.w_intO, EV.w_slc, EV.w_cno, EV.w_cso, EV.w_dix, EV.o_add, EV.o_sub, EV.o_mul, EV.o_div, EV.o_mod, EV.o_lt, EV.o_le, EV.o_gt, EV.o_ge, EV.o_eq, EV.o_ne, EV.o_tb, EV.o_ti, W_ok, W_ex, WS_ok, WS_ex, EV.s_nil, EV.s_cons, EV.s_asgN, EV.s_asgT, EV.s_par2, EV.s_par3, EV.s_set, EV.s_ex, EV.s_iff, EV.s_for, EV.s_wh, EV.s_ret, EV.s_retN, EV.s_rai, EV.rai_v, EV.s_try, EV.s_hnil, EV.s_pas, EV.s_brk, EV.s_cnt, NX_nx, NX_rt, NX_bk, NX_ct, JN_nx, JN_rt, JN_bk, JN_ct, TN_nx, TN_rt, TN_bk, TN_ct, RQ_nx, RQ_rt, EV.gc_v, EV.b_gcd, EV.b_abs, EV.b_max, EV.b_min, EV.b_int, EV.b_intb, EV.b_lens, EV.b_lent, EV.b_lenl, EV.b_isqrt, EV.b_listt, EV.b_listl, EV.t_1, EV.t_2, EV.t_3, EV.t_4, EV.ds_1, EV.ds_2, EV.ds_3, EV.ds_4, EV.l_0, EV.l_1, EV.l_2, EV.l_3, EV.l_4, EV.l_5, EV.l_6, EV.lm_2, EV.i_seq, EV.i_tup, EV.i_lst, EV.i_scr, EV.i_rng, EV.i_rngR, EV.i_rng2, List.set_cons_zero, List.set_cons_succ, List.map_cons, List.map_nil, List.cons_append, List.nil_append, List.replicate, List.length_cons, List.length_nil, List.take_length, decide_eq_true_eq, decide_eq_false_iff_not, okv, okr, oks, Bool.not_true, Bool.not_false, EV.x_t0, EV.x_t1, EV.x_t2, EV.x_l0, EV.x_l1, EV.x_l2, EV.c_20, EV.c_32, EV.isi_int_0, EV.isi_int_1, EV.isi_int_2, EV.isi_int_3, EV.isi_int_4, EV.isi_int_5, EV.isi_int_6, EV.isi_int_7, EV.isi_int_8, EV.isi_bool_0, EV.isi_bool_1, EV.isi_bool_2, EV.isi_bool_3, EV.isi_bool_4, EV.isi_bool_5, EV.isi_bool_6, EV.isi_bool_7, EV.isi_bool_8, EV.isi_str_0, EV.isi_str_1, EV.isi_str_2, EV.isi_str_3, EV.isi_str_4, EV.isi_str_5, EV.isi_str_6, EV.isi_str_7, EV.isi_str_8, EV.isi_none_0, EV.isi_none_1, EV.isi_none_2, EV.isi_none_3, EV.isi_none_4, EV.isi_none_5, EV.isi_none_6, EV.isi_none_7, EV.isi_none_8, EV.isi_tuple_0, EV.isi_tuple_1, EV.isi_tuple_2, EV.isi_tuple_3, EV.isi_tuple_4, EV.isi_tuple_5, EV.isi_tuple_6, EV.isi_tuple_7, EV.isi_tuple_8, EV.isi_list_0, EV.isi_list_1, EV.isi_list_2, EV.isi_list_3, EV.isi_list_4, EV.isi_list_5, EV.isi_list_6, EV.isi_list_7, EV.isi_list_8, EV.f_nm, EV.f_nil, EV.o_eqb, EV.o_neb, EV.o_isn, EV.o_isnn, EV.o_leq0, EV.o_lne0, EV.in_none, EV.in_int, EV.in_bool, EV.in_str, EV.in_tup, EV.in_lst, EV.td_v, SE_nx, SE_rtv, EV.sc_nil, EV.sc_none, EV.sc_v, EV.sc_r, EV.sc_s, EV.sc_x, Bool.not_eq_true', Bool.not_eq_false', EV.goB_a, EV.goB_o, EV.bo_t, EV.bo_l, EV.bo_nil, EV.bo_nm, EV.bo_tt, EV.bo_tl, EV.wipe_nil, EV.wipe_cons, Nat.reduceAdd, Nat.zero_add, Int.cast_ofNat_Int, Int.reduceEq, forall_const, not_true_eq_false, not_false_eq_true, false_implies, implies_true, and_true, true_and, decide_true, decide_false, Bool.false_eq_true, Bool.true_eq_false, eq_self, reduceCtorEq, c_is_integer_0, c_lowest_0, c_is_lowest_0, c_sum_of_two_0, c_opposite_0, c_difference_0, c_times_integer_0, c_rooted_0, c_sign_of_0, c_order_0, c_floor_of_number_0, c_check_kind_0, c_check_number_0, c_check_count_0, c_is_number_0, c_sign_0, c_sign_1, c_compared_0, c_compared_1, c_floor_of_0, c_floor_of_1, c_about_0, c_about_1, c_unit_0, c_unit_1, c_stretch_unit_0, c_stretch_unit_1, c__law_deck_0, c__law_take_0, c__law_gcd_0, c__law_num_0, c__law_plus_0, c__law_minus_0, c__law_times_0, c__law_sign_0, c__law_same_0, c__law_number_0, c__law_near_0, c__law_drawn_0, c__law_is_floor_0, c__law_right_0, c__law_units_0, c2, w_gix lk_STR, g]
end
end LawP

set_option Elab.async false
set_option linter.all false
set_option maxRecDepth 100000
set_option maxHeartbeats 8000000
namespace LawP
open PySem PySem.Spec PyProof.Rows L2 EV Num
section
variable {wl k : Nat} {S : Sto}
/-! ### the law's own numbers -/
theorem gcd_loop {G : Pg} {call : Str → List R → Sto → Res R} {wl : Nat} {QS : Fl → Rho → Sto → Prop} {ES : Str → D → Rho → Sto → Prop} : ∀ (n u v : Nat), v < n → QS .nx [some (I (Nat.gcd u v)), some (I 0)] S →
    WS (whL (fun ρ S => evT G call (.cmp .NotEq (.loc 1) (.lit (.int 0))) ρ S) (fun ρ S => evSs G call wl (.cons (.par2 0 1 (.loc 1) (.op .Mod (.bi "int" (.cons (.loc 0) (.nil))) (.loc 1))) (.nil)) ρ S) n [some (I u), some (I v)] S) QS ES
  | 0, u, v, h, _ => absurd h (by omega)
  | n + 1, u, v, h, q => by
    simp only [s_wh1, EV.w_loc, EV.w_at0, EV.w_atS, EV.w_lit, EV.w_op, EV.w_neg, EV.w_negR, EV.w_not, EV.w_cmp, EV.w_ite, EV.w_evT, EV.w_tup, EV.w_lst, EV.w_ix, EV.w_bi, EV.w_isi, EV.w_rev, EV.w_bop, EV.w_b1, EV.w_b2, EV.w_fld, EV.w_fldR, EV.w_call, EV.w_mth, EV.w_enil, EV.w_econs, EV.w_ono, EV.w_oso, EV.w_intO, EV.w_slc, EV.w_cno, EV.w_cso, EV.w_dix, EV.o_add, EV.o_sub, EV.o_mul, EV.o_div, EV.o_mod, EV.o_lt, EV.o_le, EV.o_gt, EV.o_ge, EV.o_eq, EV.o_ne, EV.o_tb, EV.o_ti, W_ok, W_ex, WS_ok, WS_ex, EV.s_nil, EV.s_cons, EV.s_asgN, EV.s_asgT, EV.s_par2, EV.s_par3, EV.s_set, EV.s_ex, EV.s_iff, EV.s_for, EV.s_wh, EV.s_ret, EV.s_retN, EV.s_rai, EV.rai_v, EV.s_try, EV.s_hnil, EV.s_pas, EV.s_brk, EV.s_cnt, NX_nx, NX_rt, NX_bk, NX_ct, JN_nx, JN_rt, JN_bk, JN_ct, TN_nx, TN_rt, TN_bk, TN_ct, RQ_nx, RQ_rt, EV.gc_v, EV.b_gcd, EV.b_abs, EV.b_max, EV.b_min, EV.b_int, EV.b_intb, EV.b_lens, EV.b_lent, EV.b_lenl, EV.b_isqrt, EV.b_listt, EV.b_listl, EV.t_1, EV.t_2, EV.t_3, EV.t_4, EV.ds_1, EV.ds_2, EV.ds_3, EV.ds_4, EV.l_0, EV.l_1, EV.l_2, EV.l_3, EV.l_4, EV.l_5, EV.l_6, EV.lm_2, EV.i_seq, EV.i_tup, EV.i_lst, EV.i_scr, EV.i_rng, EV.i_rngR, EV.i_rng2, List.set_cons_zero, List.set_cons_succ, List.map_cons, List.map_nil, List.cons_append, List.nil_append, List.replicate, List.length_cons, List.length_nil, List.take_length, decide_eq_true_eq, decide_eq_false_iff_not, okv, okr, oks, Bool.not_true, Bool.not_false, EV.x_t0, EV.x_t1, EV.x_t2, EV.x_l0, EV.x_l1, EV.x_l2, EV.c_20, EV.c_32, EV.isi_int_0, EV.isi_int_1, EV.isi_int_2, EV.isi_int_3, EV.isi_int_4, EV.isi_int_5, EV.isi_int_6, EV.isi_int_7, EV.isi_int_8, EV.isi_bool_0, EV.isi_bool_1, EV.isi_bool_2, EV.isi_bool_3, EV.isi_bool_4, EV.isi_bool_5, EV.isi_bool_6, EV.isi_bool_7, EV.isi_bool_8, EV.isi_str_0, EV.isi_str_1, EV.isi_str_2, EV.isi_str_3, EV.isi_str_4, EV.isi_str_5, EV.isi_str_6, EV.isi_str_7, EV.isi_str_8, EV.isi_none_0, EV.isi_none_1, EV.isi_none_2, EV.isi_none_3, EV.isi_none_4, EV.isi_none_5, EV.isi_none_6, EV.isi_none_7, EV.isi_none_8, EV.isi_tuple_0, EV.isi_tuple_1, EV.isi_tuple_2, EV.isi_tuple_3, EV.isi_tuple_4, EV.isi_tuple_5, EV.isi_tuple_6, EV.isi_tuple_7, EV.isi_tuple_8, EV.isi_list_0, EV.isi_list_1, EV.isi_list_2, EV.isi_list_3, EV.isi_list_4, EV.isi_list_5, EV.isi_list_6, EV.isi_list_7, EV.isi_list_8, EV.f_nm, EV.f_nil, EV.o_eqb, EV.o_neb, EV.o_isn, EV.o_isnn, EV.o_leq0, EV.o_lne0, EV.in_none, EV.in_int, EV.in_bool, EV.in_str, EV.in_tup, EV.in_lst, EV.td_v, SE_nx, SE_rtv, EV.sc_nil, EV.sc_none, EV.sc_v, EV.sc_r, EV.sc_s, EV.sc_x, Bool.not_eq_true', Bool.not_eq_false', EV.goB_a, EV.goB_o, EV.bo_t, EV.bo_l, EV.bo_nil, EV.bo_nm, EV.bo_tt, EV.bo_tl, EV.wipe_nil, EV.wipe_cons, Nat.reduceAdd, Nat.zero_add, Int.cast_ofNat_Int, Int.reduceEq, forall_const, not_true_eq_false, not_false_eq_true, false_implies, implies_true, and_true, true_and, decide_true, decide_false, Bool.false_eq_true, Bool.true_eq_false, eq_self, reduceCtorEq]
    constructor
    · intro z
      have hv : v ≠ 0 := by omega
      refine ⟨by omega, ?_⟩
      have e : (u : Int).fmod (v : Int) = ((u % v : Nat) : Int) := by
        rw [Int.fmod_eq_emod_of_nonneg _ (by omega)]
        rfl
      rw [e]
      refine gcd_loop n v (u % v) (by have := Nat.mod_lt u (by omega : v > 0); omega) ?_
      rw [Nat.gcd_comm, ← Nat.gcd_rec, Nat.gcd_comm]
      exact q
    · intro z
      have hv : v = 0 := by omega
      subst hv
      rw [Nat.gcd_zero_right] at q
      exact q
theorem e_gcd {u v : Nat} (h : v < wl) : callN G wl (k + 1) "_law_gcd" [I u, I v] S = .ok (I (Nat.gcd u v)) S := by
  apply W_eq
  rw [w_fun lk__law_gcd rfl]
  simp only [d__law_gcd, EV.w_loc, EV.w_at0, EV.w_atS, EV.w_lit, EV.w_op, EV.w_neg, EV.w_negR, EV.w_not, EV.w_cmp, EV.w_ite, EV.w_evT, EV.w_tup, EV.w_lst, EV.w_ix, EV.w_bi, EV.w_isi, EV.w_rev, EV.w_bop, EV.w_b1, EV.w_b2, EV.w_fld, EV.w_fldR, EV.w_call, EV.w_mth, EV.w_enil, EV.w_econs, EV.w_ono, EV.w_oso, EV.w_intO, EV.w_slc, EV.w_cno, EV.w_cso, EV.w_dix, EV.o_add, EV.o_sub, EV.o_mul, EV.o_div, EV.o_mod, EV.o_lt, EV.o_le, EV.o_gt, EV.o_ge, EV.o_eq, EV.o_ne, EV.o_tb, EV.o_ti, W_ok, W_ex, WS_ok, WS_ex, EV.s_nil, EV.s_cons, EV.s_asgN, EV.s_asgT, EV.s_par2, EV.s_par3, EV.s_set, EV.s_ex, EV.s_iff, EV.s_for, EV.s_wh, EV.s_ret, EV.s_retN, EV.s_rai, EV.rai_v, EV.s_try, EV.s_hnil, EV.s_pas, EV.s_brk, EV.s_cnt, NX_nx, NX_rt, NX_bk, NX_ct, JN_nx, JN_rt, JN_bk, JN_ct, TN_nx, TN_rt, TN_bk, TN_ct, RQ_nx, RQ_rt, EV.gc_v, EV.b_gcd, EV.b_abs, EV.b_max, EV.b_min, EV.b_int, EV.b_intb, EV.b_lens, EV.b_lent, EV.b_lenl, EV.b_isqrt, EV.b_listt, EV.b_listl, EV.t_1, EV.t_2, EV.t_3, EV.t_4, EV.ds_1, EV.ds_2, EV.ds_3, EV.ds_4, EV.l_0, EV.l_1, EV.l_2, EV.l_3, EV.l_4, EV.l_5, EV.l_6, EV.lm_2, EV.i_seq, EV.i_tup, EV.i_lst, EV.i_scr, EV.i_rng, EV.i_rngR, EV.i_rng2, List.set_cons_zero, List.set_cons_succ, List.map_cons, List.map_nil, List.cons_append, List.nil_append, List.replicate, List.length_cons, List.length_nil, List.take_length, decide_eq_true_eq, decide_eq_false_iff_not, okv, okr, oks, Bool.not_true, Bool.not_false, EV.x_t0, EV.x_t1, EV.x_t2, EV.x_l0, EV.x_l1, EV.x_l2, EV.c_20, EV.c_32, EV.isi_int_0, EV.isi_int_1, EV.isi_int_2, EV.isi_int_3, EV.isi_int_4, EV.isi_int_5, EV.isi_int_6, EV.isi_int_7, EV.isi_int_8, EV.isi_bool_0, EV.isi_bool_1, EV.isi_bool_2, EV.isi_bool_3, EV.isi_bool_4, EV.isi_bool_5, EV.isi_bool_6, EV.isi_bool_7, EV.isi_bool_8, EV.isi_str_0, EV.isi_str_1, EV.isi_str_2, EV.isi_str_3, EV.isi_str_4, EV.isi_str_5, EV.isi_str_6, EV.isi_str_7, EV.isi_str_8, EV.isi_none_0, EV.isi_none_1, EV.isi_none_2, EV.isi_none_3, EV.isi_none_4, EV.isi_none_5, EV.isi_none_6, EV.isi_none_7, EV.isi_none_8, EV.isi_tuple_0, EV.isi_tuple_1, EV.isi_tuple_2, EV.isi_tuple_3, EV.isi_tuple_4, EV.isi_tuple_5, EV.isi_tuple_6, EV.isi_tuple_7, EV.isi_tuple_8, EV.isi_list_0, EV.isi_list_1, EV.isi_list_2, EV.isi_list_3, EV.isi_list_4, EV.isi_list_5, EV.isi_list_6, EV.isi_list_7, EV.isi_list_8, EV.f_nm, EV.f_nil, EV.o_eqb, EV.o_neb, EV.o_isn, EV.o_isnn, EV.o_leq0, EV.o_lne0, EV.in_none, EV.in_int, EV.in_bool, EV.in_str, EV.in_tup, EV.in_lst, EV.td_v, SE_nx, SE_rtv, EV.sc_nil, EV.sc_none, EV.sc_v, EV.sc_r, EV.sc_s, EV.sc_x, Bool.not_eq_true', Bool.not_eq_false', EV.goB_a, EV.goB_o, EV.bo_t, EV.bo_l, EV.bo_nil, EV.bo_nm, EV.bo_tt, EV.bo_tl, EV.wipe_nil, EV.wipe_cons, Nat.reduceAdd, Nat.zero_add, Int.cast_ofNat_Int, Int.reduceEq, forall_const, not_true_eq_false, not_false_eq_true, false_implies, implies_true, and_true, true_and, decide_true, decide_false, Bool.false_eq_true, Bool.true_eq_false, eq_self, reduceCtorEq]
  refine gcd_loop wl u v h ?_
  simp only [EV.w_loc, EV.w_at0, EV.w_atS, EV.w_lit, EV.w_op, EV.w_neg, EV.w_negR, EV.w_not, EV.w_cmp, EV.w_ite, EV.w_evT, EV.w_tup, EV.w_lst, EV.w_ix, EV.w_bi, EV.w_isi, EV.w_rev, EV.w_bop, EV.w_b1, EV.w_b2, EV.w_fld, EV.w_fldR, EV.w_call, EV.w_mth, EV.w_enil, EV.w_econs, EV.w_ono, EV.w_oso, EV.w_intO, EV.w_slc, EV.w_cno, EV.w_cso, EV.w_dix, EV.o_add, EV.o_sub, EV.o_mul, EV.o_div, EV.o_mod, EV.o_lt, EV.o_le, EV.o_gt, EV.o_ge, EV.o_eq, EV.o_ne, EV.o_tb, EV.o_ti, W_ok, W_ex, WS_ok, WS_ex, EV.s_nil, EV.s_cons, EV.s_asgN, EV.s_asgT, EV.s_par2, EV.s_par3, EV.s_set, EV.s_ex, EV.s_iff, EV.s_for, EV.s_wh, EV.s_ret, EV.s_retN, EV.s_rai, EV.rai_v, EV.s_try, EV.s_hnil, EV.s_pas, EV.s_brk, EV.s_cnt, NX_nx, NX_rt, NX_bk, NX_ct, JN_nx, JN_rt, JN_bk, JN_ct, TN_nx, TN_rt, TN_bk, TN_ct, RQ_nx, RQ_rt, EV.gc_v, EV.b_gcd, EV.b_abs, EV.b_max, EV.b_min, EV.b_int, EV.b_intb, EV.b_lens, EV.b_lent, EV.b_lenl, EV.b_isqrt, EV.b_listt, EV.b_listl, EV.t_1, EV.t_2, EV.t_3, EV.t_4, EV.ds_1, EV.ds_2, EV.ds_3, EV.ds_4, EV.l_0, EV.l_1, EV.l_2, EV.l_3, EV.l_4, EV.l_5, EV.l_6, EV.lm_2, EV.i_seq, EV.i_tup, EV.i_lst, EV.i_scr, EV.i_rng, EV.i_rngR, EV.i_rng2, List.set_cons_zero, List.set_cons_succ, List.map_cons, List.map_nil, List.cons_append, List.nil_append, List.replicate, List.length_cons, List.length_nil, List.take_length, decide_eq_true_eq, decide_eq_false_iff_not, okv, okr, oks, Bool.not_true, Bool.not_false, EV.x_t0, EV.x_t1, EV.x_t2, EV.x_l0, EV.x_l1, EV.x_l2, EV.c_20, EV.c_32, EV.isi_int_0, EV.isi_int_1, EV.isi_int_2, EV.isi_int_3, EV.isi_int_4, EV.isi_int_5, EV.isi_int_6, EV.isi_int_7, EV.isi_int_8, EV.isi_bool_0, EV.isi_bool_1, EV.isi_bool_2, EV.isi_bool_3, EV.isi_bool_4, EV.isi_bool_5, EV.isi_bool_6, EV.isi_bool_7, EV.isi_bool_8, EV.isi_str_0, EV.isi_str_1, EV.isi_str_2, EV.isi_str_3, EV.isi_str_4, EV.isi_str_5, EV.isi_str_6, EV.isi_str_7, EV.isi_str_8, EV.isi_none_0, EV.isi_none_1, EV.isi_none_2, EV.isi_none_3, EV.isi_none_4, EV.isi_none_5, EV.isi_none_6, EV.isi_none_7, EV.isi_none_8, EV.isi_tuple_0, EV.isi_tuple_1, EV.isi_tuple_2, EV.isi_tuple_3, EV.isi_tuple_4, EV.isi_tuple_5, EV.isi_tuple_6, EV.isi_tuple_7, EV.isi_tuple_8, EV.isi_list_0, EV.isi_list_1, EV.isi_list_2, EV.isi_list_3, EV.isi_list_4, EV.isi_list_5, EV.isi_list_6, EV.isi_list_7, EV.isi_list_8, EV.f_nm, EV.f_nil, EV.o_eqb, EV.o_neb, EV.o_isn, EV.o_isnn, EV.o_leq0, EV.o_lne0, EV.in_none, EV.in_int, EV.in_bool, EV.in_str, EV.in_tup, EV.in_lst, EV.td_v, SE_nx, SE_rtv, EV.sc_nil, EV.sc_none, EV.sc_v, EV.sc_r, EV.sc_s, EV.sc_x, Bool.not_eq_true', Bool.not_eq_false', EV.goB_a, EV.goB_o, EV.bo_t, EV.bo_l, EV.bo_nil, EV.bo_nm, EV.bo_tt, EV.bo_tl, EV.wipe_nil, EV.wipe_cons, Nat.reduceAdd, Nat.zero_add, Int.cast_ofNat_Int, Int.reduceEq, forall_const, not_true_eq_false, not_false_eq_true, false_implies, implies_true, and_true, true_and, decide_true, decide_false, Bool.false_eq_true, Bool.true_eq_false, eq_self, reduceCtorEq]
theorem e_num {x y m : Int} (hw : Wl wl) {n r : Nat} (hm : m ≠ 0) (hs : Sz r m) (hy : Sz n y) (hr : r ≤ 8990) (hn : n ≤ 20000000) : callN G wl (k + 2) "_law_num" [I x, I y, I m] S = .ok (.v (T3 (low x y m))) S := by
  apply W_eq
  rw [w_fun lk__law_num rfl]
  have e1 : ∀ S, callN G wl (k + 1) "_law_gcd" [I (x.natAbs : Int), I (y.natAbs : Int)] S = .ok (I (Nat.gcd x.natAbs y.natAbs : Nat)) S := fun S => e_gcd (hw.lt hy hn)
  have e2 : ∀ S, callN G wl (k + 1) "_law_gcd" [I (Nat.gcd x.natAbs y.natAbs : Nat), I (m.natAbs : Int)] S = .ok (I (gc x y m : Nat)) S := fun S => e_gcd (hw.lt hs (by omega))
  simp only [d__law_num, EV.w_loc, EV.w_at0, EV.w_atS, EV.w_lit, EV.w_op, EV.w_neg, EV.w_negR, EV.w_not, EV.w_cmp, EV.w_ite, EV.w_evT, EV.w_tup, EV.w_lst, EV.w_ix, EV.w_bi, EV.w_isi, EV.w_rev, EV.w_bop, EV.w_b1, EV.w_b2, EV.w_fld, EV.w_fldR, EV.w_call, EV.w_mth, EV.w_enil, EV.w_econs, EV.w_ono, EV.w_oso, EV.w_intO, EV.w_slc, EV.w_cno, EV.w_cso, EV.w_dix, EV.o_add, EV.o_sub, EV.o_mul, EV.o_div, EV.o_mod, EV.o_lt, EV.o_le, EV.o_gt, EV.o_ge, EV.o_eq, EV.o_ne, EV.o_tb, EV.o_ti, W_ok, W_ex, WS_ok, WS_ex, EV.s_nil, EV.s_cons, EV.s_asgN, EV.s_asgT, EV.s_par2, EV.s_par3, EV.s_set, EV.s_ex, EV.s_iff, EV.s_for, EV.s_wh, EV.s_ret, EV.s_retN, EV.s_rai, EV.rai_v, EV.s_try, EV.s_hnil, EV.s_pas, EV.s_brk, EV.s_cnt, NX_nx, NX_rt, NX_bk, NX_ct, JN_nx, JN_rt, JN_bk, JN_ct, TN_nx, TN_rt, TN_bk, TN_ct, RQ_nx, RQ_rt, EV.gc_v, EV.b_gcd, EV.b_abs, EV.b_max, EV.b_min, EV.b_int, EV.b_intb, EV.b_lens, EV.b_lent, EV.b_lenl, EV.b_isqrt, EV.b_listt, EV.b_listl, EV.t_1, EV.t_2, EV.t_3, EV.t_4, EV.ds_1, EV.ds_2, EV.ds_3, EV.ds_4, EV.l_0, EV.l_1, EV.l_2, EV.l_3, EV.l_4, EV.l_5, EV.l_6, EV.lm_2, EV.i_seq, EV.i_tup, EV.i_lst, EV.i_scr, EV.i_rng, EV.i_rngR, EV.i_rng2, List.set_cons_zero, List.set_cons_succ, List.map_cons, List.map_nil, List.cons_append, List.nil_append, List.replicate, List.length_cons, List.length_nil, List.take_length, decide_eq_true_eq, decide_eq_false_iff_not, okv, okr, oks, Bool.not_true, Bool.not_false, EV.x_t0, EV.x_t1, EV.x_t2, EV.x_l0, EV.x_l1, EV.x_l2, EV.c_20, EV.c_32, EV.isi_int_0, EV.isi_int_1, EV.isi_int_2, EV.isi_int_3, EV.isi_int_4, EV.isi_int_5, EV.isi_int_6, EV.isi_int_7, EV.isi_int_8, EV.isi_bool_0, EV.isi_bool_1, EV.isi_bool_2, EV.isi_bool_3, EV.isi_bool_4, EV.isi_bool_5, EV.isi_bool_6, EV.isi_bool_7, EV.isi_bool_8, EV.isi_str_0, EV.isi_str_1, EV.isi_str_2, EV.isi_str_3, EV.isi_str_4, EV.isi_str_5, EV.isi_str_6, EV.isi_str_7, EV.isi_str_8, EV.isi_none_0, EV.isi_none_1, EV.isi_none_2, EV.isi_none_3, EV.isi_none_4, EV.isi_none_5, EV.isi_none_6, EV.isi_none_7, EV.isi_none_8, EV.isi_tuple_0, EV.isi_tuple_1, EV.isi_tuple_2, EV.isi_tuple_3, EV.isi_tuple_4, EV.isi_tuple_5, EV.isi_tuple_6, EV.isi_tuple_7, EV.isi_tuple_8, EV.isi_list_0, EV.isi_list_1, EV.isi_list_2, EV.isi_list_3, EV.isi_list_4, EV.isi_list_5, EV.isi_list_6, EV.isi_list_7, EV.isi_list_8, EV.f_nm, EV.f_nil, EV.o_eqb, EV.o_neb, EV.o_isn, EV.o_isnn, EV.o_leq0, EV.o_lne0, EV.in_none, EV.in_int, EV.in_bool, EV.in_str, EV.in_tup, EV.in_lst, EV.td_v, SE_nx, SE_rtv, EV.sc_nil, EV.sc_none, EV.sc_v, EV.sc_r, EV.sc_s, EV.sc_x, Bool.not_eq_true', Bool.not_eq_false', EV.goB_a, EV.goB_o, EV.bo_t, EV.bo_l, EV.bo_nil, EV.bo_nm, EV.bo_tt, EV.bo_tl, EV.wipe_nil, EV.wipe_cons, Nat.reduceAdd, Nat.zero_add, Int.cast_ofNat_Int, Int.reduceEq, forall_const, not_true_eq_false, not_false_eq_true, false_implies, implies_true, and_true, true_and, decide_true, decide_false, Bool.false_eq_true, Bool.true_eq_false, eq_self, reduceCtorEq, c_is_integer_0, c_lowest_0, c_is_lowest_0, c_sum_of_two_0, c_opposite_0, c_difference_0, c_times_integer_0, c_rooted_0, c_sign_of_0, c_order_0, c_floor_of_number_0, c_check_kind_0, c_check_number_0, c_check_count_0, c_is_number_0, c_sign_0, c_sign_1, c_compared_0, c_compared_1, c_floor_of_0, c_floor_of_1, c_about_0, c_about_1, c_unit_0, c_unit_1, c_stretch_unit_0, c_stretch_unit_1, c__law_deck_0, c__law_take_0, c__law_gcd_0, c__law_num_0, c__law_plus_0, c__law_minus_0, c__law_times_0, c__law_sign_0, c__law_same_0, c__law_number_0, c__law_near_0, c__law_drawn_0, c__law_is_floor_0, c__law_right_0, c__law_units_0, abs_if, e1, e2, dv1 hm (hs.mono hr), dv2 hm (hs.mono hr)]
  constructor
  · intro h
    have e : sg x y m = -(gc x y m : Int) := if_pos h
    simp only [low, e]
  · intro h
    have e : sg x y m = (gc x y m : Int) := if_neg h
    simp only [low, e]
section
variable {f : Int} {p q : Int × Int × Int} {n m n' m' : Nat} (hw : Wl wl) (hf : Kind f) (hp : Sn n m p) (hq : Sn n' m' q) (h : p.2.2 ≠ 0) (h' : q.2.2 ≠ 0) (hn : n ≤ 1000000) (hn' : n' ≤ 1000000) (hm : m ≤ 4000) (hm' : m' ≤ 4000)
include hw hp hq h h' hn hn' hm hm'
theorem e_lplus : callN G wl (k + 3) "_law_plus" [.v (T3 p), .v (T3 q)] S = .ok (.v (T3 (sum2 p q))) S := by
  apply W_eq
  rw [w_fun lk__law_plus rfl]
  have n0 : p.2.2 * q.2.2 ≠ 0 := Int.mul_ne_zero h h'
  have sy : Sz (n + n' + m + m' + 1) (p.2.1 * q.2.2 + q.2.1 * p.2.2) := (hp.b.mul hq.c).sum (hq.b.mul hp.c) (by omega) (by omega)
  have sm : Sz (m + m') (p.2.2 * q.2.2) := hp.c.mul hq.c
  simp only [d__law_plus, EV.w_loc, EV.w_at0, EV.w_atS, EV.w_lit, EV.w_op, EV.w_neg, EV.w_negR, EV.w_not, EV.w_cmp, EV.w_ite, EV.w_evT, EV.w_tup, EV.w_lst, EV.w_ix, EV.w_bi, EV.w_isi, EV.w_rev, EV.w_bop, EV.w_b1, EV.w_b2, EV.w_fld, EV.w_fldR, EV.w_call, EV.w_mth, EV.w_enil, EV.w_econs, EV.w_ono, EV.w_oso, EV.w_intO, EV.w_slc, EV.w_cno, EV.w_cso, EV.w_dix, EV.o_add, EV.o_sub, EV.o_mul, EV.o_div, EV.o_mod, EV.o_lt, EV.o_le, EV.o_gt, EV.o_ge, EV.o_eq, EV.o_ne, EV.o_tb, EV.o_ti, W_ok, W_ex, WS_ok, WS_ex, EV.s_nil, EV.s_cons, EV.s_asgN, EV.s_asgT, EV.s_par2, EV.s_par3, EV.s_set, EV.s_ex, EV.s_iff, EV.s_for, EV.s_wh, EV.s_ret, EV.s_retN, EV.s_rai, EV.rai_v, EV.s_try, EV.s_hnil, EV.s_pas, EV.s_brk, EV.s_cnt, NX_nx, NX_rt, NX_bk, NX_ct, JN_nx, JN_rt, JN_bk, JN_ct, TN_nx, TN_rt, TN_bk, TN_ct, RQ_nx, RQ_rt, EV.gc_v, EV.b_gcd, EV.b_abs, EV.b_max, EV.b_min, EV.b_int, EV.b_intb, EV.b_lens, EV.b_lent, EV.b_lenl, EV.b_isqrt, EV.b_listt, EV.b_listl, EV.t_1, EV.t_2, EV.t_3, EV.t_4, EV.ds_1, EV.ds_2, EV.ds_3, EV.ds_4, EV.l_0, EV.l_1, EV.l_2, EV.l_3, EV.l_4, EV.l_5, EV.l_6, EV.lm_2, EV.i_seq, EV.i_tup, EV.i_lst, EV.i_scr, EV.i_rng, EV.i_rngR, EV.i_rng2, List.set_cons_zero, List.set_cons_succ, List.map_cons, List.map_nil, List.cons_append, List.nil_append, List.replicate, List.length_cons, List.length_nil, List.take_length, decide_eq_true_eq, decide_eq_false_iff_not, okv, okr, oks, Bool.not_true, Bool.not_false, EV.x_t0, EV.x_t1, EV.x_t2, EV.x_l0, EV.x_l1, EV.x_l2, EV.c_20, EV.c_32, EV.isi_int_0, EV.isi_int_1, EV.isi_int_2, EV.isi_int_3, EV.isi_int_4, EV.isi_int_5, EV.isi_int_6, EV.isi_int_7, EV.isi_int_8, EV.isi_bool_0, EV.isi_bool_1, EV.isi_bool_2, EV.isi_bool_3, EV.isi_bool_4, EV.isi_bool_5, EV.isi_bool_6, EV.isi_bool_7, EV.isi_bool_8, EV.isi_str_0, EV.isi_str_1, EV.isi_str_2, EV.isi_str_3, EV.isi_str_4, EV.isi_str_5, EV.isi_str_6, EV.isi_str_7, EV.isi_str_8, EV.isi_none_0, EV.isi_none_1, EV.isi_none_2, EV.isi_none_3, EV.isi_none_4, EV.isi_none_5, EV.isi_none_6, EV.isi_none_7, EV.isi_none_8, EV.isi_tuple_0, EV.isi_tuple_1, EV.isi_tuple_2, EV.isi_tuple_3, EV.isi_tuple_4, EV.isi_tuple_5, EV.isi_tuple_6, EV.isi_tuple_7, EV.isi_tuple_8, EV.isi_list_0, EV.isi_list_1, EV.isi_list_2, EV.isi_list_3, EV.isi_list_4, EV.isi_list_5, EV.isi_list_6, EV.isi_list_7, EV.isi_list_8, EV.f_nm, EV.f_nil, EV.o_eqb, EV.o_neb, EV.o_isn, EV.o_isnn, EV.o_leq0, EV.o_lne0, EV.in_none, EV.in_int, EV.in_bool, EV.in_str, EV.in_tup, EV.in_lst, EV.td_v, SE_nx, SE_rtv, EV.sc_nil, EV.sc_none, EV.sc_v, EV.sc_r, EV.sc_s, EV.sc_x, Bool.not_eq_true', Bool.not_eq_false', EV.goB_a, EV.goB_o, EV.bo_t, EV.bo_l, EV.bo_nil, EV.bo_nm, EV.bo_tt, EV.bo_tl, EV.wipe_nil, EV.wipe_cons, Nat.reduceAdd, Nat.zero_add, Int.cast_ofNat_Int, Int.reduceEq, forall_const, not_true_eq_false, not_false_eq_true, false_implies, implies_true, and_true, true_and, decide_true, decide_false, Bool.false_eq_true, Bool.true_eq_false, eq_self, reduceCtorEq, c_is_integer_0, c_lowest_0, c_is_lowest_0, c_sum_of_two_0, c_opposite_0, c_difference_0, c_times_integer_0, c_rooted_0, c_sign_of_0, c_order_0, c_floor_of_number_0, c_check_kind_0, c_check_number_0, c_check_count_0, c_is_number_0, c_sign_0, c_sign_1, c_compared_0, c_compared_1, c_floor_of_0, c_floor_of_1, c_about_0, c_about_1, c_unit_0, c_unit_1, c_stretch_unit_0, c_stretch_unit_1, c__law_deck_0, c__law_take_0, c__law_gcd_0, c__law_num_0, c__law_plus_0, c__law_minus_0, c__law_times_0, c__law_sign_0, c__law_same_0, c__law_number_0, c__law_near_0, c__law_drawn_0, c__law_is_floor_0, c__law_right_0, c__law_units_0, mul_ok hp.a hq.c (by omega), mul_ok hq.a hp.c (by omega), mul_ok hp.b hq.c (by omega), mul_ok hq.b hp.c (by omega), mul_ok hp.c hq.c (by omega), e_num hw n0 sm sy (by omega) (by omega), sum2]
theorem e_lminus : callN G wl (k + 3) "_law_minus" [.v (T3 p), .v (T3 q)] S = .ok (.v (T3 (sum2 p (opp q)))) S := by
  apply W_eq
  rw [w_fun lk__law_minus rfl]
  have n0 : p.2.2 * q.2.2 ≠ 0 := Int.mul_ne_zero h h'
  have sy : Sz (n + n' + m + m' + 1) (p.2.1 * q.2.2 - q.2.1 * p.2.2) := (hp.b.mul hq.c).dif (hq.b.mul hp.c) (by omega) (by omega)
  have sm : Sz (m + m') (p.2.2 * q.2.2) := hp.c.mul hq.c
  simp only [d__law_minus, EV.w_loc, EV.w_at0, EV.w_atS, EV.w_lit, EV.w_op, EV.w_neg, EV.w_negR, EV.w_not, EV.w_cmp, EV.w_ite, EV.w_evT, EV.w_tup, EV.w_lst, EV.w_ix, EV.w_bi, EV.w_isi, EV.w_rev, EV.w_bop, EV.w_b1, EV.w_b2, EV.w_fld, EV.w_fldR, EV.w_call, EV.w_mth, EV.w_enil, EV.w_econs, EV.w_ono, EV.w_oso, EV.w_intO, EV.w_slc, EV.w_cno, EV.w_cso, EV.w_dix, EV.o_add, EV.o_sub, EV.o_mul, EV.o_div, EV.o_mod, EV.o_lt, EV.o_le, EV.o_gt, EV.o_ge, EV.o_eq, EV.o_ne, EV.o_tb, EV.o_ti, W_ok, W_ex, WS_ok, WS_ex, EV.s_nil, EV.s_cons, EV.s_asgN, EV.s_asgT, EV.s_par2, EV.s_par3, EV.s_set, EV.s_ex, EV.s_iff, EV.s_for, EV.s_wh, EV.s_ret, EV.s_retN, EV.s_rai, EV.rai_v, EV.s_try, EV.s_hnil, EV.s_pas, EV.s_brk, EV.s_cnt, NX_nx, NX_rt, NX_bk, NX_ct, JN_nx, JN_rt, JN_bk, JN_ct, TN_nx, TN_rt, TN_bk, TN_ct, RQ_nx, RQ_rt, EV.gc_v, EV.b_gcd, EV.b_abs, EV.b_max, EV.b_min, EV.b_int, EV.b_intb, EV.b_lens, EV.b_lent, EV.b_lenl, EV.b_isqrt, EV.b_listt, EV.b_listl, EV.t_1, EV.t_2, EV.t_3, EV.t_4, EV.ds_1, EV.ds_2, EV.ds_3, EV.ds_4, EV.l_0, EV.l_1, EV.l_2, EV.l_3, EV.l_4, EV.l_5, EV.l_6, EV.lm_2, EV.i_seq, EV.i_tup, EV.i_lst, EV.i_scr, EV.i_rng, EV.i_rngR, EV.i_rng2, List.set_cons_zero, List.set_cons_succ, List.map_cons, List.map_nil, List.cons_append, List.nil_append, List.replicate, List.length_cons, List.length_nil, List.take_length, decide_eq_true_eq, decide_eq_false_iff_not, okv, okr, oks, Bool.not_true, Bool.not_false, EV.x_t0, EV.x_t1, EV.x_t2, EV.x_l0, EV.x_l1, EV.x_l2, EV.c_20, EV.c_32, EV.isi_int_0, EV.isi_int_1, EV.isi_int_2, EV.isi_int_3, EV.isi_int_4, EV.isi_int_5, EV.isi_int_6, EV.isi_int_7, EV.isi_int_8, EV.isi_bool_0, EV.isi_bool_1, EV.isi_bool_2, EV.isi_bool_3, EV.isi_bool_4, EV.isi_bool_5, EV.isi_bool_6, EV.isi_bool_7, EV.isi_bool_8, EV.isi_str_0, EV.isi_str_1, EV.isi_str_2, EV.isi_str_3, EV.isi_str_4, EV.isi_str_5, EV.isi_str_6, EV.isi_str_7, EV.isi_str_8, EV.isi_none_0, EV.isi_none_1, EV.isi_none_2, EV.isi_none_3, EV.isi_none_4, EV.isi_none_5, EV.isi_none_6, EV.isi_none_7, EV.isi_none_8, EV.isi_tuple_0, EV.isi_tuple_1, EV.isi_tuple_2, EV.isi_tuple_3, EV.isi_tuple_4, EV.isi_tuple_5, EV.isi_tuple_6, EV.isi_tuple_7, EV.isi_tuple_8, EV.isi_list_0, EV.isi_list_1, EV.isi_list_2, EV.isi_list_3, EV.isi_list_4, EV.isi_list_5, EV.isi_list_6, EV.isi_list_7, EV.isi_list_8, EV.f_nm, EV.f_nil, EV.o_eqb, EV.o_neb, EV.o_isn, EV.o_isnn, EV.o_leq0, EV.o_lne0, EV.in_none, EV.in_int, EV.in_bool, EV.in_str, EV.in_tup, EV.in_lst, EV.td_v, SE_nx, SE_rtv, EV.sc_nil, EV.sc_none, EV.sc_v, EV.sc_r, EV.sc_s, EV.sc_x, Bool.not_eq_true', Bool.not_eq_false', EV.goB_a, EV.goB_o, EV.bo_t, EV.bo_l, EV.bo_nil, EV.bo_nm, EV.bo_tt, EV.bo_tl, EV.wipe_nil, EV.wipe_cons, Nat.reduceAdd, Nat.zero_add, Int.cast_ofNat_Int, Int.reduceEq, forall_const, not_true_eq_false, not_false_eq_true, false_implies, implies_true, and_true, true_and, decide_true, decide_false, Bool.false_eq_true, Bool.true_eq_false, eq_self, reduceCtorEq, c_is_integer_0, c_lowest_0, c_is_lowest_0, c_sum_of_two_0, c_opposite_0, c_difference_0, c_times_integer_0, c_rooted_0, c_sign_of_0, c_order_0, c_floor_of_number_0, c_check_kind_0, c_check_number_0, c_check_count_0, c_is_number_0, c_sign_0, c_sign_1, c_compared_0, c_compared_1, c_floor_of_0, c_floor_of_1, c_about_0, c_about_1, c_unit_0, c_unit_1, c_stretch_unit_0, c_stretch_unit_1, c__law_deck_0, c__law_take_0, c__law_gcd_0, c__law_num_0, c__law_plus_0, c__law_minus_0, c__law_times_0, c__law_sign_0, c__law_same_0, c__law_number_0, c__law_near_0, c__law_drawn_0, c__law_is_floor_0, c__law_right_0, c__law_units_0, mul_ok hp.a hq.c (by omega), mul_ok hq.a hp.c (by omega), mul_ok hp.b hq.c (by omega), mul_ok hq.b hp.c (by omega), mul_ok hp.c hq.c (by omega), e_num hw n0 sm sy (by omega) (by omega)]
  simp only [sum2, opp, Int.neg_mul, Int.sub_eq_add_neg]
include hf
theorem e_ltimes : callN G wl (k + 3) "_law_times" [I f, .v (T3 p), .v (T3 q)] S = .ok (.v (T3 (prd f p q))) S := by
  apply W_eq
  rw [w_fun lk__law_times rfl]
  have n0 : p.2.2 * q.2.2 ≠ 0 := Int.mul_ne_zero h h'
  have sb : Sz (n + n' + 2) (prB f p q) := prB_sz hp hq
  have sm : Sz (m + m') (p.2.2 * q.2.2) := hp.c.mul hq.c
  have bb : Sz (n + n') (p.2.1 * q.2.1) := hp.b.mul hq.b
  simp only [d__law_times, EV.w_loc, EV.w_at0, EV.w_atS, EV.w_lit, EV.w_op, EV.w_neg, EV.w_negR, EV.w_not, EV.w_cmp, EV.w_ite, EV.w_evT, EV.w_tup, EV.w_lst, EV.w_ix, EV.w_bi, EV.w_isi, EV.w_rev, EV.w_bop, EV.w_b1, EV.w_b2, EV.w_fld, EV.w_fldR, EV.w_call, EV.w_mth, EV.w_enil, EV.w_econs, EV.w_ono, EV.w_oso, EV.w_intO, EV.w_slc, EV.w_cno, EV.w_cso, EV.w_dix, EV.o_add, EV.o_sub, EV.o_mul, EV.o_div, EV.o_mod, EV.o_lt, EV.o_le, EV.o_gt, EV.o_ge, EV.o_eq, EV.o_ne, EV.o_tb, EV.o_ti, W_ok, W_ex, WS_ok, WS_ex, EV.s_nil, EV.s_cons, EV.s_asgN, EV.s_asgT, EV.s_par2, EV.s_par3, EV.s_set, EV.s_ex, EV.s_iff, EV.s_for, EV.s_wh, EV.s_ret, EV.s_retN, EV.s_rai, EV.rai_v, EV.s_try, EV.s_hnil, EV.s_pas, EV.s_brk, EV.s_cnt, NX_nx, NX_rt, NX_bk, NX_ct, JN_nx, JN_rt, JN_bk, JN_ct, TN_nx, TN_rt, TN_bk, TN_ct, RQ_nx, RQ_rt, EV.gc_v, EV.b_gcd, EV.b_abs, EV.b_max, EV.b_min, EV.b_int, EV.b_intb, EV.b_lens, EV.b_lent, EV.b_lenl, EV.b_isqrt, EV.b_listt, EV.b_listl, EV.t_1, EV.t_2, EV.t_3, EV.t_4, EV.ds_1, EV.ds_2, EV.ds_3, EV.ds_4, EV.l_0, EV.l_1, EV.l_2, EV.l_3, EV.l_4, EV.l_5, EV.l_6, EV.lm_2, EV.i_seq, EV.i_tup, EV.i_lst, EV.i_scr, EV.i_rng, EV.i_rngR, EV.i_rng2, List.set_cons_zero, List.set_cons_succ, List.map_cons, List.map_nil, List.cons_append, List.nil_append, List.replicate, List.length_cons, List.length_nil, List.take_length, decide_eq_true_eq, decide_eq_false_iff_not, okv, okr, oks, Bool.not_true, Bool.not_false, EV.x_t0, EV.x_t1, EV.x_t2, EV.x_l0, EV.x_l1, EV.x_l2, EV.c_20, EV.c_32, EV.isi_int_0, EV.isi_int_1, EV.isi_int_2, EV.isi_int_3, EV.isi_int_4, EV.isi_int_5, EV.isi_int_6, EV.isi_int_7, EV.isi_int_8, EV.isi_bool_0, EV.isi_bool_1, EV.isi_bool_2, EV.isi_bool_3, EV.isi_bool_4, EV.isi_bool_5, EV.isi_bool_6, EV.isi_bool_7, EV.isi_bool_8, EV.isi_str_0, EV.isi_str_1, EV.isi_str_2, EV.isi_str_3, EV.isi_str_4, EV.isi_str_5, EV.isi_str_6, EV.isi_str_7, EV.isi_str_8, EV.isi_none_0, EV.isi_none_1, EV.isi_none_2, EV.isi_none_3, EV.isi_none_4, EV.isi_none_5, EV.isi_none_6, EV.isi_none_7, EV.isi_none_8, EV.isi_tuple_0, EV.isi_tuple_1, EV.isi_tuple_2, EV.isi_tuple_3, EV.isi_tuple_4, EV.isi_tuple_5, EV.isi_tuple_6, EV.isi_tuple_7, EV.isi_tuple_8, EV.isi_list_0, EV.isi_list_1, EV.isi_list_2, EV.isi_list_3, EV.isi_list_4, EV.isi_list_5, EV.isi_list_6, EV.isi_list_7, EV.isi_list_8, EV.f_nm, EV.f_nil, EV.o_eqb, EV.o_neb, EV.o_isn, EV.o_isnn, EV.o_leq0, EV.o_lne0, EV.in_none, EV.in_int, EV.in_bool, EV.in_str, EV.in_tup, EV.in_lst, EV.td_v, SE_nx, SE_rtv, EV.sc_nil, EV.sc_none, EV.sc_v, EV.sc_r, EV.sc_s, EV.sc_x, Bool.not_eq_true', Bool.not_eq_false', EV.goB_a, EV.goB_o, EV.bo_t, EV.bo_l, EV.bo_nil, EV.bo_nm, EV.bo_tt, EV.bo_tl, EV.wipe_nil, EV.wipe_cons, Nat.reduceAdd, Nat.zero_add, Int.cast_ofNat_Int, Int.reduceEq, forall_const, not_true_eq_false, not_false_eq_true, false_implies, implies_true, and_true, true_and, decide_true, decide_false, Bool.false_eq_true, Bool.true_eq_false, eq_self, reduceCtorEq, c_is_integer_0, c_lowest_0, c_is_lowest_0, c_sum_of_two_0, c_opposite_0, c_difference_0, c_times_integer_0, c_rooted_0, c_sign_of_0, c_order_0, c_floor_of_number_0, c_check_kind_0, c_check_number_0, c_check_count_0, c_is_number_0, c_sign_0, c_sign_1, c_compared_0, c_compared_1, c_floor_of_0, c_floor_of_1, c_about_0, c_about_1, c_unit_0, c_unit_1, c_stretch_unit_0, c_stretch_unit_1, c__law_deck_0, c__law_take_0, c__law_gcd_0, c__law_num_0, c__law_plus_0, c__law_minus_0, c__law_times_0, c__law_sign_0, c__law_same_0, c__law_number_0, c__law_near_0, c__law_drawn_0, c__law_is_floor_0, c__law_right_0, c__law_units_0, mul_ok hp.a hq.a (by omega), mul_ok hp.b hq.b (by omega), mul_ok hp.a hq.b (by omega), mul_ok hp.b hq.a (by omega), mul_ok hp.c hq.c (by omega), mul_ok (kind_sz hf) bb (by omega)]
  constructor
  · intro e
    have eb : prB f p q = p.1 * q.2.1 + p.2.1 * q.1 + p.2.1 * q.2.1 := if_pos e
    have ea : prA f p q = p.1 * q.1 + p.2.1 * q.2.1 := if_pos e
    rw [← eb, ← ea]
    simp only [e_num hw n0 sm sb (by omega) (by omega), EV.w_loc, EV.w_at0, EV.w_atS, EV.w_lit, EV.w_op, EV.w_neg, EV.w_negR, EV.w_not, EV.w_cmp, EV.w_ite, EV.w_evT, EV.w_tup, EV.w_lst, EV.w_ix, EV.w_bi, EV.w_isi, EV.w_rev, EV.w_bop, EV.w_b1, EV.w_b2, EV.w_fld, EV.w_fldR, EV.w_call, EV.w_mth, EV.w_enil, EV.w_econs, EV.w_ono, EV.w_oso, EV.w_intO, EV.w_slc, EV.w_cno, EV.w_cso, EV.w_dix, EV.o_add, EV.o_sub, EV.o_mul, EV.o_div, EV.o_mod, EV.o_lt, EV.o_le, EV.o_gt, EV.o_ge, EV.o_eq, EV.o_ne, EV.o_tb, EV.o_ti, W_ok, W_ex, WS_ok, WS_ex, EV.s_nil, EV.s_cons, EV.s_asgN, EV.s_asgT, EV.s_par2, EV.s_par3, EV.s_set, EV.s_ex, EV.s_iff, EV.s_for, EV.s_wh, EV.s_ret, EV.s_retN, EV.s_rai, EV.rai_v, EV.s_try, EV.s_hnil, EV.s_pas, EV.s_brk, EV.s_cnt, NX_nx, NX_rt, NX_bk, NX_ct, JN_nx, JN_rt, JN_bk, JN_ct, TN_nx, TN_rt, TN_bk, TN_ct, RQ_nx, RQ_rt, EV.gc_v, EV.b_gcd, EV.b_abs, EV.b_max, EV.b_min, EV.b_int, EV.b_intb, EV.b_lens, EV.b_lent, EV.b_lenl, EV.b_isqrt, EV.b_listt, EV.b_listl, EV.t_1, EV.t_2, EV.t_3, EV.t_4, EV.ds_1, EV.ds_2, EV.ds_3, EV.ds_4, EV.l_0, EV.l_1, EV.l_2, EV.l_3, EV.l_4, EV.l_5, EV.l_6, EV.lm_2, EV.i_seq, EV.i_tup, EV.i_lst, EV.i_scr, EV.i_rng, EV.i_rngR, EV.i_rng2, List.set_cons_zero, List.set_cons_succ, List.map_cons, List.map_nil, List.cons_append, List.nil_append, List.replicate, List.length_cons, List.length_nil, List.take_length, decide_eq_true_eq, decide_eq_false_iff_not, okv, okr, oks, Bool.not_true, Bool.not_false, EV.x_t0, EV.x_t1, EV.x_t2, EV.x_l0, EV.x_l1, EV.x_l2, EV.c_20, EV.c_32, EV.isi_int_0, EV.isi_int_1, EV.isi_int_2, EV.isi_int_3, EV.isi_int_4, EV.isi_int_5, EV.isi_int_6, EV.isi_int_7, EV.isi_int_8, EV.isi_bool_0, EV.isi_bool_1, EV.isi_bool_2, EV.isi_bool_3, EV.isi_bool_4, EV.isi_bool_5, EV.isi_bool_6, EV.isi_bool_7, EV.isi_bool_8, EV.isi_str_0, EV.isi_str_1, EV.isi_str_2, EV.isi_str_3, EV.isi_str_4, EV.isi_str_5, EV.isi_str_6, EV.isi_str_7, EV.isi_str_8, EV.isi_none_0, EV.isi_none_1, EV.isi_none_2, EV.isi_none_3, EV.isi_none_4, EV.isi_none_5, EV.isi_none_6, EV.isi_none_7, EV.isi_none_8, EV.isi_tuple_0, EV.isi_tuple_1, EV.isi_tuple_2, EV.isi_tuple_3, EV.isi_tuple_4, EV.isi_tuple_5, EV.isi_tuple_6, EV.isi_tuple_7, EV.isi_tuple_8, EV.isi_list_0, EV.isi_list_1, EV.isi_list_2, EV.isi_list_3, EV.isi_list_4, EV.isi_list_5, EV.isi_list_6, EV.isi_list_7, EV.isi_list_8, EV.f_nm, EV.f_nil, EV.o_eqb, EV.o_neb, EV.o_isn, EV.o_isnn, EV.o_leq0, EV.o_lne0, EV.in_none, EV.in_int, EV.in_bool, EV.in_str, EV.in_tup, EV.in_lst, EV.td_v, SE_nx, SE_rtv, EV.sc_nil, EV.sc_none, EV.sc_v, EV.sc_r, EV.sc_s, EV.sc_x, Bool.not_eq_true', Bool.not_eq_false', EV.goB_a, EV.goB_o, EV.bo_t, EV.bo_l, EV.bo_nil, EV.bo_nm, EV.bo_tt, EV.bo_tl, EV.wipe_nil, EV.wipe_cons, Nat.reduceAdd, Nat.zero_add, Int.cast_ofNat_Int, Int.reduceEq, forall_const, not_true_eq_false, not_false_eq_true, false_implies, implies_true, and_true, true_and, decide_true, decide_false, Bool.false_eq_true, Bool.true_eq_false, eq_self, reduceCtorEq, prd]
  · intro e
    have eb : prB f p q = p.1 * q.2.1 + p.2.1 * q.1 := if_neg e
    have ea : prA f p q = p.1 * q.1 + f * (p.2.1 * q.2.1) := by
      rw [← Int.mul_assoc]
      exact if_neg e
    rw [← eb, ← ea]
    simp only [e_num hw n0 sm sb (by omega) (by omega), EV.w_loc, EV.w_at0, EV.w_atS, EV.w_lit, EV.w_op, EV.w_neg, EV.w_negR, EV.w_not, EV.w_cmp, EV.w_ite, EV.w_evT, EV.w_tup, EV.w_lst, EV.w_ix, EV.w_bi, EV.w_isi, EV.w_rev, EV.w_bop, EV.w_b1, EV.w_b2, EV.w_fld, EV.w_fldR, EV.w_call, EV.w_mth, EV.w_enil, EV.w_econs, EV.w_ono, EV.w_oso, EV.w_intO, EV.w_slc, EV.w_cno, EV.w_cso, EV.w_dix, EV.o_add, EV.o_sub, EV.o_mul, EV.o_div, EV.o_mod, EV.o_lt, EV.o_le, EV.o_gt, EV.o_ge, EV.o_eq, EV.o_ne, EV.o_tb, EV.o_ti, W_ok, W_ex, WS_ok, WS_ex, EV.s_nil, EV.s_cons, EV.s_asgN, EV.s_asgT, EV.s_par2, EV.s_par3, EV.s_set, EV.s_ex, EV.s_iff, EV.s_for, EV.s_wh, EV.s_ret, EV.s_retN, EV.s_rai, EV.rai_v, EV.s_try, EV.s_hnil, EV.s_pas, EV.s_brk, EV.s_cnt, NX_nx, NX_rt, NX_bk, NX_ct, JN_nx, JN_rt, JN_bk, JN_ct, TN_nx, TN_rt, TN_bk, TN_ct, RQ_nx, RQ_rt, EV.gc_v, EV.b_gcd, EV.b_abs, EV.b_max, EV.b_min, EV.b_int, EV.b_intb, EV.b_lens, EV.b_lent, EV.b_lenl, EV.b_isqrt, EV.b_listt, EV.b_listl, EV.t_1, EV.t_2, EV.t_3, EV.t_4, EV.ds_1, EV.ds_2, EV.ds_3, EV.ds_4, EV.l_0, EV.l_1, EV.l_2, EV.l_3, EV.l_4, EV.l_5, EV.l_6, EV.lm_2, EV.i_seq, EV.i_tup, EV.i_lst, EV.i_scr, EV.i_rng, EV.i_rngR, EV.i_rng2, List.set_cons_zero, List.set_cons_succ, List.map_cons, List.map_nil, List.cons_append, List.nil_append, List.replicate, List.length_cons, List.length_nil, List.take_length, decide_eq_true_eq, decide_eq_false_iff_not, okv, okr, oks, Bool.not_true, Bool.not_false, EV.x_t0, EV.x_t1, EV.x_t2, EV.x_l0, EV.x_l1, EV.x_l2, EV.c_20, EV.c_32, EV.isi_int_0, EV.isi_int_1, EV.isi_int_2, EV.isi_int_3, EV.isi_int_4, EV.isi_int_5, EV.isi_int_6, EV.isi_int_7, EV.isi_int_8, EV.isi_bool_0, EV.isi_bool_1, EV.isi_bool_2, EV.isi_bool_3, EV.isi_bool_4, EV.isi_bool_5, EV.isi_bool_6, EV.isi_bool_7, EV.isi_bool_8, EV.isi_str_0, EV.isi_str_1, EV.isi_str_2, EV.isi_str_3, EV.isi_str_4, EV.isi_str_5, EV.isi_str_6, EV.isi_str_7, EV.isi_str_8, EV.isi_none_0, EV.isi_none_1, EV.isi_none_2, EV.isi_none_3, EV.isi_none_4, EV.isi_none_5, EV.isi_none_6, EV.isi_none_7, EV.isi_none_8, EV.isi_tuple_0, EV.isi_tuple_1, EV.isi_tuple_2, EV.isi_tuple_3, EV.isi_tuple_4, EV.isi_tuple_5, EV.isi_tuple_6, EV.isi_tuple_7, EV.isi_tuple_8, EV.isi_list_0, EV.isi_list_1, EV.isi_list_2, EV.isi_list_3, EV.isi_list_4, EV.isi_list_5, EV.isi_list_6, EV.isi_list_7, EV.isi_list_8, EV.f_nm, EV.f_nil, EV.o_eqb, EV.o_neb, EV.o_isn, EV.o_isnn, EV.o_leq0, EV.o_lne0, EV.in_none, EV.in_int, EV.in_bool, EV.in_str, EV.in_tup, EV.in_lst, EV.td_v, SE_nx, SE_rtv, EV.sc_nil, EV.sc_none, EV.sc_v, EV.sc_r, EV.sc_s, EV.sc_x, Bool.not_eq_true', Bool.not_eq_false', EV.goB_a, EV.goB_o, EV.bo_t, EV.bo_l, EV.bo_nil, EV.bo_nm, EV.bo_tt, EV.bo_tl, EV.wipe_nil, EV.wipe_cons, Nat.reduceAdd, Nat.zero_add, Int.cast_ofNat_Int, Int.reduceEq, forall_const, not_true_eq_false, not_false_eq_true, false_implies, implies_true, and_true, true_and, decide_true, decide_false, Bool.false_eq_true, Bool.true_eq_false, eq_self, reduceCtorEq, prd]
end
theorem bi_if {c : Prop} [Decidable c] {Q : R → Sto → Prop} {E : EK} : W (biR "int" [.v (.bool (decide c))] S) Q E = Q (I (if c then 1 else 0)) S := by
  by_cases h : c
  · rw [decide_eq_true h, if_pos h]
    rfl
  · rw [decide_eq_false h, if_neg h]
    rfl
theorem e_lsign {f : Int} {p : Int × Int × Int} {n m : Nat} (hf : Kind f) (hp : Sn n m p) (hn : n ≤ 1000000) : callN G wl (k + 1) "_law_sign" [I f, .v (T3 p)] S = .ok (I (sg3 f p)) S := by
  apply W_eq
  rw [w_fun lk__law_sign rfl]
  have c2 : Sz 2 (2 : Int) := Sz.const (by decide)
  have fin : ∀ x y : Int, sgn f x y = lsgn f x y := fun x y => (lsgn_eq hf).symm
  have s := rt_sn (f := f) (m := m) hp
  simp only [d__law_sign, EV.w_loc, EV.w_at0, EV.w_atS, EV.w_lit, EV.w_op, EV.w_neg, EV.w_negR, EV.w_not, EV.w_cmp, EV.w_ite, EV.w_evT, EV.w_tup, EV.w_lst, EV.w_ix, EV.w_bi, EV.w_isi, EV.w_rev, EV.w_bop, EV.w_b1, EV.w_b2, EV.w_fld, EV.w_fldR, EV.w_call, EV.w_mth, EV.w_enil, EV.w_econs, EV.w_ono, EV.w_oso, EV.w_intO, EV.w_slc, EV.w_cno, EV.w_cso, EV.w_dix, EV.o_add, EV.o_sub, EV.o_mul, EV.o_div, EV.o_mod, EV.o_lt, EV.o_le, EV.o_gt, EV.o_ge, EV.o_eq, EV.o_ne, EV.o_tb, EV.o_ti, W_ok, W_ex, WS_ok, WS_ex, EV.s_nil, EV.s_cons, EV.s_asgN, EV.s_asgT, EV.s_par2, EV.s_par3, EV.s_set, EV.s_ex, EV.s_iff, EV.s_for, EV.s_wh, EV.s_ret, EV.s_retN, EV.s_rai, EV.rai_v, EV.s_try, EV.s_hnil, EV.s_pas, EV.s_brk, EV.s_cnt, NX_nx, NX_rt, NX_bk, NX_ct, JN_nx, JN_rt, JN_bk, JN_ct, TN_nx, TN_rt, TN_bk, TN_ct, RQ_nx, RQ_rt, EV.gc_v, EV.b_gcd, EV.b_abs, EV.b_max, EV.b_min, EV.b_int, EV.b_intb, EV.b_lens, EV.b_lent, EV.b_lenl, EV.b_isqrt, EV.b_listt, EV.b_listl, EV.t_1, EV.t_2, EV.t_3, EV.t_4, EV.ds_1, EV.ds_2, EV.ds_3, EV.ds_4, EV.l_0, EV.l_1, EV.l_2, EV.l_3, EV.l_4, EV.l_5, EV.l_6, EV.lm_2, EV.i_seq, EV.i_tup, EV.i_lst, EV.i_scr, EV.i_rng, EV.i_rngR, EV.i_rng2, List.set_cons_zero, List.set_cons_succ, List.map_cons, List.map_nil, List.cons_append, List.nil_append, List.replicate, List.length_cons, List.length_nil, List.take_length, decide_eq_true_eq, decide_eq_false_iff_not, okv, okr, oks, Bool.not_true, Bool.not_false, EV.x_t0, EV.x_t1, EV.x_t2, EV.x_l0, EV.x_l1, EV.x_l2, EV.c_20, EV.c_32, EV.isi_int_0, EV.isi_int_1, EV.isi_int_2, EV.isi_int_3, EV.isi_int_4, EV.isi_int_5, EV.isi_int_6, EV.isi_int_7, EV.isi_int_8, EV.isi_bool_0, EV.isi_bool_1, EV.isi_bool_2, EV.isi_bool_3, EV.isi_bool_4, EV.isi_bool_5, EV.isi_bool_6, EV.isi_bool_7, EV.isi_bool_8, EV.isi_str_0, EV.isi_str_1, EV.isi_str_2, EV.isi_str_3, EV.isi_str_4, EV.isi_str_5, EV.isi_str_6, EV.isi_str_7, EV.isi_str_8, EV.isi_none_0, EV.isi_none_1, EV.isi_none_2, EV.isi_none_3, EV.isi_none_4, EV.isi_none_5, EV.isi_none_6, EV.isi_none_7, EV.isi_none_8, EV.isi_tuple_0, EV.isi_tuple_1, EV.isi_tuple_2, EV.isi_tuple_3, EV.isi_tuple_4, EV.isi_tuple_5, EV.isi_tuple_6, EV.isi_tuple_7, EV.isi_tuple_8, EV.isi_list_0, EV.isi_list_1, EV.isi_list_2, EV.isi_list_3, EV.isi_list_4, EV.isi_list_5, EV.isi_list_6, EV.isi_list_7, EV.isi_list_8, EV.f_nm, EV.f_nil, EV.o_eqb, EV.o_neb, EV.o_isn, EV.o_isnn, EV.o_leq0, EV.o_lne0, EV.in_none, EV.in_int, EV.in_bool, EV.in_str, EV.in_tup, EV.in_lst, EV.td_v, SE_nx, SE_rtv, EV.sc_nil, EV.sc_none, EV.sc_v, EV.sc_r, EV.sc_s, EV.sc_x, Bool.not_eq_true', Bool.not_eq_false', EV.goB_a, EV.goB_o, EV.bo_t, EV.bo_l, EV.bo_nil, EV.bo_nm, EV.bo_tt, EV.bo_tl, EV.wipe_nil, EV.wipe_cons, Nat.reduceAdd, Nat.zero_add, Int.cast_ofNat_Int, Int.reduceEq, forall_const, not_true_eq_false, not_false_eq_true, false_implies, implies_true, and_true, true_and, decide_true, decide_false, Bool.false_eq_true, Bool.true_eq_false, eq_self, reduceCtorEq, mul_ok c2 hp.a (by omega)]
  have core : ∀ x y : Int, Sz (n + 3) x → Sz (n + 3) y → sg3 f p = lsgn f x y → mulOk x y = true ∧ (0 ≤ x * y → I ((if 0 < x + y then 1 else 0) - if x + y < 0 then 1 else 0) = I (sg3 f p)) ∧
      (¬0 ≤ x * y → mulOk x x = true ∧ mulOk f y = true ∧ mulOk (f * y) y = true ∧ (0 < x → I ((if 0 < x * x - f * y * y then 1 else 0) - if x * x - f * y * y < 0 then 1 else 0) = I (sg3 f p)) ∧
        (¬0 < x → I ((if x * x - f * y * y < 0 then 1 else 0) - if 0 < x * x - f * y * y then 1 else 0) = I (sg3 f p))) := fun x y hx hy e => by
    refine ⟨mul_ok hx hy (by omega), fun h => ?_, fun h => ⟨mul_ok hx hx (by omega), mul_ok (kind_sz hf) hy (by omega), mul_ok ((kind_sz hf).mul hy) hy (by omega), fun h2 => ?_, fun h2 => ?_⟩⟩
    · rw [e, lsgn, if_pos h]
    · rw [e, lsgn, if_neg h, if_pos h2]
    · rw [e, lsgn, if_neg h, if_neg h2]
  have e0 : sg3 f p = lsgn f (rt f p).1 (rt f p).2.1 := (fin _ _)
  constructor
  · intro h5
    have e : rt f p = (2 * p.1 + p.2.1, p.2.1, 2 * p.2.2) := if_pos h5
    rw [e] at e0 s
    exact core _ _ s.a s.b e0
  · intro h5
    have e : rt f p = p := if_neg h5
    rw [e] at e0 s
    exact core _ _ s.a s.b e0
/-! ### the deck -/
theorem p64 {Q : R → Sto → Prop} {E : EK} : W (opR .Pow (I 2) (I 64) S) Q E = Q (I 18446744073709551616) S := rfl
theorem p33 {Q : R → Sto → Prop} {E : EK} : W (opR .Pow (I 2) (I 33) S) Q E = Q (I 8589934592) S := rfl
theorem p27 {Q : R → Sto → Prop} {E : EK} : W (opR .Pow (I 2) (I 27) S) Q E = Q (I 134217728) S := rfl
theorem p18 {Q : R → Sto → Prop} {E : EK} : W (opR .Pow (I 10) (I 18) S) Q E = Q (I 1000000000000000000) S := rfl
theorem p9 {Q : R → Sto → Prop} {E : EK} : W (opR .Pow (I 10) (I 9) S) Q E = Q (I 1000000000) S := rfl
theorem p8 {Q : R → Sto → Prop} {E : EK} : W (opR .Pow (I 10) (I 8) S) Q E = Q (I 100000000) S := rfl
theorem fm {a b : Int} (h : 0 < b) : 0 ≤ a.fmod b ∧ a.fmod b < b := ⟨Int.fmod_nonneg_of_pos _ h, Int.fmod_lt_of_pos _ h⟩
theorem e_take {j : Nat} {m : Int} (dk : Deck S j) (h1 : 1 ≤ m) (h2 : Sz 200 m) : ∃ (t : Int) (S' : Sto), callN G wl (k + 1) "_law_take" [.r j, I m] S = .ok (I t) S' ∧ 0 ≤ t ∧ t < m ∧ Deck S' j ∧ Same S S' j := by
  obtain ⟨x, s, hx, hx0, hs0, hs1⟩ := dk.ex
  have hlen : S.length ≤ S.length := Nat.le_refl _
  have key : W (callN G wl (k + 1) "_law_take" [.r j, I m] S) (fun r S' => ∃ t : Int, r = I t ∧ 0 ≤ t ∧ t < m ∧ Deck S' j ∧ Same S S' j) (fun _ _ _ => False) := by
    rw [w_fun lk__law_take rfl]
    have m0 : m ≠ 0 := by omega
    have dm : ∀ x, divOk x m = true := fun x => div_ok m0 (Nat.lt_of_le_of_lt h2.log (by decide))
    have d33 : ∀ x, divOk x 8589934592 = true := fun x => div_ok (by decide) (by decide)
    have d27 : ∀ x, divOk x 134217728 = true := fun x => div_ok (by decide) (by decide)
    simp only [d__law_take, EV.w_loc, EV.w_at0, EV.w_atS, EV.w_lit, EV.w_op, EV.w_neg, EV.w_negR, EV.w_not, EV.w_cmp, EV.w_ite, EV.w_evT, EV.w_tup, EV.w_lst, EV.w_ix, EV.w_bi, EV.w_isi, EV.w_rev, EV.w_bop, EV.w_b1, EV.w_b2, EV.w_fld, EV.w_fldR, EV.w_call, EV.w_mth, EV.w_enil, EV.w_econs, EV.w_ono, EV.w_oso, EV.w_intO, EV.w_slc, EV.w_cno, EV.w_cso, EV.w_dix, EV.o_add, EV.o_sub, EV.o_mul, EV.o_div, EV.o_mod, EV.o_lt, EV.o_le, EV.o_gt, EV.o_ge, EV.o_eq, EV.o_ne, EV.o_tb, EV.o_ti, W_ok, W_ex, WS_ok, WS_ex, EV.s_nil, EV.s_cons, EV.s_asgN, EV.s_asgT, EV.s_par2, EV.s_par3, EV.s_set, EV.s_ex, EV.s_iff, EV.s_for, EV.s_wh, EV.s_ret, EV.s_retN, EV.s_rai, EV.rai_v, EV.s_try, EV.s_hnil, EV.s_pas, EV.s_brk, EV.s_cnt, NX_nx, NX_rt, NX_bk, NX_ct, JN_nx, JN_rt, JN_bk, JN_ct, TN_nx, TN_rt, TN_bk, TN_ct, RQ_nx, RQ_rt, EV.gc_v, EV.b_gcd, EV.b_abs, EV.b_max, EV.b_min, EV.b_int, EV.b_intb, EV.b_lens, EV.b_lent, EV.b_lenl, EV.b_isqrt, EV.b_listt, EV.b_listl, EV.t_1, EV.t_2, EV.t_3, EV.t_4, EV.ds_1, EV.ds_2, EV.ds_3, EV.ds_4, EV.l_0, EV.l_1, EV.l_2, EV.l_3, EV.l_4, EV.l_5, EV.l_6, EV.lm_2, EV.i_seq, EV.i_tup, EV.i_lst, EV.i_scr, EV.i_rng, EV.i_rngR, EV.i_rng2, List.set_cons_zero, List.set_cons_succ, List.map_cons, List.map_nil, List.cons_append, List.nil_append, List.replicate, List.length_cons, List.length_nil, List.take_length, decide_eq_true_eq, decide_eq_false_iff_not, okv, okr, oks, Bool.not_true, Bool.not_false, EV.x_t0, EV.x_t1, EV.x_t2, EV.x_l0, EV.x_l1, EV.x_l2, EV.c_20, EV.c_32, EV.isi_int_0, EV.isi_int_1, EV.isi_int_2, EV.isi_int_3, EV.isi_int_4, EV.isi_int_5, EV.isi_int_6, EV.isi_int_7, EV.isi_int_8, EV.isi_bool_0, EV.isi_bool_1, EV.isi_bool_2, EV.isi_bool_3, EV.isi_bool_4, EV.isi_bool_5, EV.isi_bool_6, EV.isi_bool_7, EV.isi_bool_8, EV.isi_str_0, EV.isi_str_1, EV.isi_str_2, EV.isi_str_3, EV.isi_str_4, EV.isi_str_5, EV.isi_str_6, EV.isi_str_7, EV.isi_str_8, EV.isi_none_0, EV.isi_none_1, EV.isi_none_2, EV.isi_none_3, EV.isi_none_4, EV.isi_none_5, EV.isi_none_6, EV.isi_none_7, EV.isi_none_8, EV.isi_tuple_0, EV.isi_tuple_1, EV.isi_tuple_2, EV.isi_tuple_3, EV.isi_tuple_4, EV.isi_tuple_5, EV.isi_tuple_6, EV.isi_tuple_7, EV.isi_tuple_8, EV.isi_list_0, EV.isi_list_1, EV.isi_list_2, EV.isi_list_3, EV.isi_list_4, EV.isi_list_5, EV.isi_list_6, EV.isi_list_7, EV.isi_list_8, EV.f_nm, EV.f_nil, EV.o_eqb, EV.o_neb, EV.o_isn, EV.o_isnn, EV.o_leq0, EV.o_lne0, EV.in_none, EV.in_int, EV.in_bool, EV.in_str, EV.in_tup, EV.in_lst, EV.td_v, SE_nx, SE_rtv, EV.sc_nil, EV.sc_none, EV.sc_v, EV.sc_r, EV.sc_s, EV.sc_x, Bool.not_eq_true', Bool.not_eq_false', EV.goB_a, EV.goB_o, EV.bo_t, EV.bo_l, EV.bo_nil, EV.bo_nm, EV.bo_tt, EV.bo_tl, EV.wipe_nil, EV.wipe_cons, Nat.reduceAdd, Nat.zero_add, Int.cast_ofNat_Int, Int.reduceEq, forall_const, not_true_eq_false, not_false_eq_true, false_implies, implies_true, and_true, true_and, decide_true, decide_false, Bool.false_eq_true, Bool.true_eq_false, eq_self, reduceCtorEq, r_0 hx, st_0 hx, r_1 hx, st_1 hx, p64, p33, p27, dm, d33, d27]
    constructor
    · intro z
      refine ⟨m0, x.fmod m, rfl, (fm (by omega)).1, (fm (by omega)).2, ?_⟩
      have e : (S.set j (some [.int (x.fdiv m), .int s])).take S.length = S.set j (some [.int (x.fdiv m), .int s]) := List.take_of_length_le (by simp)
      rw [e]
      exact ⟨⟨x.fdiv m, s, set_at hx _, Int.fdiv_nonneg (by omega) (by omega), hs0, hs1⟩, .set⟩
    · intro z
      have ss : Sz 64 s := by
        unfold Sz
        omega
      refine ⟨mul_ok ss (Sz.const (p := 64) (by decide)) (by decide), by decide, ?_⟩
      generalize hs' : (s * 6364136223846793005 + 1442695040888963407).fmod 18446744073709551616 = s'
      have b := fm (a := s * 6364136223846793005 + 1442695040888963407) (b := 18446744073709551616) (by decide)
      rw [hs'] at b
      have hx' := set_at hx [.int x, .int s']
      simp only [r_1 hx', EV.w_loc, EV.w_at0, EV.w_atS, EV.w_lit, EV.w_op, EV.w_neg, EV.w_negR, EV.w_not, EV.w_cmp, EV.w_ite, EV.w_evT, EV.w_tup, EV.w_lst, EV.w_ix, EV.w_bi, EV.w_isi, EV.w_rev, EV.w_bop, EV.w_b1, EV.w_b2, EV.w_fld, EV.w_fldR, EV.w_call, EV.w_mth, EV.w_enil, EV.w_econs, EV.w_ono, EV.w_oso, EV.w_intO, EV.w_slc, EV.w_cno, EV.w_cso, EV.w_dix, EV.o_add, EV.o_sub, EV.o_mul, EV.o_div, EV.o_mod, EV.o_lt, EV.o_le, EV.o_gt, EV.o_ge, EV.o_eq, EV.o_ne, EV.o_tb, EV.o_ti, W_ok, W_ex, WS_ok, WS_ex, EV.s_nil, EV.s_cons, EV.s_asgN, EV.s_asgT, EV.s_par2, EV.s_par3, EV.s_set, EV.s_ex, EV.s_iff, EV.s_for, EV.s_wh, EV.s_ret, EV.s_retN, EV.s_rai, EV.rai_v, EV.s_try, EV.s_hnil, EV.s_pas, EV.s_brk, EV.s_cnt, NX_nx, NX_rt, NX_bk, NX_ct, JN_nx, JN_rt, JN_bk, JN_ct, TN_nx, TN_rt, TN_bk, TN_ct, RQ_nx, RQ_rt, EV.gc_v, EV.b_gcd, EV.b_abs, EV.b_max, EV.b_min, EV.b_int, EV.b_intb, EV.b_lens, EV.b_lent, EV.b_lenl, EV.b_isqrt, EV.b_listt, EV.b_listl, EV.t_1, EV.t_2, EV.t_3, EV.t_4, EV.ds_1, EV.ds_2, EV.ds_3, EV.ds_4, EV.l_0, EV.l_1, EV.l_2, EV.l_3, EV.l_4, EV.l_5, EV.l_6, EV.lm_2, EV.i_seq, EV.i_tup, EV.i_lst, EV.i_scr, EV.i_rng, EV.i_rngR, EV.i_rng2, List.set_cons_zero, List.set_cons_succ, List.map_cons, List.map_nil, List.cons_append, List.nil_append, List.replicate, List.length_cons, List.length_nil, List.take_length, decide_eq_true_eq, decide_eq_false_iff_not, okv, okr, oks, Bool.not_true, Bool.not_false, EV.x_t0, EV.x_t1, EV.x_t2, EV.x_l0, EV.x_l1, EV.x_l2, EV.c_20, EV.c_32, EV.isi_int_0, EV.isi_int_1, EV.isi_int_2, EV.isi_int_3, EV.isi_int_4, EV.isi_int_5, EV.isi_int_6, EV.isi_int_7, EV.isi_int_8, EV.isi_bool_0, EV.isi_bool_1, EV.isi_bool_2, EV.isi_bool_3, EV.isi_bool_4, EV.isi_bool_5, EV.isi_bool_6, EV.isi_bool_7, EV.isi_bool_8, EV.isi_str_0, EV.isi_str_1, EV.isi_str_2, EV.isi_str_3, EV.isi_str_4, EV.isi_str_5, EV.isi_str_6, EV.isi_str_7, EV.isi_str_8, EV.isi_none_0, EV.isi_none_1, EV.isi_none_2, EV.isi_none_3, EV.isi_none_4, EV.isi_none_5, EV.isi_none_6, EV.isi_none_7, EV.isi_none_8, EV.isi_tuple_0, EV.isi_tuple_1, EV.isi_tuple_2, EV.isi_tuple_3, EV.isi_tuple_4, EV.isi_tuple_5, EV.isi_tuple_6, EV.isi_tuple_7, EV.isi_tuple_8, EV.isi_list_0, EV.isi_list_1, EV.isi_list_2, EV.isi_list_3, EV.isi_list_4, EV.isi_list_5, EV.isi_list_6, EV.isi_list_7, EV.isi_list_8, EV.f_nm, EV.f_nil, EV.o_eqb, EV.o_neb, EV.o_isn, EV.o_isnn, EV.o_leq0, EV.o_lne0, EV.in_none, EV.in_int, EV.in_bool, EV.in_str, EV.in_tup, EV.in_lst, EV.td_v, SE_nx, SE_rtv, EV.sc_nil, EV.sc_none, EV.sc_v, EV.sc_r, EV.sc_s, EV.sc_x, Bool.not_eq_true', Bool.not_eq_false', EV.goB_a, EV.goB_o, EV.bo_t, EV.bo_l, EV.bo_nil, EV.bo_nm, EV.bo_tt, EV.bo_tl, EV.wipe_nil, EV.wipe_cons, Nat.reduceAdd, Nat.zero_add, Int.cast_ofNat_Int, Int.reduceEq, forall_const, not_true_eq_false, not_false_eq_true, false_implies, implies_true, and_true, true_and, decide_true, decide_false, Bool.false_eq_true, Bool.true_eq_false, eq_self, reduceCtorEq, p33, p27, d33, d27]
      refine ⟨m0, _, rfl, (fm (by omega)).1, (fm (by omega)).2, ?_⟩
      have e : (S.set j (some [.int x, .int s'])).take S.length = S.set j (some [.int x, .int s']) := List.take_of_length_le (by simp)
      rw [e]
      exact ⟨⟨x, s', hx', hx0, b.1, b.2⟩, .set⟩
  obtain ⟨r, S', e, t, rfl, q⟩ := W_get key
  exact ⟨t, S', e, q⟩
theorem w_take {j : Nat} {m : Int} {Q : R → Sto → Prop} {E : EK} (dk : Deck S j) (h1 : 1 ≤ m) (h2 : Sz 200 m) (hQ : ∀ (t : Int) (S' : Sto), 0 ≤ t → t < m → Deck S' j → Same S S' j → Q (I t) S') : W (callN G wl (k + 1) "_law_take" [.r j, I m] S) Q E := by
  obtain ⟨t, S', e, q1, q2, q3, q4⟩ := e_take (wl := wl) (k := k) dk h1 h2
  rw [e]
  exact hQ t S' q1 q2 q3 q4
theorem e_deck {ns : List Int} {at' : Int} (h0 : 0 ≤ at') (h1 : at' < 100) : ∃ l, callN G wl (k + 1) "_law_deck" [.s ns, I at'] S = .ok (.r S.length) (S ++ [some l]) ∧ Deck (S ++ [some l]) S.length := by
  have at_app : ∀ l : List D, (S ++ [some l])[S.length]? = some (some l) := fun l => by
    rw [List.getElem?_append_right (Nat.le_refl _)]
    simp
  have gc : ∀ (l : List D) {Q : R → Sto → Prop} {E : EK}, W (gcR true S.length (.r S.length) (S ++ [some l])) Q E = Q (.r S.length) (S ++ [some l]) := fun l {Q E} => by
    unfold gcR
    simp only [Nat.lt_irrefl, if_false, at_app, if_true, List.take_left', List.take_left]
    rfl
  have key : W (callN G wl (k + 1) "_law_deck" [.s ns, I at'] S) (fun r S' => ∃ x s : Int, (r = .r S.length ∧ S' = S ++ [some [.int x, .int s]]) ∧ 0 ≤ x ∧ 0 ≤ s ∧ s < 2 ^ 64) (fun _ _ _ => False) := by
    rw [w_fun lk__law_deck rfl]
    have rest : ∀ (cell : Int), WS (evSs G (callN G wl k) wl (.cons (.asg (.nm 3) (.op .Mod (.bi "int" (.cons (.op .Add (.op .Add (.loc 2) (.op .Mult (.lit (.int 7919)) (.loc 1))) (.lit (.int 104729))) (.nil))) (.lit (.int 2305843009213693951)))) (.cons (.asg (.nm 3) (.op .Mod (.bi "int" (.cons (.op .Add (.op .Add (.op .Mult (.op .Mult (.loc 3) (.loc 3)) (.loc 3)) (.op .Mult (.lit (.int 31)) (.loc 1))) (.lit (.int 7))) (.nil))) (.lit (.int 2305843009213693951)))) (.cons (.iff (.cmp .Lt (.loc 2) (.op .Pow (.lit (.int 10)) (.lit (.int 18)))) (.cons (.ret (.lst true (.cons (.lit (.int 0)) (.cons (.loc 3) (.nil))))) (.nil)) (.nil)) (.cons (.ret (.lst true (.cons (.op .Sub (.loc 2) (.op .Pow (.lit (.int 10)) (.lit (.int 18)))) (.cons (.loc 3) (.nil))))) (.nil))))) [some (.s ns), some (I at'), some (I cell), none] S)
        (RQ true S.length (fun r S' => ∃ x s : Int, (r = .r S.length ∧ S' = S ++ [some [.int x, .int s]]) ∧ 0 ≤ x ∧ 0 ≤ s ∧ s < 2 ^ 64) (fun _ _ _ => False)) (fun _ _ _ _ => False) := fun cell => by
      simp only [EV.w_loc, EV.w_at0, EV.w_atS, EV.w_lit, EV.w_op, EV.w_neg, EV.w_negR, EV.w_not, EV.w_cmp, EV.w_ite, EV.w_evT, EV.w_tup, EV.w_lst, EV.w_ix, EV.w_bi, EV.w_isi, EV.w_rev, EV.w_bop, EV.w_b1, EV.w_b2, EV.w_fld, EV.w_fldR, EV.w_call, EV.w_mth, EV.w_enil, EV.w_econs, EV.w_ono, EV.w_oso, EV.w_intO, EV.w_slc, EV.w_cno, EV.w_cso, EV.w_dix, EV.o_add, EV.o_sub, EV.o_mul, EV.o_div, EV.o_mod, EV.o_lt, EV.o_le, EV.o_gt, EV.o_ge, EV.o_eq, EV.o_ne, EV.o_tb, EV.o_ti, W_ok, W_ex, WS_ok, WS_ex, EV.s_nil, EV.s_cons, EV.s_asgN, EV.s_asgT, EV.s_par2, EV.s_par3, EV.s_set, EV.s_ex, EV.s_iff, EV.s_for, EV.s_wh, EV.s_ret, EV.s_retN, EV.s_rai, EV.rai_v, EV.s_try, EV.s_hnil, EV.s_pas, EV.s_brk, EV.s_cnt, NX_nx, NX_rt, NX_bk, NX_ct, JN_nx, JN_rt, JN_bk, JN_ct, TN_nx, TN_rt, TN_bk, TN_ct, RQ_nx, RQ_rt, EV.gc_v, EV.b_gcd, EV.b_abs, EV.b_max, EV.b_min, EV.b_int, EV.b_intb, EV.b_lens, EV.b_lent, EV.b_lenl, EV.b_isqrt, EV.b_listt, EV.b_listl, EV.t_1, EV.t_2, EV.t_3, EV.t_4, EV.ds_1, EV.ds_2, EV.ds_3, EV.ds_4, EV.l_0, EV.l_1, EV.l_2, EV.l_3, EV.l_4, EV.l_5, EV.l_6, EV.lm_2, EV.i_seq, EV.i_tup, EV.i_lst, EV.i_scr, EV.i_rng, EV.i_rngR, EV.i_rng2, List.set_cons_zero, List.set_cons_succ, List.map_cons, List.map_nil, List.cons_append, List.nil_append, List.replicate, List.length_cons, List.length_nil, List.take_length, decide_eq_true_eq, decide_eq_false_iff_not, okv, okr, oks, Bool.not_true, Bool.not_false, EV.x_t0, EV.x_t1, EV.x_t2, EV.x_l0, EV.x_l1, EV.x_l2, EV.c_20, EV.c_32, EV.isi_int_0, EV.isi_int_1, EV.isi_int_2, EV.isi_int_3, EV.isi_int_4, EV.isi_int_5, EV.isi_int_6, EV.isi_int_7, EV.isi_int_8, EV.isi_bool_0, EV.isi_bool_1, EV.isi_bool_2, EV.isi_bool_3, EV.isi_bool_4, EV.isi_bool_5, EV.isi_bool_6, EV.isi_bool_7, EV.isi_bool_8, EV.isi_str_0, EV.isi_str_1, EV.isi_str_2, EV.isi_str_3, EV.isi_str_4, EV.isi_str_5, EV.isi_str_6, EV.isi_str_7, EV.isi_str_8, EV.isi_none_0, EV.isi_none_1, EV.isi_none_2, EV.isi_none_3, EV.isi_none_4, EV.isi_none_5, EV.isi_none_6, EV.isi_none_7, EV.isi_none_8, EV.isi_tuple_0, EV.isi_tuple_1, EV.isi_tuple_2, EV.isi_tuple_3, EV.isi_tuple_4, EV.isi_tuple_5, EV.isi_tuple_6, EV.isi_tuple_7, EV.isi_tuple_8, EV.isi_list_0, EV.isi_list_1, EV.isi_list_2, EV.isi_list_3, EV.isi_list_4, EV.isi_list_5, EV.isi_list_6, EV.isi_list_7, EV.isi_list_8, EV.f_nm, EV.f_nil, EV.o_eqb, EV.o_neb, EV.o_isn, EV.o_isnn, EV.o_leq0, EV.o_lne0, EV.in_none, EV.in_int, EV.in_bool, EV.in_str, EV.in_tup, EV.in_lst, EV.td_v, SE_nx, SE_rtv, EV.sc_nil, EV.sc_none, EV.sc_v, EV.sc_r, EV.sc_s, EV.sc_x, Bool.not_eq_true', Bool.not_eq_false', EV.goB_a, EV.goB_o, EV.bo_t, EV.bo_l, EV.bo_nil, EV.bo_nm, EV.bo_tt, EV.bo_tl, EV.wipe_nil, EV.wipe_cons, Nat.reduceAdd, Nat.zero_add, Int.cast_ofNat_Int, Int.reduceEq, forall_const, not_true_eq_false, not_false_eq_true, false_implies, implies_true, and_true, true_and, decide_true, decide_false, Bool.false_eq_true, Bool.true_eq_false, eq_self, reduceCtorEq, p18]
      generalize h1' : (cell + 7919 * at' + 104729).fmod 2305843009213693951 = s1
      have b1 := fm (a := cell + 7919 * at' + 104729) (b := 2305843009213693951) (by decide)
      rw [h1'] at b1
      have z1 : Sz 61 s1 := by
        unfold Sz
        omega
      have za : Sz 7 at' := by
        unfold Sz
        omega
      have z3 : Sz (61 + 61) (s1 * s1) := z1.mul z1
      refine ⟨mul_ok (Sz.const (p := 13) (by decide)) za (by decide), by decide, mul_ok z1 z1 (by decide), mul_ok z3 z1 (by decide), mul_ok (Sz.const (p := 5) (by decide)) za (by decide), by decide, ?_⟩
      generalize h2' : (s1 * s1 * s1 + 31 * at' + 7).fmod 2305843009213693951 = s2
      have b2 := fm (a := s1 * s1 * s1 + 31 * at' + 7) (b := 2305843009213693951) (by decide)
      rw [h2'] at b2
      constructor
      · intro hc
        rw [gc]
        exact ⟨0, s2, ⟨rfl, rfl⟩, by omega, b2.1, by omega⟩
      · intro hc
        rw [gc]
        exact ⟨_, s2, ⟨rfl, rfl⟩, by omega, b2.1, by omega⟩
    by_cases hl : at' < ns.length
    · obtain ⟨c, hc⟩ : ∃ c, atI ns at' = some c := by
        unfold atI L2.ixN
        rw [if_pos h0, if_pos hl, Option.bind_some, List.getElem?_eq_getElem (by omega)]
        exact ⟨_, rfl⟩
      have := rest c
      simp only [d__law_deck, List.map_cons, List.map_nil, List.length_cons, List.length_nil, s_cons, s_asgN, s_iff, w_evT, w_cmp, w_loc, w_at0, w_atS, w_lit, EV.w_bi, w_econs, w_enil, b_lens, o_lt, o_tb, NX_nx, List.cons_append, List.nil_append, List.replicate, List.set_cons_zero, List.set_cons_succ, w_ix, x_s hc, s_nil, hl, decide_true, forall_const] at this ⊢
      refine ⟨this, (fun z => by cases z)⟩
    · have := rest 0
      simp only [d__law_deck, List.map_cons, List.map_nil, List.length_cons, List.length_nil, s_cons, s_asgN, s_iff, w_evT, w_cmp, w_loc, w_at0, w_atS, w_lit, EV.w_bi, w_econs, w_enil, b_lens, o_lt, o_tb, NX_nx, List.cons_append, List.nil_append, List.replicate, List.set_cons_zero, List.set_cons_succ, s_nil, hl, decide_false, forall_const] at this ⊢
      refine ⟨(fun z => by cases z), this⟩
  obtain ⟨r, S', e, x, s, ⟨rfl, rfl⟩, q1, q2, q3⟩ := W_get key
  exact ⟨_, e, ⟨x, s, at_app _, q1, q2, q3⟩⟩
/-! ### the law's draws -/
theorem w_number (hw : Wl wl) {j : Nat} {Q : R → Sto → Prop} {E : EK} (dk : Deck S j) (hQ : ∀ (p : Int × Int × Int) (S' : Sto), IsLow p → Sn 20 20 p → Deck S' j → Same S S' j → Q (.v (T3 p)) S') : W (callN G wl (k + 3) "_law_number" [.r j] S) Q E := by
  have s20 : ∀ {a : Int}, -100000 ≤ a ∧ a ≤ 100000 → Sz 20 a := fun {a} h => szb (b := 100000) (by omega) (by decide)
  rw [w_fun lk__law_number rfl]
  simp only [d__law_number, EV.w_loc, EV.w_at0, EV.w_atS, EV.w_lit, EV.w_op, EV.w_neg, EV.w_negR, EV.w_not, EV.w_cmp, EV.w_ite, EV.w_evT, EV.w_tup, EV.w_lst, EV.w_ix, EV.w_bi, EV.w_isi, EV.w_rev, EV.w_bop, EV.w_b1, EV.w_b2, EV.w_fld, EV.w_fldR, EV.w_call, EV.w_mth, EV.w_enil, EV.w_econs, EV.w_ono, EV.w_oso, EV.w_intO, EV.w_slc, EV.w_cno, EV.w_cso, EV.w_dix, EV.o_add, EV.o_sub, EV.o_mul, EV.o_div, EV.o_mod, EV.o_lt, EV.o_le, EV.o_gt, EV.o_ge, EV.o_eq, EV.o_ne, EV.o_tb, EV.o_ti, W_ok, W_ex, WS_ok, WS_ex, EV.s_nil, EV.s_cons, EV.s_asgN, EV.s_asgT, EV.s_par2, EV.s_par3, EV.s_set, EV.s_ex, EV.s_iff, EV.s_for, EV.s_wh, EV.s_ret, EV.s_retN, EV.s_rai, EV.rai_v, EV.s_try, EV.s_hnil, EV.s_pas, EV.s_brk, EV.s_cnt, NX_nx, NX_rt, NX_bk, NX_ct, JN_nx, JN_rt, JN_bk, JN_ct, TN_nx, TN_rt, TN_bk, TN_ct, RQ_nx, RQ_rt, EV.gc_v, EV.b_gcd, EV.b_abs, EV.b_max, EV.b_min, EV.b_int, EV.b_intb, EV.b_lens, EV.b_lent, EV.b_lenl, EV.b_isqrt, EV.b_listt, EV.b_listl, EV.t_1, EV.t_2, EV.t_3, EV.t_4, EV.ds_1, EV.ds_2, EV.ds_3, EV.ds_4, EV.l_0, EV.l_1, EV.l_2, EV.l_3, EV.l_4, EV.l_5, EV.l_6, EV.lm_2, EV.i_seq, EV.i_tup, EV.i_lst, EV.i_scr, EV.i_rng, EV.i_rngR, EV.i_rng2, List.set_cons_zero, List.set_cons_succ, List.map_cons, List.map_nil, List.cons_append, List.nil_append, List.replicate, List.length_cons, List.length_nil, List.take_length, decide_eq_true_eq, decide_eq_false_iff_not, okv, okr, oks, Bool.not_true, Bool.not_false, EV.x_t0, EV.x_t1, EV.x_t2, EV.x_l0, EV.x_l1, EV.x_l2, EV.c_20, EV.c_32, EV.isi_int_0, EV.isi_int_1, EV.isi_int_2, EV.isi_int_3, EV.isi_int_4, EV.isi_int_5, EV.isi_int_6, EV.isi_int_7, EV.isi_int_8, EV.isi_bool_0, EV.isi_bool_1, EV.isi_bool_2, EV.isi_bool_3, EV.isi_bool_4, EV.isi_bool_5, EV.isi_bool_6, EV.isi_bool_7, EV.isi_bool_8, EV.isi_str_0, EV.isi_str_1, EV.isi_str_2, EV.isi_str_3, EV.isi_str_4, EV.isi_str_5, EV.isi_str_6, EV.isi_str_7, EV.isi_str_8, EV.isi_none_0, EV.isi_none_1, EV.isi_none_2, EV.isi_none_3, EV.isi_none_4, EV.isi_none_5, EV.isi_none_6, EV.isi_none_7, EV.isi_none_8, EV.isi_tuple_0, EV.isi_tuple_1, EV.isi_tuple_2, EV.isi_tuple_3, EV.isi_tuple_4, EV.isi_tuple_5, EV.isi_tuple_6, EV.isi_tuple_7, EV.isi_tuple_8, EV.isi_list_0, EV.isi_list_1, EV.isi_list_2, EV.isi_list_3, EV.isi_list_4, EV.isi_list_5, EV.isi_list_6, EV.isi_list_7, EV.isi_list_8, EV.f_nm, EV.f_nil, EV.o_eqb, EV.o_neb, EV.o_isn, EV.o_isnn, EV.o_leq0, EV.o_lne0, EV.in_none, EV.in_int, EV.in_bool, EV.in_str, EV.in_tup, EV.in_lst, EV.td_v, SE_nx, SE_rtv, EV.sc_nil, EV.sc_none, EV.sc_v, EV.sc_r, EV.sc_s, EV.sc_x, Bool.not_eq_true', Bool.not_eq_false', EV.goB_a, EV.goB_o, EV.bo_t, EV.bo_l, EV.bo_nil, EV.bo_nm, EV.bo_tt, EV.bo_tl, EV.wipe_nil, EV.wipe_cons, Nat.reduceAdd, Nat.zero_add, Int.cast_ofNat_Int, Int.reduceEq, forall_const, not_true_eq_false, not_false_eq_true, false_implies, implies_true, and_true, true_and, decide_true, decide_false, Bool.false_eq_true, Bool.true_eq_false, eq_self, reduceCtorEq, c_is_integer_0, c_lowest_0, c_is_lowest_0, c_sum_of_two_0, c_opposite_0, c_difference_0, c_times_integer_0, c_rooted_0, c_sign_of_0, c_order_0, c_floor_of_number_0, c_check_kind_0, c_check_number_0, c_check_count_0, c_is_number_0, c_sign_0, c_sign_1, c_compared_0, c_compared_1, c_floor_of_0, c_floor_of_1, c_about_0, c_about_1, c_unit_0, c_unit_1, c_stretch_unit_0, c_stretch_unit_1, c__law_deck_0, c__law_take_0, c__law_gcd_0, c__law_num_0, c__law_plus_0, c__law_minus_0, c__law_times_0, c__law_sign_0, c__law_same_0, c__law_number_0, c__law_near_0, c__law_drawn_0, c__law_is_floor_0, c__law_right_0, c__law_units_0]
  refine w_take dk (by decide) (Sz.const (by decide)) fun t S1 t0 t1 dk1 sm1 => ?_
  (try simp only [EV.w_loc, EV.w_at0, EV.w_atS, EV.w_lit, EV.w_op, EV.w_neg, EV.w_negR, EV.w_not, EV.w_cmp, EV.w_ite, EV.w_evT, EV.w_tup, EV.w_lst, EV.w_ix, EV.w_bi, EV.w_isi, EV.w_rev, EV.w_bop, EV.w_b1, EV.w_b2, EV.w_fld, EV.w_fldR, EV.w_call, EV.w_mth, EV.w_enil, EV.w_econs, EV.w_ono, EV.w_oso, EV.w_intO, EV.w_slc, EV.w_cno, EV.w_cso, EV.w_dix, EV.o_add, EV.o_sub, EV.o_mul, EV.o_div, EV.o_mod, EV.o_lt, EV.o_le, EV.o_gt, EV.o_ge, EV.o_eq, EV.o_ne, EV.o_tb, EV.o_ti, W_ok, W_ex, WS_ok, WS_ex, EV.s_nil, EV.s_cons, EV.s_asgN, EV.s_asgT, EV.s_par2, EV.s_par3, EV.s_set, EV.s_ex, EV.s_iff, EV.s_for, EV.s_wh, EV.s_ret, EV.s_retN, EV.s_rai, EV.rai_v, EV.s_try, EV.s_hnil, EV.s_pas, EV.s_brk, EV.s_cnt, NX_nx, NX_rt, NX_bk, NX_ct, JN_nx, JN_rt, JN_bk, JN_ct, TN_nx, TN_rt, TN_bk, TN_ct, RQ_nx, RQ_rt, EV.gc_v, EV.b_gcd, EV.b_abs, EV.b_max, EV.b_min, EV.b_int, EV.b_intb, EV.b_lens, EV.b_lent, EV.b_lenl, EV.b_isqrt, EV.b_listt, EV.b_listl, EV.t_1, EV.t_2, EV.t_3, EV.t_4, EV.ds_1, EV.ds_2, EV.ds_3, EV.ds_4, EV.l_0, EV.l_1, EV.l_2, EV.l_3, EV.l_4, EV.l_5, EV.l_6, EV.lm_2, EV.i_seq, EV.i_tup, EV.i_lst, EV.i_scr, EV.i_rng, EV.i_rngR, EV.i_rng2, List.set_cons_zero, List.set_cons_succ, List.map_cons, List.map_nil, List.cons_append, List.nil_append, List.replicate, List.length_cons, List.length_nil, List.take_length, decide_eq_true_eq, decide_eq_false_iff_not, okv, okr, oks, Bool.not_true, Bool.not_false, EV.x_t0, EV.x_t1, EV.x_t2, EV.x_l0, EV.x_l1, EV.x_l2, EV.c_20, EV.c_32, EV.isi_int_0, EV.isi_int_1, EV.isi_int_2, EV.isi_int_3, EV.isi_int_4, EV.isi_int_5, EV.isi_int_6, EV.isi_int_7, EV.isi_int_8, EV.isi_bool_0, EV.isi_bool_1, EV.isi_bool_2, EV.isi_bool_3, EV.isi_bool_4, EV.isi_bool_5, EV.isi_bool_6, EV.isi_bool_7, EV.isi_bool_8, EV.isi_str_0, EV.isi_str_1, EV.isi_str_2, EV.isi_str_3, EV.isi_str_4, EV.isi_str_5, EV.isi_str_6, EV.isi_str_7, EV.isi_str_8, EV.isi_none_0, EV.isi_none_1, EV.isi_none_2, EV.isi_none_3, EV.isi_none_4, EV.isi_none_5, EV.isi_none_6, EV.isi_none_7, EV.isi_none_8, EV.isi_tuple_0, EV.isi_tuple_1, EV.isi_tuple_2, EV.isi_tuple_3, EV.isi_tuple_4, EV.isi_tuple_5, EV.isi_tuple_6, EV.isi_tuple_7, EV.isi_tuple_8, EV.isi_list_0, EV.isi_list_1, EV.isi_list_2, EV.isi_list_3, EV.isi_list_4, EV.isi_list_5, EV.isi_list_6, EV.isi_list_7, EV.isi_list_8, EV.f_nm, EV.f_nil, EV.o_eqb, EV.o_neb, EV.o_isn, EV.o_isnn, EV.o_leq0, EV.o_lne0, EV.in_none, EV.in_int, EV.in_bool, EV.in_str, EV.in_tup, EV.in_lst, EV.td_v, SE_nx, SE_rtv, EV.sc_nil, EV.sc_none, EV.sc_v, EV.sc_r, EV.sc_s, EV.sc_x, Bool.not_eq_true', Bool.not_eq_false', EV.goB_a, EV.goB_o, EV.bo_t, EV.bo_l, EV.bo_nil, EV.bo_nm, EV.bo_tt, EV.bo_tl, EV.wipe_nil, EV.wipe_cons, Nat.reduceAdd, Nat.zero_add, Int.cast_ofNat_Int, Int.reduceEq, forall_const, not_true_eq_false, not_false_eq_true, false_implies, implies_true, and_true, true_and, decide_true, decide_false, Bool.false_eq_true, Bool.true_eq_false, eq_self, reduceCtorEq, c_is_integer_0, c_lowest_0, c_is_lowest_0, c_sum_of_two_0, c_opposite_0, c_difference_0, c_times_integer_0, c_rooted_0, c_sign_of_0, c_order_0, c_floor_of_number_0, c_check_kind_0, c_check_number_0, c_check_count_0, c_is_number_0, c_sign_0, c_sign_1, c_compared_0, c_compared_1, c_floor_of_0, c_floor_of_1, c_about_0, c_about_1, c_unit_0, c_unit_1, c_stretch_unit_0, c_stretch_unit_1, c__law_deck_0, c__law_take_0, c__law_gcd_0, c__law_num_0, c__law_plus_0, c__law_minus_0, c__law_times_0, c__law_sign_0, c__law_same_0, c__law_number_0, c__law_near_0, c__law_drawn_0, c__law_is_floor_0, c__law_right_0, c__law_units_0])
  constructor
  · intro z
    refine w_take dk1 (by decide) (Sz.const (by decide)) fun x S2 x0 x1 dk2 sm2 => ?_
    (try simp only [EV.w_loc, EV.w_at0, EV.w_atS, EV.w_lit, EV.w_op, EV.w_neg, EV.w_negR, EV.w_not, EV.w_cmp, EV.w_ite, EV.w_evT, EV.w_tup, EV.w_lst, EV.w_ix, EV.w_bi, EV.w_isi, EV.w_rev, EV.w_bop, EV.w_b1, EV.w_b2, EV.w_fld, EV.w_fldR, EV.w_call, EV.w_mth, EV.w_enil, EV.w_econs, EV.w_ono, EV.w_oso, EV.w_intO, EV.w_slc, EV.w_cno, EV.w_cso, EV.w_dix, EV.o_add, EV.o_sub, EV.o_mul, EV.o_div, EV.o_mod, EV.o_lt, EV.o_le, EV.o_gt, EV.o_ge, EV.o_eq, EV.o_ne, EV.o_tb, EV.o_ti, W_ok, W_ex, WS_ok, WS_ex, EV.s_nil, EV.s_cons, EV.s_asgN, EV.s_asgT, EV.s_par2, EV.s_par3, EV.s_set, EV.s_ex, EV.s_iff, EV.s_for, EV.s_wh, EV.s_ret, EV.s_retN, EV.s_rai, EV.rai_v, EV.s_try, EV.s_hnil, EV.s_pas, EV.s_brk, EV.s_cnt, NX_nx, NX_rt, NX_bk, NX_ct, JN_nx, JN_rt, JN_bk, JN_ct, TN_nx, TN_rt, TN_bk, TN_ct, RQ_nx, RQ_rt, EV.gc_v, EV.b_gcd, EV.b_abs, EV.b_max, EV.b_min, EV.b_int, EV.b_intb, EV.b_lens, EV.b_lent, EV.b_lenl, EV.b_isqrt, EV.b_listt, EV.b_listl, EV.t_1, EV.t_2, EV.t_3, EV.t_4, EV.ds_1, EV.ds_2, EV.ds_3, EV.ds_4, EV.l_0, EV.l_1, EV.l_2, EV.l_3, EV.l_4, EV.l_5, EV.l_6, EV.lm_2, EV.i_seq, EV.i_tup, EV.i_lst, EV.i_scr, EV.i_rng, EV.i_rngR, EV.i_rng2, List.set_cons_zero, List.set_cons_succ, List.map_cons, List.map_nil, List.cons_append, List.nil_append, List.replicate, List.length_cons, List.length_nil, List.take_length, decide_eq_true_eq, decide_eq_false_iff_not, okv, okr, oks, Bool.not_true, Bool.not_false, EV.x_t0, EV.x_t1, EV.x_t2, EV.x_l0, EV.x_l1, EV.x_l2, EV.c_20, EV.c_32, EV.isi_int_0, EV.isi_int_1, EV.isi_int_2, EV.isi_int_3, EV.isi_int_4, EV.isi_int_5, EV.isi_int_6, EV.isi_int_7, EV.isi_int_8, EV.isi_bool_0, EV.isi_bool_1, EV.isi_bool_2, EV.isi_bool_3, EV.isi_bool_4, EV.isi_bool_5, EV.isi_bool_6, EV.isi_bool_7, EV.isi_bool_8, EV.isi_str_0, EV.isi_str_1, EV.isi_str_2, EV.isi_str_3, EV.isi_str_4, EV.isi_str_5, EV.isi_str_6, EV.isi_str_7, EV.isi_str_8, EV.isi_none_0, EV.isi_none_1, EV.isi_none_2, EV.isi_none_3, EV.isi_none_4, EV.isi_none_5, EV.isi_none_6, EV.isi_none_7, EV.isi_none_8, EV.isi_tuple_0, EV.isi_tuple_1, EV.isi_tuple_2, EV.isi_tuple_3, EV.isi_tuple_4, EV.isi_tuple_5, EV.isi_tuple_6, EV.isi_tuple_7, EV.isi_tuple_8, EV.isi_list_0, EV.isi_list_1, EV.isi_list_2, EV.isi_list_3, EV.isi_list_4, EV.isi_list_5, EV.isi_list_6, EV.isi_list_7, EV.isi_list_8, EV.f_nm, EV.f_nil, EV.o_eqb, EV.o_neb, EV.o_isn, EV.o_isnn, EV.o_leq0, EV.o_lne0, EV.in_none, EV.in_int, EV.in_bool, EV.in_str, EV.in_tup, EV.in_lst, EV.td_v, SE_nx, SE_rtv, EV.sc_nil, EV.sc_none, EV.sc_v, EV.sc_r, EV.sc_s, EV.sc_x, Bool.not_eq_true', Bool.not_eq_false', EV.goB_a, EV.goB_o, EV.bo_t, EV.bo_l, EV.bo_nil, EV.bo_nm, EV.bo_tt, EV.bo_tl, EV.wipe_nil, EV.wipe_cons, Nat.reduceAdd, Nat.zero_add, Int.cast_ofNat_Int, Int.reduceEq, forall_const, not_true_eq_false, not_false_eq_true, false_implies, implies_true, and_true, true_and, decide_true, decide_false, Bool.false_eq_true, Bool.true_eq_false, eq_self, reduceCtorEq, c_is_integer_0, c_lowest_0, c_is_lowest_0, c_sum_of_two_0, c_opposite_0, c_difference_0, c_times_integer_0, c_rooted_0, c_sign_of_0, c_order_0, c_floor_of_number_0, c_check_kind_0, c_check_number_0, c_check_count_0, c_is_number_0, c_sign_0, c_sign_1, c_compared_0, c_compared_1, c_floor_of_0, c_floor_of_1, c_about_0, c_about_1, c_unit_0, c_unit_1, c_stretch_unit_0, c_stretch_unit_1, c__law_deck_0, c__law_take_0, c__law_gcd_0, c__law_num_0, c__law_plus_0, c__law_minus_0, c__law_times_0, c__law_sign_0, c__law_same_0, c__law_number_0, c__law_near_0, c__law_drawn_0, c__law_is_floor_0, c__law_right_0, c__law_units_0])
    have sm := sm1.trans sm2
    rw [tk sm]
    exact hQ (x - 4, 0, 1) S2 ⟨Int.one_pos, by simp [gc]⟩ ⟨s20 (by omega), s20 (a := 0) (by decide), s20 (a := 1) (by decide)⟩ dk2 sm
  · intro z
    constructor
    · intro z2
      refine w_take dk1 (by decide) (Sz.const (by decide)) fun x S2 x0 x1 dk2 sm2 => ?_
      (try simp only [EV.w_loc, EV.w_at0, EV.w_atS, EV.w_lit, EV.w_op, EV.w_neg, EV.w_negR, EV.w_not, EV.w_cmp, EV.w_ite, EV.w_evT, EV.w_tup, EV.w_lst, EV.w_ix, EV.w_bi, EV.w_isi, EV.w_rev, EV.w_bop, EV.w_b1, EV.w_b2, EV.w_fld, EV.w_fldR, EV.w_call, EV.w_mth, EV.w_enil, EV.w_econs, EV.w_ono, EV.w_oso, EV.w_intO, EV.w_slc, EV.w_cno, EV.w_cso, EV.w_dix, EV.o_add, EV.o_sub, EV.o_mul, EV.o_div, EV.o_mod, EV.o_lt, EV.o_le, EV.o_gt, EV.o_ge, EV.o_eq, EV.o_ne, EV.o_tb, EV.o_ti, W_ok, W_ex, WS_ok, WS_ex, EV.s_nil, EV.s_cons, EV.s_asgN, EV.s_asgT, EV.s_par2, EV.s_par3, EV.s_set, EV.s_ex, EV.s_iff, EV.s_for, EV.s_wh, EV.s_ret, EV.s_retN, EV.s_rai, EV.rai_v, EV.s_try, EV.s_hnil, EV.s_pas, EV.s_brk, EV.s_cnt, NX_nx, NX_rt, NX_bk, NX_ct, JN_nx, JN_rt, JN_bk, JN_ct, TN_nx, TN_rt, TN_bk, TN_ct, RQ_nx, RQ_rt, EV.gc_v, EV.b_gcd, EV.b_abs, EV.b_max, EV.b_min, EV.b_int, EV.b_intb, EV.b_lens, EV.b_lent, EV.b_lenl, EV.b_isqrt, EV.b_listt, EV.b_listl, EV.t_1, EV.t_2, EV.t_3, EV.t_4, EV.ds_1, EV.ds_2, EV.ds_3, EV.ds_4, EV.l_0, EV.l_1, EV.l_2, EV.l_3, EV.l_4, EV.l_5, EV.l_6, EV.lm_2, EV.i_seq, EV.i_tup, EV.i_lst, EV.i_scr, EV.i_rng, EV.i_rngR, EV.i_rng2, List.set_cons_zero, List.set_cons_succ, List.map_cons, List.map_nil, List.cons_append, List.nil_append, List.replicate, List.length_cons, List.length_nil, List.take_length, decide_eq_true_eq, decide_eq_false_iff_not, okv, okr, oks, Bool.not_true, Bool.not_false, EV.x_t0, EV.x_t1, EV.x_t2, EV.x_l0, EV.x_l1, EV.x_l2, EV.c_20, EV.c_32, EV.isi_int_0, EV.isi_int_1, EV.isi_int_2, EV.isi_int_3, EV.isi_int_4, EV.isi_int_5, EV.isi_int_6, EV.isi_int_7, EV.isi_int_8, EV.isi_bool_0, EV.isi_bool_1, EV.isi_bool_2, EV.isi_bool_3, EV.isi_bool_4, EV.isi_bool_5, EV.isi_bool_6, EV.isi_bool_7, EV.isi_bool_8, EV.isi_str_0, EV.isi_str_1, EV.isi_str_2, EV.isi_str_3, EV.isi_str_4, EV.isi_str_5, EV.isi_str_6, EV.isi_str_7, EV.isi_str_8, EV.isi_none_0, EV.isi_none_1, EV.isi_none_2, EV.isi_none_3, EV.isi_none_4, EV.isi_none_5, EV.isi_none_6, EV.isi_none_7, EV.isi_none_8, EV.isi_tuple_0, EV.isi_tuple_1, EV.isi_tuple_2, EV.isi_tuple_3, EV.isi_tuple_4, EV.isi_tuple_5, EV.isi_tuple_6, EV.isi_tuple_7, EV.isi_tuple_8, EV.isi_list_0, EV.isi_list_1, EV.isi_list_2, EV.isi_list_3, EV.isi_list_4, EV.isi_list_5, EV.isi_list_6, EV.isi_list_7, EV.isi_list_8, EV.f_nm, EV.f_nil, EV.o_eqb, EV.o_neb, EV.o_isn, EV.o_isnn, EV.o_leq0, EV.o_lne0, EV.in_none, EV.in_int, EV.in_bool, EV.in_str, EV.in_tup, EV.in_lst, EV.td_v, SE_nx, SE_rtv, EV.sc_nil, EV.sc_none, EV.sc_v, EV.sc_r, EV.sc_s, EV.sc_x, Bool.not_eq_true', Bool.not_eq_false', EV.goB_a, EV.goB_o, EV.bo_t, EV.bo_l, EV.bo_nil, EV.bo_nm, EV.bo_tt, EV.bo_tl, EV.wipe_nil, EV.wipe_cons, Nat.reduceAdd, Nat.zero_add, Int.cast_ofNat_Int, Int.reduceEq, forall_const, not_true_eq_false, not_false_eq_true, false_implies, implies_true, and_true, true_and, decide_true, decide_false, Bool.false_eq_true, Bool.true_eq_false, eq_self, reduceCtorEq, c_is_integer_0, c_lowest_0, c_is_lowest_0, c_sum_of_two_0, c_opposite_0, c_difference_0, c_times_integer_0, c_rooted_0, c_sign_of_0, c_order_0, c_floor_of_number_0, c_check_kind_0, c_check_number_0, c_check_count_0, c_is_number_0, c_sign_0, c_sign_1, c_compared_0, c_compared_1, c_floor_of_0, c_floor_of_1, c_about_0, c_about_1, c_unit_0, c_unit_1, c_stretch_unit_0, c_stretch_unit_1, c__law_deck_0, c__law_take_0, c__law_gcd_0, c__law_num_0, c__law_plus_0, c__law_minus_0, c__law_times_0, c__law_sign_0, c__law_same_0, c__law_number_0, c__law_near_0, c__law_drawn_0, c__law_is_floor_0, c__law_right_0, c__law_units_0])
      refine w_take dk2 (by decide) (Sz.const (by decide)) fun y S3 y0 y1 dk3 sm3 => ?_
      (try simp only [EV.w_loc, EV.w_at0, EV.w_atS, EV.w_lit, EV.w_op, EV.w_neg, EV.w_negR, EV.w_not, EV.w_cmp, EV.w_ite, EV.w_evT, EV.w_tup, EV.w_lst, EV.w_ix, EV.w_bi, EV.w_isi, EV.w_rev, EV.w_bop, EV.w_b1, EV.w_b2, EV.w_fld, EV.w_fldR, EV.w_call, EV.w_mth, EV.w_enil, EV.w_econs, EV.w_ono, EV.w_oso, EV.w_intO, EV.w_slc, EV.w_cno, EV.w_cso, EV.w_dix, EV.o_add, EV.o_sub, EV.o_mul, EV.o_div, EV.o_mod, EV.o_lt, EV.o_le, EV.o_gt, EV.o_ge, EV.o_eq, EV.o_ne, EV.o_tb, EV.o_ti, W_ok, W_ex, WS_ok, WS_ex, EV.s_nil, EV.s_cons, EV.s_asgN, EV.s_asgT, EV.s_par2, EV.s_par3, EV.s_set, EV.s_ex, EV.s_iff, EV.s_for, EV.s_wh, EV.s_ret, EV.s_retN, EV.s_rai, EV.rai_v, EV.s_try, EV.s_hnil, EV.s_pas, EV.s_brk, EV.s_cnt, NX_nx, NX_rt, NX_bk, NX_ct, JN_nx, JN_rt, JN_bk, JN_ct, TN_nx, TN_rt, TN_bk, TN_ct, RQ_nx, RQ_rt, EV.gc_v, EV.b_gcd, EV.b_abs, EV.b_max, EV.b_min, EV.b_int, EV.b_intb, EV.b_lens, EV.b_lent, EV.b_lenl, EV.b_isqrt, EV.b_listt, EV.b_listl, EV.t_1, EV.t_2, EV.t_3, EV.t_4, EV.ds_1, EV.ds_2, EV.ds_3, EV.ds_4, EV.l_0, EV.l_1, EV.l_2, EV.l_3, EV.l_4, EV.l_5, EV.l_6, EV.lm_2, EV.i_seq, EV.i_tup, EV.i_lst, EV.i_scr, EV.i_rng, EV.i_rngR, EV.i_rng2, List.set_cons_zero, List.set_cons_succ, List.map_cons, List.map_nil, List.cons_append, List.nil_append, List.replicate, List.length_cons, List.length_nil, List.take_length, decide_eq_true_eq, decide_eq_false_iff_not, okv, okr, oks, Bool.not_true, Bool.not_false, EV.x_t0, EV.x_t1, EV.x_t2, EV.x_l0, EV.x_l1, EV.x_l2, EV.c_20, EV.c_32, EV.isi_int_0, EV.isi_int_1, EV.isi_int_2, EV.isi_int_3, EV.isi_int_4, EV.isi_int_5, EV.isi_int_6, EV.isi_int_7, EV.isi_int_8, EV.isi_bool_0, EV.isi_bool_1, EV.isi_bool_2, EV.isi_bool_3, EV.isi_bool_4, EV.isi_bool_5, EV.isi_bool_6, EV.isi_bool_7, EV.isi_bool_8, EV.isi_str_0, EV.isi_str_1, EV.isi_str_2, EV.isi_str_3, EV.isi_str_4, EV.isi_str_5, EV.isi_str_6, EV.isi_str_7, EV.isi_str_8, EV.isi_none_0, EV.isi_none_1, EV.isi_none_2, EV.isi_none_3, EV.isi_none_4, EV.isi_none_5, EV.isi_none_6, EV.isi_none_7, EV.isi_none_8, EV.isi_tuple_0, EV.isi_tuple_1, EV.isi_tuple_2, EV.isi_tuple_3, EV.isi_tuple_4, EV.isi_tuple_5, EV.isi_tuple_6, EV.isi_tuple_7, EV.isi_tuple_8, EV.isi_list_0, EV.isi_list_1, EV.isi_list_2, EV.isi_list_3, EV.isi_list_4, EV.isi_list_5, EV.isi_list_6, EV.isi_list_7, EV.isi_list_8, EV.f_nm, EV.f_nil, EV.o_eqb, EV.o_neb, EV.o_isn, EV.o_isnn, EV.o_leq0, EV.o_lne0, EV.in_none, EV.in_int, EV.in_bool, EV.in_str, EV.in_tup, EV.in_lst, EV.td_v, SE_nx, SE_rtv, EV.sc_nil, EV.sc_none, EV.sc_v, EV.sc_r, EV.sc_s, EV.sc_x, Bool.not_eq_true', Bool.not_eq_false', EV.goB_a, EV.goB_o, EV.bo_t, EV.bo_l, EV.bo_nil, EV.bo_nm, EV.bo_tt, EV.bo_tl, EV.wipe_nil, EV.wipe_cons, Nat.reduceAdd, Nat.zero_add, Int.cast_ofNat_Int, Int.reduceEq, forall_const, not_true_eq_false, not_false_eq_true, false_implies, implies_true, and_true, true_and, decide_true, decide_false, Bool.false_eq_true, Bool.true_eq_false, eq_self, reduceCtorEq, c_is_integer_0, c_lowest_0, c_is_lowest_0, c_sum_of_two_0, c_opposite_0, c_difference_0, c_times_integer_0, c_rooted_0, c_sign_of_0, c_order_0, c_floor_of_number_0, c_check_kind_0, c_check_number_0, c_check_count_0, c_is_number_0, c_sign_0, c_sign_1, c_compared_0, c_compared_1, c_floor_of_0, c_floor_of_1, c_about_0, c_about_1, c_unit_0, c_unit_1, c_stretch_unit_0, c_stretch_unit_1, c__law_deck_0, c__law_take_0, c__law_gcd_0, c__law_num_0, c__law_plus_0, c__law_minus_0, c__law_times_0, c__law_sign_0, c__law_same_0, c__law_number_0, c__law_near_0, c__law_drawn_0, c__law_is_floor_0, c__law_right_0, c__law_units_0])
      refine x_lm (by omega) (by simp only [List.length_cons, List.length_nil]; omega) fun d hd => ?_
      obtain ⟨c, rfl, c1, c2⟩ : ∃ c : Int, d = .int c ∧ 1 ≤ c ∧ c ≤ 12 := by
        simp only [List.mem_cons, List.mem_nil_iff, or_false] at hd
        rcases hd with rfl | rfl | rfl
        · exact ⟨1, rfl, by decide, by decide⟩
        · exact ⟨3, rfl, by decide, by decide⟩
        · exact ⟨12, rfl, by decide, by decide⟩
      (try simp only [EV.w_loc, EV.w_at0, EV.w_atS, EV.w_lit, EV.w_op, EV.w_neg, EV.w_negR, EV.w_not, EV.w_cmp, EV.w_ite, EV.w_evT, EV.w_tup, EV.w_lst, EV.w_ix, EV.w_bi, EV.w_isi, EV.w_rev, EV.w_bop, EV.w_b1, EV.w_b2, EV.w_fld, EV.w_fldR, EV.w_call, EV.w_mth, EV.w_enil, EV.w_econs, EV.w_ono, EV.w_oso, EV.w_intO, EV.w_slc, EV.w_cno, EV.w_cso, EV.w_dix, EV.o_add, EV.o_sub, EV.o_mul, EV.o_div, EV.o_mod, EV.o_lt, EV.o_le, EV.o_gt, EV.o_ge, EV.o_eq, EV.o_ne, EV.o_tb, EV.o_ti, W_ok, W_ex, WS_ok, WS_ex, EV.s_nil, EV.s_cons, EV.s_asgN, EV.s_asgT, EV.s_par2, EV.s_par3, EV.s_set, EV.s_ex, EV.s_iff, EV.s_for, EV.s_wh, EV.s_ret, EV.s_retN, EV.s_rai, EV.rai_v, EV.s_try, EV.s_hnil, EV.s_pas, EV.s_brk, EV.s_cnt, NX_nx, NX_rt, NX_bk, NX_ct, JN_nx, JN_rt, JN_bk, JN_ct, TN_nx, TN_rt, TN_bk, TN_ct, RQ_nx, RQ_rt, EV.gc_v, EV.b_gcd, EV.b_abs, EV.b_max, EV.b_min, EV.b_int, EV.b_intb, EV.b_lens, EV.b_lent, EV.b_lenl, EV.b_isqrt, EV.b_listt, EV.b_listl, EV.t_1, EV.t_2, EV.t_3, EV.t_4, EV.ds_1, EV.ds_2, EV.ds_3, EV.ds_4, EV.l_0, EV.l_1, EV.l_2, EV.l_3, EV.l_4, EV.l_5, EV.l_6, EV.lm_2, EV.i_seq, EV.i_tup, EV.i_lst, EV.i_scr, EV.i_rng, EV.i_rngR, EV.i_rng2, List.set_cons_zero, List.set_cons_succ, List.map_cons, List.map_nil, List.cons_append, List.nil_append, List.replicate, List.length_cons, List.length_nil, List.take_length, decide_eq_true_eq, decide_eq_false_iff_not, okv, okr, oks, Bool.not_true, Bool.not_false, EV.x_t0, EV.x_t1, EV.x_t2, EV.x_l0, EV.x_l1, EV.x_l2, EV.c_20, EV.c_32, EV.isi_int_0, EV.isi_int_1, EV.isi_int_2, EV.isi_int_3, EV.isi_int_4, EV.isi_int_5, EV.isi_int_6, EV.isi_int_7, EV.isi_int_8, EV.isi_bool_0, EV.isi_bool_1, EV.isi_bool_2, EV.isi_bool_3, EV.isi_bool_4, EV.isi_bool_5, EV.isi_bool_6, EV.isi_bool_7, EV.isi_bool_8, EV.isi_str_0, EV.isi_str_1, EV.isi_str_2, EV.isi_str_3, EV.isi_str_4, EV.isi_str_5, EV.isi_str_6, EV.isi_str_7, EV.isi_str_8, EV.isi_none_0, EV.isi_none_1, EV.isi_none_2, EV.isi_none_3, EV.isi_none_4, EV.isi_none_5, EV.isi_none_6, EV.isi_none_7, EV.isi_none_8, EV.isi_tuple_0, EV.isi_tuple_1, EV.isi_tuple_2, EV.isi_tuple_3, EV.isi_tuple_4, EV.isi_tuple_5, EV.isi_tuple_6, EV.isi_tuple_7, EV.isi_tuple_8, EV.isi_list_0, EV.isi_list_1, EV.isi_list_2, EV.isi_list_3, EV.isi_list_4, EV.isi_list_5, EV.isi_list_6, EV.isi_list_7, EV.isi_list_8, EV.f_nm, EV.f_nil, EV.o_eqb, EV.o_neb, EV.o_isn, EV.o_isnn, EV.o_leq0, EV.o_lne0, EV.in_none, EV.in_int, EV.in_bool, EV.in_str, EV.in_tup, EV.in_lst, EV.td_v, SE_nx, SE_rtv, EV.sc_nil, EV.sc_none, EV.sc_v, EV.sc_r, EV.sc_s, EV.sc_x, Bool.not_eq_true', Bool.not_eq_false', EV.goB_a, EV.goB_o, EV.bo_t, EV.bo_l, EV.bo_nil, EV.bo_nm, EV.bo_tt, EV.bo_tl, EV.wipe_nil, EV.wipe_cons, Nat.reduceAdd, Nat.zero_add, Int.cast_ofNat_Int, Int.reduceEq, forall_const, not_true_eq_false, not_false_eq_true, false_implies, implies_true, and_true, true_and, decide_true, decide_false, Bool.false_eq_true, Bool.true_eq_false, eq_self, reduceCtorEq, c_is_integer_0, c_lowest_0, c_is_lowest_0, c_sum_of_two_0, c_opposite_0, c_difference_0, c_times_integer_0, c_rooted_0, c_sign_of_0, c_order_0, c_floor_of_number_0, c_check_kind_0, c_check_number_0, c_check_count_0, c_is_number_0, c_sign_0, c_sign_1, c_compared_0, c_compared_1, c_floor_of_0, c_floor_of_1, c_about_0, c_about_1, c_unit_0, c_unit_1, c_stretch_unit_0, c_stretch_unit_1, c__law_deck_0, c__law_take_0, c__law_gcd_0, c__law_num_0, c__law_plus_0, c__law_minus_0, c__law_times_0, c__law_sign_0, c__law_same_0, c__law_number_0, c__law_near_0, c__law_drawn_0, c__law_is_floor_0, c__law_right_0, c__law_units_0])
      refine w_take dk3 c1 (szb (b := 12) (by omega) (by decide)) fun m S4 m0 m1 dk4 sm4 => ?_
      have n0 : 1 + m ≠ 0 := by omega
      have en : ∀ S, callN G wl (k + 2) "_law_num" [I (x - 4), I (y - 2), I (1 + m)] S = .ok (.v (T3 (low (x - 4) (y - 2) (1 + m)))) S := fun S => e_num hw n0 (szb (n := 20) (b := 100000) (by omega) (by decide)) (szb (n := 20) (b := 100000) (by omega) (by decide)) (by decide) (by decide)
      simp only [EV.w_loc, EV.w_at0, EV.w_atS, EV.w_lit, EV.w_op, EV.w_neg, EV.w_negR, EV.w_not, EV.w_cmp, EV.w_ite, EV.w_evT, EV.w_tup, EV.w_lst, EV.w_ix, EV.w_bi, EV.w_isi, EV.w_rev, EV.w_bop, EV.w_b1, EV.w_b2, EV.w_fld, EV.w_fldR, EV.w_call, EV.w_mth, EV.w_enil, EV.w_econs, EV.w_ono, EV.w_oso, EV.w_intO, EV.w_slc, EV.w_cno, EV.w_cso, EV.w_dix, EV.o_add, EV.o_sub, EV.o_mul, EV.o_div, EV.o_mod, EV.o_lt, EV.o_le, EV.o_gt, EV.o_ge, EV.o_eq, EV.o_ne, EV.o_tb, EV.o_ti, W_ok, W_ex, WS_ok, WS_ex, EV.s_nil, EV.s_cons, EV.s_asgN, EV.s_asgT, EV.s_par2, EV.s_par3, EV.s_set, EV.s_ex, EV.s_iff, EV.s_for, EV.s_wh, EV.s_ret, EV.s_retN, EV.s_rai, EV.rai_v, EV.s_try, EV.s_hnil, EV.s_pas, EV.s_brk, EV.s_cnt, NX_nx, NX_rt, NX_bk, NX_ct, JN_nx, JN_rt, JN_bk, JN_ct, TN_nx, TN_rt, TN_bk, TN_ct, RQ_nx, RQ_rt, EV.gc_v, EV.b_gcd, EV.b_abs, EV.b_max, EV.b_min, EV.b_int, EV.b_intb, EV.b_lens, EV.b_lent, EV.b_lenl, EV.b_isqrt, EV.b_listt, EV.b_listl, EV.t_1, EV.t_2, EV.t_3, EV.t_4, EV.ds_1, EV.ds_2, EV.ds_3, EV.ds_4, EV.l_0, EV.l_1, EV.l_2, EV.l_3, EV.l_4, EV.l_5, EV.l_6, EV.lm_2, EV.i_seq, EV.i_tup, EV.i_lst, EV.i_scr, EV.i_rng, EV.i_rngR, EV.i_rng2, List.set_cons_zero, List.set_cons_succ, List.map_cons, List.map_nil, List.cons_append, List.nil_append, List.replicate, List.length_cons, List.length_nil, List.take_length, decide_eq_true_eq, decide_eq_false_iff_not, okv, okr, oks, Bool.not_true, Bool.not_false, EV.x_t0, EV.x_t1, EV.x_t2, EV.x_l0, EV.x_l1, EV.x_l2, EV.c_20, EV.c_32, EV.isi_int_0, EV.isi_int_1, EV.isi_int_2, EV.isi_int_3, EV.isi_int_4, EV.isi_int_5, EV.isi_int_6, EV.isi_int_7, EV.isi_int_8, EV.isi_bool_0, EV.isi_bool_1, EV.isi_bool_2, EV.isi_bool_3, EV.isi_bool_4, EV.isi_bool_5, EV.isi_bool_6, EV.isi_bool_7, EV.isi_bool_8, EV.isi_str_0, EV.isi_str_1, EV.isi_str_2, EV.isi_str_3, EV.isi_str_4, EV.isi_str_5, EV.isi_str_6, EV.isi_str_7, EV.isi_str_8, EV.isi_none_0, EV.isi_none_1, EV.isi_none_2, EV.isi_none_3, EV.isi_none_4, EV.isi_none_5, EV.isi_none_6, EV.isi_none_7, EV.isi_none_8, EV.isi_tuple_0, EV.isi_tuple_1, EV.isi_tuple_2, EV.isi_tuple_3, EV.isi_tuple_4, EV.isi_tuple_5, EV.isi_tuple_6, EV.isi_tuple_7, EV.isi_tuple_8, EV.isi_list_0, EV.isi_list_1, EV.isi_list_2, EV.isi_list_3, EV.isi_list_4, EV.isi_list_5, EV.isi_list_6, EV.isi_list_7, EV.isi_list_8, EV.f_nm, EV.f_nil, EV.o_eqb, EV.o_neb, EV.o_isn, EV.o_isnn, EV.o_leq0, EV.o_lne0, EV.in_none, EV.in_int, EV.in_bool, EV.in_str, EV.in_tup, EV.in_lst, EV.td_v, SE_nx, SE_rtv, EV.sc_nil, EV.sc_none, EV.sc_v, EV.sc_r, EV.sc_s, EV.sc_x, Bool.not_eq_true', Bool.not_eq_false', EV.goB_a, EV.goB_o, EV.bo_t, EV.bo_l, EV.bo_nil, EV.bo_nm, EV.bo_tt, EV.bo_tl, EV.wipe_nil, EV.wipe_cons, Nat.reduceAdd, Nat.zero_add, Int.cast_ofNat_Int, Int.reduceEq, forall_const, not_true_eq_false, not_false_eq_true, false_implies, implies_true, and_true, true_and, decide_true, decide_false, Bool.false_eq_true, Bool.true_eq_false, eq_self, reduceCtorEq, c_is_integer_0, c_lowest_0, c_is_lowest_0, c_sum_of_two_0, c_opposite_0, c_difference_0, c_times_integer_0, c_rooted_0, c_sign_of_0, c_order_0, c_floor_of_number_0, c_check_kind_0, c_check_number_0, c_check_count_0, c_is_number_0, c_sign_0, c_sign_1, c_compared_0, c_compared_1, c_floor_of_0, c_floor_of_1, c_about_0, c_about_1, c_unit_0, c_unit_1, c_stretch_unit_0, c_stretch_unit_1, c__law_deck_0, c__law_take_0, c__law_gcd_0, c__law_num_0, c__law_plus_0, c__law_minus_0, c__law_times_0, c__law_sign_0, c__law_same_0, c__law_number_0, c__law_near_0, c__law_drawn_0, c__law_is_floor_0, c__law_right_0, c__law_units_0, en]
      have sm := ((sm1.trans sm2).trans sm3).trans sm4
      rw [tk sm]
      exact hQ _ S4 (low_low n0) (low_sn n0 (s20 (by omega)) (s20 (by omega)) (s20 (by omega))) dk4 sm
    · intro z2
      refine w_take dk1 (by decide) (Sz.const (by decide)) fun x S2 x0 x1 dk2 sm2 => ?_
      (try simp only [EV.w_loc, EV.w_at0, EV.w_atS, EV.w_lit, EV.w_op, EV.w_neg, EV.w_negR, EV.w_not, EV.w_cmp, EV.w_ite, EV.w_evT, EV.w_tup, EV.w_lst, EV.w_ix, EV.w_bi, EV.w_isi, EV.w_rev, EV.w_bop, EV.w_b1, EV.w_b2, EV.w_fld, EV.w_fldR, EV.w_call, EV.w_mth, EV.w_enil, EV.w_econs, EV.w_ono, EV.w_oso, EV.w_intO, EV.w_slc, EV.w_cno, EV.w_cso, EV.w_dix, EV.o_add, EV.o_sub, EV.o_mul, EV.o_div, EV.o_mod, EV.o_lt, EV.o_le, EV.o_gt, EV.o_ge, EV.o_eq, EV.o_ne, EV.o_tb, EV.o_ti, W_ok, W_ex, WS_ok, WS_ex, EV.s_nil, EV.s_cons, EV.s_asgN, EV.s_asgT, EV.s_par2, EV.s_par3, EV.s_set, EV.s_ex, EV.s_iff, EV.s_for, EV.s_wh, EV.s_ret, EV.s_retN, EV.s_rai, EV.rai_v, EV.s_try, EV.s_hnil, EV.s_pas, EV.s_brk, EV.s_cnt, NX_nx, NX_rt, NX_bk, NX_ct, JN_nx, JN_rt, JN_bk, JN_ct, TN_nx, TN_rt, TN_bk, TN_ct, RQ_nx, RQ_rt, EV.gc_v, EV.b_gcd, EV.b_abs, EV.b_max, EV.b_min, EV.b_int, EV.b_intb, EV.b_lens, EV.b_lent, EV.b_lenl, EV.b_isqrt, EV.b_listt, EV.b_listl, EV.t_1, EV.t_2, EV.t_3, EV.t_4, EV.ds_1, EV.ds_2, EV.ds_3, EV.ds_4, EV.l_0, EV.l_1, EV.l_2, EV.l_3, EV.l_4, EV.l_5, EV.l_6, EV.lm_2, EV.i_seq, EV.i_tup, EV.i_lst, EV.i_scr, EV.i_rng, EV.i_rngR, EV.i_rng2, List.set_cons_zero, List.set_cons_succ, List.map_cons, List.map_nil, List.cons_append, List.nil_append, List.replicate, List.length_cons, List.length_nil, List.take_length, decide_eq_true_eq, decide_eq_false_iff_not, okv, okr, oks, Bool.not_true, Bool.not_false, EV.x_t0, EV.x_t1, EV.x_t2, EV.x_l0, EV.x_l1, EV.x_l2, EV.c_20, EV.c_32, EV.isi_int_0, EV.isi_int_1, EV.isi_int_2, EV.isi_int_3, EV.isi_int_4, EV.isi_int_5, EV.isi_int_6, EV.isi_int_7, EV.isi_int_8, EV.isi_bool_0, EV.isi_bool_1, EV.isi_bool_2, EV.isi_bool_3, EV.isi_bool_4, EV.isi_bool_5, EV.isi_bool_6, EV.isi_bool_7, EV.isi_bool_8, EV.isi_str_0, EV.isi_str_1, EV.isi_str_2, EV.isi_str_3, EV.isi_str_4, EV.isi_str_5, EV.isi_str_6, EV.isi_str_7, EV.isi_str_8, EV.isi_none_0, EV.isi_none_1, EV.isi_none_2, EV.isi_none_3, EV.isi_none_4, EV.isi_none_5, EV.isi_none_6, EV.isi_none_7, EV.isi_none_8, EV.isi_tuple_0, EV.isi_tuple_1, EV.isi_tuple_2, EV.isi_tuple_3, EV.isi_tuple_4, EV.isi_tuple_5, EV.isi_tuple_6, EV.isi_tuple_7, EV.isi_tuple_8, EV.isi_list_0, EV.isi_list_1, EV.isi_list_2, EV.isi_list_3, EV.isi_list_4, EV.isi_list_5, EV.isi_list_6, EV.isi_list_7, EV.isi_list_8, EV.f_nm, EV.f_nil, EV.o_eqb, EV.o_neb, EV.o_isn, EV.o_isnn, EV.o_leq0, EV.o_lne0, EV.in_none, EV.in_int, EV.in_bool, EV.in_str, EV.in_tup, EV.in_lst, EV.td_v, SE_nx, SE_rtv, EV.sc_nil, EV.sc_none, EV.sc_v, EV.sc_r, EV.sc_s, EV.sc_x, Bool.not_eq_true', Bool.not_eq_false', EV.goB_a, EV.goB_o, EV.bo_t, EV.bo_l, EV.bo_nil, EV.bo_nm, EV.bo_tt, EV.bo_tl, EV.wipe_nil, EV.wipe_cons, Nat.reduceAdd, Nat.zero_add, Int.cast_ofNat_Int, Int.reduceEq, forall_const, not_true_eq_false, not_false_eq_true, false_implies, implies_true, and_true, true_and, decide_true, decide_false, Bool.false_eq_true, Bool.true_eq_false, eq_self, reduceCtorEq, c_is_integer_0, c_lowest_0, c_is_lowest_0, c_sum_of_two_0, c_opposite_0, c_difference_0, c_times_integer_0, c_rooted_0, c_sign_of_0, c_order_0, c_floor_of_number_0, c_check_kind_0, c_check_number_0, c_check_count_0, c_is_number_0, c_sign_0, c_sign_1, c_compared_0, c_compared_1, c_floor_of_0, c_floor_of_1, c_about_0, c_about_1, c_unit_0, c_unit_1, c_stretch_unit_0, c_stretch_unit_1, c__law_deck_0, c__law_take_0, c__law_gcd_0, c__law_num_0, c__law_plus_0, c__law_minus_0, c__law_times_0, c__law_sign_0, c__law_same_0, c__law_number_0, c__law_near_0, c__law_drawn_0, c__law_is_floor_0, c__law_right_0, c__law_units_0])
      refine w_take dk2 (by decide) (Sz.const (by decide)) fun y S3 y0 y1 dk3 sm3 => ?_
      (try simp only [EV.w_loc, EV.w_at0, EV.w_atS, EV.w_lit, EV.w_op, EV.w_neg, EV.w_negR, EV.w_not, EV.w_cmp, EV.w_ite, EV.w_evT, EV.w_tup, EV.w_lst, EV.w_ix, EV.w_bi, EV.w_isi, EV.w_rev, EV.w_bop, EV.w_b1, EV.w_b2, EV.w_fld, EV.w_fldR, EV.w_call, EV.w_mth, EV.w_enil, EV.w_econs, EV.w_ono, EV.w_oso, EV.w_intO, EV.w_slc, EV.w_cno, EV.w_cso, EV.w_dix, EV.o_add, EV.o_sub, EV.o_mul, EV.o_div, EV.o_mod, EV.o_lt, EV.o_le, EV.o_gt, EV.o_ge, EV.o_eq, EV.o_ne, EV.o_tb, EV.o_ti, W_ok, W_ex, WS_ok, WS_ex, EV.s_nil, EV.s_cons, EV.s_asgN, EV.s_asgT, EV.s_par2, EV.s_par3, EV.s_set, EV.s_ex, EV.s_iff, EV.s_for, EV.s_wh, EV.s_ret, EV.s_retN, EV.s_rai, EV.rai_v, EV.s_try, EV.s_hnil, EV.s_pas, EV.s_brk, EV.s_cnt, NX_nx, NX_rt, NX_bk, NX_ct, JN_nx, JN_rt, JN_bk, JN_ct, TN_nx, TN_rt, TN_bk, TN_ct, RQ_nx, RQ_rt, EV.gc_v, EV.b_gcd, EV.b_abs, EV.b_max, EV.b_min, EV.b_int, EV.b_intb, EV.b_lens, EV.b_lent, EV.b_lenl, EV.b_isqrt, EV.b_listt, EV.b_listl, EV.t_1, EV.t_2, EV.t_3, EV.t_4, EV.ds_1, EV.ds_2, EV.ds_3, EV.ds_4, EV.l_0, EV.l_1, EV.l_2, EV.l_3, EV.l_4, EV.l_5, EV.l_6, EV.lm_2, EV.i_seq, EV.i_tup, EV.i_lst, EV.i_scr, EV.i_rng, EV.i_rngR, EV.i_rng2, List.set_cons_zero, List.set_cons_succ, List.map_cons, List.map_nil, List.cons_append, List.nil_append, List.replicate, List.length_cons, List.length_nil, List.take_length, decide_eq_true_eq, decide_eq_false_iff_not, okv, okr, oks, Bool.not_true, Bool.not_false, EV.x_t0, EV.x_t1, EV.x_t2, EV.x_l0, EV.x_l1, EV.x_l2, EV.c_20, EV.c_32, EV.isi_int_0, EV.isi_int_1, EV.isi_int_2, EV.isi_int_3, EV.isi_int_4, EV.isi_int_5, EV.isi_int_6, EV.isi_int_7, EV.isi_int_8, EV.isi_bool_0, EV.isi_bool_1, EV.isi_bool_2, EV.isi_bool_3, EV.isi_bool_4, EV.isi_bool_5, EV.isi_bool_6, EV.isi_bool_7, EV.isi_bool_8, EV.isi_str_0, EV.isi_str_1, EV.isi_str_2, EV.isi_str_3, EV.isi_str_4, EV.isi_str_5, EV.isi_str_6, EV.isi_str_7, EV.isi_str_8, EV.isi_none_0, EV.isi_none_1, EV.isi_none_2, EV.isi_none_3, EV.isi_none_4, EV.isi_none_5, EV.isi_none_6, EV.isi_none_7, EV.isi_none_8, EV.isi_tuple_0, EV.isi_tuple_1, EV.isi_tuple_2, EV.isi_tuple_3, EV.isi_tuple_4, EV.isi_tuple_5, EV.isi_tuple_6, EV.isi_tuple_7, EV.isi_tuple_8, EV.isi_list_0, EV.isi_list_1, EV.isi_list_2, EV.isi_list_3, EV.isi_list_4, EV.isi_list_5, EV.isi_list_6, EV.isi_list_7, EV.isi_list_8, EV.f_nm, EV.f_nil, EV.o_eqb, EV.o_neb, EV.o_isn, EV.o_isnn, EV.o_leq0, EV.o_lne0, EV.in_none, EV.in_int, EV.in_bool, EV.in_str, EV.in_tup, EV.in_lst, EV.td_v, SE_nx, SE_rtv, EV.sc_nil, EV.sc_none, EV.sc_v, EV.sc_r, EV.sc_s, EV.sc_x, Bool.not_eq_true', Bool.not_eq_false', EV.goB_a, EV.goB_o, EV.bo_t, EV.bo_l, EV.bo_nil, EV.bo_nm, EV.bo_tt, EV.bo_tl, EV.wipe_nil, EV.wipe_cons, Nat.reduceAdd, Nat.zero_add, Int.cast_ofNat_Int, Int.reduceEq, forall_const, not_true_eq_false, not_false_eq_true, false_implies, implies_true, and_true, true_and, decide_true, decide_false, Bool.false_eq_true, Bool.true_eq_false, eq_self, reduceCtorEq, c_is_integer_0, c_lowest_0, c_is_lowest_0, c_sum_of_two_0, c_opposite_0, c_difference_0, c_times_integer_0, c_rooted_0, c_sign_of_0, c_order_0, c_floor_of_number_0, c_check_kind_0, c_check_number_0, c_check_count_0, c_is_number_0, c_sign_0, c_sign_1, c_compared_0, c_compared_1, c_floor_of_0, c_floor_of_1, c_about_0, c_about_1, c_unit_0, c_unit_1, c_stretch_unit_0, c_stretch_unit_1, c__law_deck_0, c__law_take_0, c__law_gcd_0, c__law_num_0, c__law_plus_0, c__law_minus_0, c__law_times_0, c__law_sign_0, c__law_same_0, c__law_number_0, c__law_near_0, c__law_drawn_0, c__law_is_floor_0, c__law_right_0, c__law_units_0])
      refine w_take dk3 (by decide) (Sz.const (by decide)) fun m S4 m0 m1 dk4 sm4 => ?_
      have n0 : 1 + m ≠ 0 := by omega
      have en : ∀ S, callN G wl (k + 2) "_law_num" [I (x - 999), I (y - 999), I (1 + m)] S = .ok (.v (T3 (low (x - 999) (y - 999) (1 + m)))) S := fun S => e_num hw n0 (szb (n := 20) (b := 100000) (by omega) (by decide)) (szb (n := 20) (b := 100000) (by omega) (by decide)) (by decide) (by decide)
      simp only [EV.w_loc, EV.w_at0, EV.w_atS, EV.w_lit, EV.w_op, EV.w_neg, EV.w_negR, EV.w_not, EV.w_cmp, EV.w_ite, EV.w_evT, EV.w_tup, EV.w_lst, EV.w_ix, EV.w_bi, EV.w_isi, EV.w_rev, EV.w_bop, EV.w_b1, EV.w_b2, EV.w_fld, EV.w_fldR, EV.w_call, EV.w_mth, EV.w_enil, EV.w_econs, EV.w_ono, EV.w_oso, EV.w_intO, EV.w_slc, EV.w_cno, EV.w_cso, EV.w_dix, EV.o_add, EV.o_sub, EV.o_mul, EV.o_div, EV.o_mod, EV.o_lt, EV.o_le, EV.o_gt, EV.o_ge, EV.o_eq, EV.o_ne, EV.o_tb, EV.o_ti, W_ok, W_ex, WS_ok, WS_ex, EV.s_nil, EV.s_cons, EV.s_asgN, EV.s_asgT, EV.s_par2, EV.s_par3, EV.s_set, EV.s_ex, EV.s_iff, EV.s_for, EV.s_wh, EV.s_ret, EV.s_retN, EV.s_rai, EV.rai_v, EV.s_try, EV.s_hnil, EV.s_pas, EV.s_brk, EV.s_cnt, NX_nx, NX_rt, NX_bk, NX_ct, JN_nx, JN_rt, JN_bk, JN_ct, TN_nx, TN_rt, TN_bk, TN_ct, RQ_nx, RQ_rt, EV.gc_v, EV.b_gcd, EV.b_abs, EV.b_max, EV.b_min, EV.b_int, EV.b_intb, EV.b_lens, EV.b_lent, EV.b_lenl, EV.b_isqrt, EV.b_listt, EV.b_listl, EV.t_1, EV.t_2, EV.t_3, EV.t_4, EV.ds_1, EV.ds_2, EV.ds_3, EV.ds_4, EV.l_0, EV.l_1, EV.l_2, EV.l_3, EV.l_4, EV.l_5, EV.l_6, EV.lm_2, EV.i_seq, EV.i_tup, EV.i_lst, EV.i_scr, EV.i_rng, EV.i_rngR, EV.i_rng2, List.set_cons_zero, List.set_cons_succ, List.map_cons, List.map_nil, List.cons_append, List.nil_append, List.replicate, List.length_cons, List.length_nil, List.take_length, decide_eq_true_eq, decide_eq_false_iff_not, okv, okr, oks, Bool.not_true, Bool.not_false, EV.x_t0, EV.x_t1, EV.x_t2, EV.x_l0, EV.x_l1, EV.x_l2, EV.c_20, EV.c_32, EV.isi_int_0, EV.isi_int_1, EV.isi_int_2, EV.isi_int_3, EV.isi_int_4, EV.isi_int_5, EV.isi_int_6, EV.isi_int_7, EV.isi_int_8, EV.isi_bool_0, EV.isi_bool_1, EV.isi_bool_2, EV.isi_bool_3, EV.isi_bool_4, EV.isi_bool_5, EV.isi_bool_6, EV.isi_bool_7, EV.isi_bool_8, EV.isi_str_0, EV.isi_str_1, EV.isi_str_2, EV.isi_str_3, EV.isi_str_4, EV.isi_str_5, EV.isi_str_6, EV.isi_str_7, EV.isi_str_8, EV.isi_none_0, EV.isi_none_1, EV.isi_none_2, EV.isi_none_3, EV.isi_none_4, EV.isi_none_5, EV.isi_none_6, EV.isi_none_7, EV.isi_none_8, EV.isi_tuple_0, EV.isi_tuple_1, EV.isi_tuple_2, EV.isi_tuple_3, EV.isi_tuple_4, EV.isi_tuple_5, EV.isi_tuple_6, EV.isi_tuple_7, EV.isi_tuple_8, EV.isi_list_0, EV.isi_list_1, EV.isi_list_2, EV.isi_list_3, EV.isi_list_4, EV.isi_list_5, EV.isi_list_6, EV.isi_list_7, EV.isi_list_8, EV.f_nm, EV.f_nil, EV.o_eqb, EV.o_neb, EV.o_isn, EV.o_isnn, EV.o_leq0, EV.o_lne0, EV.in_none, EV.in_int, EV.in_bool, EV.in_str, EV.in_tup, EV.in_lst, EV.td_v, SE_nx, SE_rtv, EV.sc_nil, EV.sc_none, EV.sc_v, EV.sc_r, EV.sc_s, EV.sc_x, Bool.not_eq_true', Bool.not_eq_false', EV.goB_a, EV.goB_o, EV.bo_t, EV.bo_l, EV.bo_nil, EV.bo_nm, EV.bo_tt, EV.bo_tl, EV.wipe_nil, EV.wipe_cons, Nat.reduceAdd, Nat.zero_add, Int.cast_ofNat_Int, Int.reduceEq, forall_const, not_true_eq_false, not_false_eq_true, false_implies, implies_true, and_true, true_and, decide_true, decide_false, Bool.false_eq_true, Bool.true_eq_false, eq_self, reduceCtorEq, c_is_integer_0, c_lowest_0, c_is_lowest_0, c_sum_of_two_0, c_opposite_0, c_difference_0, c_times_integer_0, c_rooted_0, c_sign_of_0, c_order_0, c_floor_of_number_0, c_check_kind_0, c_check_number_0, c_check_count_0, c_is_number_0, c_sign_0, c_sign_1, c_compared_0, c_compared_1, c_floor_of_0, c_floor_of_1, c_about_0, c_about_1, c_unit_0, c_unit_1, c_stretch_unit_0, c_stretch_unit_1, c__law_deck_0, c__law_take_0, c__law_gcd_0, c__law_num_0, c__law_plus_0, c__law_minus_0, c__law_times_0, c__law_sign_0, c__law_same_0, c__law_number_0, c__law_near_0, c__law_drawn_0, c__law_is_floor_0, c__law_right_0, c__law_units_0, en]
      have sm := ((sm1.trans sm2).trans sm3).trans sm4
      rw [tk sm]
      exact hQ _ S4 (low_low n0) (low_sn n0 (s20 (by omega)) (s20 (by omega)) (s20 (by omega))) dk4 sm
/-! ### the same again -/
/-- what is compared: data of depth at most n -/
def OkD : Nat → D → Prop
  | _, .none | _, .bool _ | _, .int _ => True
  | _, .str s => SeqAt.shaped (.str s) = true
  | n + 1, .tuple ds => ds.length ≤ 1000 ∧ ∀ d ∈ ds, OkD n d
  | n + 1, .list ds => ds.length ≤ 1000 ∧ ∀ d ∈ ds, OkD n d
  | _, _ => False
theorem eqv_str {s : Str} : PyData.eqv (.str s) (.str s) = true := by
  show (s == s) = true
  exact beq_self_eq_true s
def cSame : Ex := .not (.call "_law_same" (.cons (.ix (.loc 0) (.loc 2)) (.cons (.ix (.loc 1) (.loc 2)) (.nil))) [] (.nil))
theorem same_items {c : Nat} {x : D} {ds : List D} (hx : ∀ (i : Nat) d, ds[i]? = some d → ∀ {S : Sto} {Q : R → Sto → Prop} {E : EK}, W (ixR (.v x) (I i) S) Q E = Q (.v d) S)
    (ih : ∀ d ∈ ds, ∀ S, callN G wl c "_law_same" [.v d, .v d] S = .ok (B true) S) (hl : ds.length ≤ 1000) :
    lcLoop (lcBody (evC G (callN G wl c) (.so cSame)) (evE G (callN G wl c) (.loc 2))) (.nm 2) [some (.v x), some (.v x), none] (rngD 0 ds.length) [] S = .ok [] S := by
  have e : (rngD 0 ds.length).filterMap (fun _ => (none : Option D)) = [] := List.filterMap_eq_nil_iff.mpr fun _ _ => rfl
  rw [lc_items (S := S) (fun _ => none) _ _ ?_ (by rw [rng_len]; exact Nat.le_trans (by simpa using hl) (by decide)), e]
  · rfl
  · intro d hd
    unfold rngD at hd
    obtain ⟨i, hi, rfl⟩ := List.mem_map.mp hd
    have hi := List.mem_range.mp hi
    obtain ⟨y, ey⟩ : ∃ y, ds[i]? = some y := ⟨ds[i], List.getElem?_eq_getElem hi⟩
    have h1 := fun {S Q E} => hx i y ey (S := S) (Q := Q) (E := E)
    have h2 := ih y (List.mem_of_getElem? ey)
    refine ⟨_, rfl, lcb_ok ?_⟩
    simp only [cSame, EV.w_loc, EV.w_at0, EV.w_atS, EV.w_lit, EV.w_op, EV.w_neg, EV.w_negR, EV.w_not, EV.w_cmp, EV.w_ite, EV.w_evT, EV.w_tup, EV.w_lst, EV.w_ix, EV.w_bi, EV.w_isi, EV.w_rev, EV.w_bop, EV.w_b1, EV.w_b2, EV.w_fld, EV.w_fldR, EV.w_call, EV.w_mth, EV.w_enil, EV.w_econs, EV.w_ono, EV.w_oso, EV.w_intO, EV.w_slc, EV.w_cno, EV.w_cso, EV.w_dix, EV.o_add, EV.o_sub, EV.o_mul, EV.o_div, EV.o_mod, EV.o_lt, EV.o_le, EV.o_gt, EV.o_ge, EV.o_eq, EV.o_ne, EV.o_tb, EV.o_ti, W_ok, W_ex, WS_ok, WS_ex, EV.s_nil, EV.s_cons, EV.s_asgN, EV.s_asgT, EV.s_par2, EV.s_par3, EV.s_set, EV.s_ex, EV.s_iff, EV.s_for, EV.s_wh, EV.s_ret, EV.s_retN, EV.s_rai, EV.rai_v, EV.s_try, EV.s_hnil, EV.s_pas, EV.s_brk, EV.s_cnt, NX_nx, NX_rt, NX_bk, NX_ct, JN_nx, JN_rt, JN_bk, JN_ct, TN_nx, TN_rt, TN_bk, TN_ct, RQ_nx, RQ_rt, EV.gc_v, EV.b_gcd, EV.b_abs, EV.b_max, EV.b_min, EV.b_int, EV.b_intb, EV.b_lens, EV.b_lent, EV.b_lenl, EV.b_isqrt, EV.b_listt, EV.b_listl, EV.t_1, EV.t_2, EV.t_3, EV.t_4, EV.ds_1, EV.ds_2, EV.ds_3, EV.ds_4, EV.l_0, EV.l_1, EV.l_2, EV.l_3, EV.l_4, EV.l_5, EV.l_6, EV.lm_2, EV.i_seq, EV.i_tup, EV.i_lst, EV.i_scr, EV.i_rng, EV.i_rngR, EV.i_rng2, List.set_cons_zero, List.set_cons_succ, List.map_cons, List.map_nil, List.cons_append, List.nil_append, List.replicate, List.length_cons, List.length_nil, List.take_length, decide_eq_true_eq, decide_eq_false_iff_not, okv, okr, oks, Bool.not_true, Bool.not_false, EV.x_t0, EV.x_t1, EV.x_t2, EV.x_l0, EV.x_l1, EV.x_l2, EV.c_20, EV.c_32, EV.isi_int_0, EV.isi_int_1, EV.isi_int_2, EV.isi_int_3, EV.isi_int_4, EV.isi_int_5, EV.isi_int_6, EV.isi_int_7, EV.isi_int_8, EV.isi_bool_0, EV.isi_bool_1, EV.isi_bool_2, EV.isi_bool_3, EV.isi_bool_4, EV.isi_bool_5, EV.isi_bool_6, EV.isi_bool_7, EV.isi_bool_8, EV.isi_str_0, EV.isi_str_1, EV.isi_str_2, EV.isi_str_3, EV.isi_str_4, EV.isi_str_5, EV.isi_str_6, EV.isi_str_7, EV.isi_str_8, EV.isi_none_0, EV.isi_none_1, EV.isi_none_2, EV.isi_none_3, EV.isi_none_4, EV.isi_none_5, EV.isi_none_6, EV.isi_none_7, EV.isi_none_8, EV.isi_tuple_0, EV.isi_tuple_1, EV.isi_tuple_2, EV.isi_tuple_3, EV.isi_tuple_4, EV.isi_tuple_5, EV.isi_tuple_6, EV.isi_tuple_7, EV.isi_tuple_8, EV.isi_list_0, EV.isi_list_1, EV.isi_list_2, EV.isi_list_3, EV.isi_list_4, EV.isi_list_5, EV.isi_list_6, EV.isi_list_7, EV.isi_list_8, EV.f_nm, EV.f_nil, EV.o_eqb, EV.o_neb, EV.o_isn, EV.o_isnn, EV.o_leq0, EV.o_lne0, EV.in_none, EV.in_int, EV.in_bool, EV.in_str, EV.in_tup, EV.in_lst, EV.td_v, SE_nx, SE_rtv, EV.sc_nil, EV.sc_none, EV.sc_v, EV.sc_r, EV.sc_s, EV.sc_x, Bool.not_eq_true', Bool.not_eq_false', EV.goB_a, EV.goB_o, EV.bo_t, EV.bo_l, EV.bo_nil, EV.bo_nm, EV.bo_tt, EV.bo_tl, EV.wipe_nil, EV.wipe_cons, Nat.reduceAdd, Nat.zero_add, Int.cast_ofNat_Int, Int.reduceEq, forall_const, not_true_eq_false, not_false_eq_true, false_implies, implies_true, and_true, true_and, decide_true, decide_false, Bool.false_eq_true, Bool.true_eq_false, eq_self, reduceCtorEq, Int.zero_add, h1, c_is_integer_0, c_lowest_0, c_is_lowest_0, c_sum_of_two_0, c_opposite_0, c_difference_0, c_times_integer_0, c_rooted_0, c_sign_of_0, c_order_0, c_floor_of_number_0, c_check_kind_0, c_check_number_0, c_check_count_0, c_is_number_0, c_sign_0, c_sign_1, c_compared_0, c_compared_1, c_floor_of_0, c_floor_of_1, c_about_0, c_about_1, c_unit_0, c_unit_1, c_stretch_unit_0, c_stretch_unit_1, c__law_deck_0, c__law_take_0, c__law_gcd_0, c__law_num_0, c__law_plus_0, c__law_minus_0, c__law_times_0, c__law_sign_0, c__law_same_0, c__law_number_0, c__law_near_0, c__law_drawn_0, c__law_is_floor_0, c__law_right_0, c__law_units_0, h2]
theorem same_none : callN G wl (k + 1) "_law_same" [.v .none, .v .none] S = .ok (B true) S := by
  apply W_eq
  rw [w_fun lk__law_same rfl]
  simp only [d__law_same, EV.w_loc, EV.w_at0, EV.w_atS, EV.w_lit, EV.w_op, EV.w_neg, EV.w_negR, EV.w_not, EV.w_cmp, EV.w_ite, EV.w_evT, EV.w_tup, EV.w_lst, EV.w_ix, EV.w_bi, EV.w_isi, EV.w_rev, EV.w_bop, EV.w_b1, EV.w_b2, EV.w_fld, EV.w_fldR, EV.w_call, EV.w_mth, EV.w_enil, EV.w_econs, EV.w_ono, EV.w_oso, EV.w_intO, EV.w_slc, EV.w_cno, EV.w_cso, EV.w_dix, EV.o_add, EV.o_sub, EV.o_mul, EV.o_div, EV.o_mod, EV.o_lt, EV.o_le, EV.o_gt, EV.o_ge, EV.o_eq, EV.o_ne, EV.o_tb, EV.o_ti, W_ok, W_ex, WS_ok, WS_ex, EV.s_nil, EV.s_cons, EV.s_asgN, EV.s_asgT, EV.s_par2, EV.s_par3, EV.s_set, EV.s_ex, EV.s_iff, EV.s_for, EV.s_wh, EV.s_ret, EV.s_retN, EV.s_rai, EV.rai_v, EV.s_try, EV.s_hnil, EV.s_pas, EV.s_brk, EV.s_cnt, NX_nx, NX_rt, NX_bk, NX_ct, JN_nx, JN_rt, JN_bk, JN_ct, TN_nx, TN_rt, TN_bk, TN_ct, RQ_nx, RQ_rt, EV.gc_v, EV.b_gcd, EV.b_abs, EV.b_max, EV.b_min, EV.b_int, EV.b_intb, EV.b_lens, EV.b_lent, EV.b_lenl, EV.b_isqrt, EV.b_listt, EV.b_listl, EV.t_1, EV.t_2, EV.t_3, EV.t_4, EV.ds_1, EV.ds_2, EV.ds_3, EV.ds_4, EV.l_0, EV.l_1, EV.l_2, EV.l_3, EV.l_4, EV.l_5, EV.l_6, EV.lm_2, EV.i_seq, EV.i_tup, EV.i_lst, EV.i_scr, EV.i_rng, EV.i_rngR, EV.i_rng2, List.set_cons_zero, List.set_cons_succ, List.map_cons, List.map_nil, List.cons_append, List.nil_append, List.replicate, List.length_cons, List.length_nil, List.take_length, decide_eq_true_eq, decide_eq_false_iff_not, okv, okr, oks, Bool.not_true, Bool.not_false, EV.x_t0, EV.x_t1, EV.x_t2, EV.x_l0, EV.x_l1, EV.x_l2, EV.c_20, EV.c_32, EV.isi_int_0, EV.isi_int_1, EV.isi_int_2, EV.isi_int_3, EV.isi_int_4, EV.isi_int_5, EV.isi_int_6, EV.isi_int_7, EV.isi_int_8, EV.isi_bool_0, EV.isi_bool_1, EV.isi_bool_2, EV.isi_bool_3, EV.isi_bool_4, EV.isi_bool_5, EV.isi_bool_6, EV.isi_bool_7, EV.isi_bool_8, EV.isi_str_0, EV.isi_str_1, EV.isi_str_2, EV.isi_str_3, EV.isi_str_4, EV.isi_str_5, EV.isi_str_6, EV.isi_str_7, EV.isi_str_8, EV.isi_none_0, EV.isi_none_1, EV.isi_none_2, EV.isi_none_3, EV.isi_none_4, EV.isi_none_5, EV.isi_none_6, EV.isi_none_7, EV.isi_none_8, EV.isi_tuple_0, EV.isi_tuple_1, EV.isi_tuple_2, EV.isi_tuple_3, EV.isi_tuple_4, EV.isi_tuple_5, EV.isi_tuple_6, EV.isi_tuple_7, EV.isi_tuple_8, EV.isi_list_0, EV.isi_list_1, EV.isi_list_2, EV.isi_list_3, EV.isi_list_4, EV.isi_list_5, EV.isi_list_6, EV.isi_list_7, EV.isi_list_8, EV.f_nm, EV.f_nil, EV.o_eqb, EV.o_neb, EV.o_isn, EV.o_isnn, EV.o_leq0, EV.o_lne0, EV.in_none, EV.in_int, EV.in_bool, EV.in_str, EV.in_tup, EV.in_lst, EV.td_v, SE_nx, SE_rtv, EV.sc_nil, EV.sc_none, EV.sc_v, EV.sc_r, EV.sc_s, EV.sc_x, Bool.not_eq_true', Bool.not_eq_false', EV.goB_a, EV.goB_o, EV.bo_t, EV.bo_l, EV.bo_nil, EV.bo_nm, EV.bo_tt, EV.bo_tl, EV.wipe_nil, EV.wipe_cons, Nat.reduceAdd, Nat.zero_add, Int.cast_ofNat_Int, Int.reduceEq, forall_const, not_true_eq_false, not_false_eq_true, false_implies, implies_true, and_true, true_and, decide_true, decide_false, Bool.false_eq_true, Bool.true_eq_false, eq_self, reduceCtorEq]
theorem same_bool {b : Bool} : callN G wl (k + 1) "_law_same" [.v (.bool b), .v (.bool b)] S = .ok (B true) S := by
  apply W_eq
  rw [w_fun lk__law_same rfl]
  simp only [d__law_same, EV.w_loc, EV.w_at0, EV.w_atS, EV.w_lit, EV.w_op, EV.w_neg, EV.w_negR, EV.w_not, EV.w_cmp, EV.w_ite, EV.w_evT, EV.w_tup, EV.w_lst, EV.w_ix, EV.w_bi, EV.w_isi, EV.w_rev, EV.w_bop, EV.w_b1, EV.w_b2, EV.w_fld, EV.w_fldR, EV.w_call, EV.w_mth, EV.w_enil, EV.w_econs, EV.w_ono, EV.w_oso, EV.w_intO, EV.w_slc, EV.w_cno, EV.w_cso, EV.w_dix, EV.o_add, EV.o_sub, EV.o_mul, EV.o_div, EV.o_mod, EV.o_lt, EV.o_le, EV.o_gt, EV.o_ge, EV.o_eq, EV.o_ne, EV.o_tb, EV.o_ti, W_ok, W_ex, WS_ok, WS_ex, EV.s_nil, EV.s_cons, EV.s_asgN, EV.s_asgT, EV.s_par2, EV.s_par3, EV.s_set, EV.s_ex, EV.s_iff, EV.s_for, EV.s_wh, EV.s_ret, EV.s_retN, EV.s_rai, EV.rai_v, EV.s_try, EV.s_hnil, EV.s_pas, EV.s_brk, EV.s_cnt, NX_nx, NX_rt, NX_bk, NX_ct, JN_nx, JN_rt, JN_bk, JN_ct, TN_nx, TN_rt, TN_bk, TN_ct, RQ_nx, RQ_rt, EV.gc_v, EV.b_gcd, EV.b_abs, EV.b_max, EV.b_min, EV.b_int, EV.b_intb, EV.b_lens, EV.b_lent, EV.b_lenl, EV.b_isqrt, EV.b_listt, EV.b_listl, EV.t_1, EV.t_2, EV.t_3, EV.t_4, EV.ds_1, EV.ds_2, EV.ds_3, EV.ds_4, EV.l_0, EV.l_1, EV.l_2, EV.l_3, EV.l_4, EV.l_5, EV.l_6, EV.lm_2, EV.i_seq, EV.i_tup, EV.i_lst, EV.i_scr, EV.i_rng, EV.i_rngR, EV.i_rng2, List.set_cons_zero, List.set_cons_succ, List.map_cons, List.map_nil, List.cons_append, List.nil_append, List.replicate, List.length_cons, List.length_nil, List.take_length, decide_eq_true_eq, decide_eq_false_iff_not, okv, okr, oks, Bool.not_true, Bool.not_false, EV.x_t0, EV.x_t1, EV.x_t2, EV.x_l0, EV.x_l1, EV.x_l2, EV.c_20, EV.c_32, EV.isi_int_0, EV.isi_int_1, EV.isi_int_2, EV.isi_int_3, EV.isi_int_4, EV.isi_int_5, EV.isi_int_6, EV.isi_int_7, EV.isi_int_8, EV.isi_bool_0, EV.isi_bool_1, EV.isi_bool_2, EV.isi_bool_3, EV.isi_bool_4, EV.isi_bool_5, EV.isi_bool_6, EV.isi_bool_7, EV.isi_bool_8, EV.isi_str_0, EV.isi_str_1, EV.isi_str_2, EV.isi_str_3, EV.isi_str_4, EV.isi_str_5, EV.isi_str_6, EV.isi_str_7, EV.isi_str_8, EV.isi_none_0, EV.isi_none_1, EV.isi_none_2, EV.isi_none_3, EV.isi_none_4, EV.isi_none_5, EV.isi_none_6, EV.isi_none_7, EV.isi_none_8, EV.isi_tuple_0, EV.isi_tuple_1, EV.isi_tuple_2, EV.isi_tuple_3, EV.isi_tuple_4, EV.isi_tuple_5, EV.isi_tuple_6, EV.isi_tuple_7, EV.isi_tuple_8, EV.isi_list_0, EV.isi_list_1, EV.isi_list_2, EV.isi_list_3, EV.isi_list_4, EV.isi_list_5, EV.isi_list_6, EV.isi_list_7, EV.isi_list_8, EV.f_nm, EV.f_nil, EV.o_eqb, EV.o_neb, EV.o_isn, EV.o_isnn, EV.o_leq0, EV.o_lne0, EV.in_none, EV.in_int, EV.in_bool, EV.in_str, EV.in_tup, EV.in_lst, EV.td_v, SE_nx, SE_rtv, EV.sc_nil, EV.sc_none, EV.sc_v, EV.sc_r, EV.sc_s, EV.sc_x, Bool.not_eq_true', Bool.not_eq_false', EV.goB_a, EV.goB_o, EV.bo_t, EV.bo_l, EV.bo_nil, EV.bo_nm, EV.bo_tt, EV.bo_tl, EV.wipe_nil, EV.wipe_cons, Nat.reduceAdd, Nat.zero_add, Int.cast_ofNat_Int, Int.reduceEq, forall_const, not_true_eq_false, not_false_eq_true, false_implies, implies_true, and_true, true_and, decide_true, decide_false, Bool.false_eq_true, Bool.true_eq_false, eq_self, reduceCtorEq, beq_self_eq_true]
theorem same_int {i : Int} : callN G wl (k + 1) "_law_same" [.v (.int i), .v (.int i)] S = .ok (B true) S := by
  apply W_eq
  rw [w_fun lk__law_same rfl]
  simp only [d__law_same, EV.w_loc, EV.w_at0, EV.w_atS, EV.w_lit, EV.w_op, EV.w_neg, EV.w_negR, EV.w_not, EV.w_cmp, EV.w_ite, EV.w_evT, EV.w_tup, EV.w_lst, EV.w_ix, EV.w_bi, EV.w_isi, EV.w_rev, EV.w_bop, EV.w_b1, EV.w_b2, EV.w_fld, EV.w_fldR, EV.w_call, EV.w_mth, EV.w_enil, EV.w_econs, EV.w_ono, EV.w_oso, EV.w_intO, EV.w_slc, EV.w_cno, EV.w_cso, EV.w_dix, EV.o_add, EV.o_sub, EV.o_mul, EV.o_div, EV.o_mod, EV.o_lt, EV.o_le, EV.o_gt, EV.o_ge, EV.o_eq, EV.o_ne, EV.o_tb, EV.o_ti, W_ok, W_ex, WS_ok, WS_ex, EV.s_nil, EV.s_cons, EV.s_asgN, EV.s_asgT, EV.s_par2, EV.s_par3, EV.s_set, EV.s_ex, EV.s_iff, EV.s_for, EV.s_wh, EV.s_ret, EV.s_retN, EV.s_rai, EV.rai_v, EV.s_try, EV.s_hnil, EV.s_pas, EV.s_brk, EV.s_cnt, NX_nx, NX_rt, NX_bk, NX_ct, JN_nx, JN_rt, JN_bk, JN_ct, TN_nx, TN_rt, TN_bk, TN_ct, RQ_nx, RQ_rt, EV.gc_v, EV.b_gcd, EV.b_abs, EV.b_max, EV.b_min, EV.b_int, EV.b_intb, EV.b_lens, EV.b_lent, EV.b_lenl, EV.b_isqrt, EV.b_listt, EV.b_listl, EV.t_1, EV.t_2, EV.t_3, EV.t_4, EV.ds_1, EV.ds_2, EV.ds_3, EV.ds_4, EV.l_0, EV.l_1, EV.l_2, EV.l_3, EV.l_4, EV.l_5, EV.l_6, EV.lm_2, EV.i_seq, EV.i_tup, EV.i_lst, EV.i_scr, EV.i_rng, EV.i_rngR, EV.i_rng2, List.set_cons_zero, List.set_cons_succ, List.map_cons, List.map_nil, List.cons_append, List.nil_append, List.replicate, List.length_cons, List.length_nil, List.take_length, decide_eq_true_eq, decide_eq_false_iff_not, okv, okr, oks, Bool.not_true, Bool.not_false, EV.x_t0, EV.x_t1, EV.x_t2, EV.x_l0, EV.x_l1, EV.x_l2, EV.c_20, EV.c_32, EV.isi_int_0, EV.isi_int_1, EV.isi_int_2, EV.isi_int_3, EV.isi_int_4, EV.isi_int_5, EV.isi_int_6, EV.isi_int_7, EV.isi_int_8, EV.isi_bool_0, EV.isi_bool_1, EV.isi_bool_2, EV.isi_bool_3, EV.isi_bool_4, EV.isi_bool_5, EV.isi_bool_6, EV.isi_bool_7, EV.isi_bool_8, EV.isi_str_0, EV.isi_str_1, EV.isi_str_2, EV.isi_str_3, EV.isi_str_4, EV.isi_str_5, EV.isi_str_6, EV.isi_str_7, EV.isi_str_8, EV.isi_none_0, EV.isi_none_1, EV.isi_none_2, EV.isi_none_3, EV.isi_none_4, EV.isi_none_5, EV.isi_none_6, EV.isi_none_7, EV.isi_none_8, EV.isi_tuple_0, EV.isi_tuple_1, EV.isi_tuple_2, EV.isi_tuple_3, EV.isi_tuple_4, EV.isi_tuple_5, EV.isi_tuple_6, EV.isi_tuple_7, EV.isi_tuple_8, EV.isi_list_0, EV.isi_list_1, EV.isi_list_2, EV.isi_list_3, EV.isi_list_4, EV.isi_list_5, EV.isi_list_6, EV.isi_list_7, EV.isi_list_8, EV.f_nm, EV.f_nil, EV.o_eqb, EV.o_neb, EV.o_isn, EV.o_isnn, EV.o_leq0, EV.o_lne0, EV.in_none, EV.in_int, EV.in_bool, EV.in_str, EV.in_tup, EV.in_lst, EV.td_v, SE_nx, SE_rtv, EV.sc_nil, EV.sc_none, EV.sc_v, EV.sc_r, EV.sc_s, EV.sc_x, Bool.not_eq_true', Bool.not_eq_false', EV.goB_a, EV.goB_o, EV.bo_t, EV.bo_l, EV.bo_nil, EV.bo_nm, EV.bo_tt, EV.bo_tl, EV.wipe_nil, EV.wipe_cons, Nat.reduceAdd, Nat.zero_add, Int.cast_ofNat_Int, Int.reduceEq, forall_const, not_true_eq_false, not_false_eq_true, false_implies, implies_true, and_true, true_and, decide_true, decide_false, Bool.false_eq_true, Bool.true_eq_false, eq_self, reduceCtorEq]
theorem same_str {s : Str} (h : SeqAt.shaped (.str s) = true) : callN G wl (k + 1) "_law_same" [.v (.str s), .v (.str s)] S = .ok (B true) S := by
  apply W_eq
  rw [w_fun lk__law_same rfl]
  have e : ∀ {S : Sto} {Q : R → Sto → Prop} {E : EK}, W (cmpR .Eq (.v (.str s)) (.v (.str s)) S) Q E = Q (B true) S := fun {S Q E} => by
    rw [cmp_eq rfl rfl h h, eqv_str]
  simp only [d__law_same, EV.w_loc, EV.w_at0, EV.w_atS, EV.w_lit, EV.w_op, EV.w_neg, EV.w_negR, EV.w_not, EV.w_cmp, EV.w_ite, EV.w_evT, EV.w_tup, EV.w_lst, EV.w_ix, EV.w_bi, EV.w_isi, EV.w_rev, EV.w_bop, EV.w_b1, EV.w_b2, EV.w_fld, EV.w_fldR, EV.w_call, EV.w_mth, EV.w_enil, EV.w_econs, EV.w_ono, EV.w_oso, EV.w_intO, EV.w_slc, EV.w_cno, EV.w_cso, EV.w_dix, EV.o_add, EV.o_sub, EV.o_mul, EV.o_div, EV.o_mod, EV.o_lt, EV.o_le, EV.o_gt, EV.o_ge, EV.o_eq, EV.o_ne, EV.o_tb, EV.o_ti, W_ok, W_ex, WS_ok, WS_ex, EV.s_nil, EV.s_cons, EV.s_asgN, EV.s_asgT, EV.s_par2, EV.s_par3, EV.s_set, EV.s_ex, EV.s_iff, EV.s_for, EV.s_wh, EV.s_ret, EV.s_retN, EV.s_rai, EV.rai_v, EV.s_try, EV.s_hnil, EV.s_pas, EV.s_brk, EV.s_cnt, NX_nx, NX_rt, NX_bk, NX_ct, JN_nx, JN_rt, JN_bk, JN_ct, TN_nx, TN_rt, TN_bk, TN_ct, RQ_nx, RQ_rt, EV.gc_v, EV.b_gcd, EV.b_abs, EV.b_max, EV.b_min, EV.b_int, EV.b_intb, EV.b_lens, EV.b_lent, EV.b_lenl, EV.b_isqrt, EV.b_listt, EV.b_listl, EV.t_1, EV.t_2, EV.t_3, EV.t_4, EV.ds_1, EV.ds_2, EV.ds_3, EV.ds_4, EV.l_0, EV.l_1, EV.l_2, EV.l_3, EV.l_4, EV.l_5, EV.l_6, EV.lm_2, EV.i_seq, EV.i_tup, EV.i_lst, EV.i_scr, EV.i_rng, EV.i_rngR, EV.i_rng2, List.set_cons_zero, List.set_cons_succ, List.map_cons, List.map_nil, List.cons_append, List.nil_append, List.replicate, List.length_cons, List.length_nil, List.take_length, decide_eq_true_eq, decide_eq_false_iff_not, okv, okr, oks, Bool.not_true, Bool.not_false, EV.x_t0, EV.x_t1, EV.x_t2, EV.x_l0, EV.x_l1, EV.x_l2, EV.c_20, EV.c_32, EV.isi_int_0, EV.isi_int_1, EV.isi_int_2, EV.isi_int_3, EV.isi_int_4, EV.isi_int_5, EV.isi_int_6, EV.isi_int_7, EV.isi_int_8, EV.isi_bool_0, EV.isi_bool_1, EV.isi_bool_2, EV.isi_bool_3, EV.isi_bool_4, EV.isi_bool_5, EV.isi_bool_6, EV.isi_bool_7, EV.isi_bool_8, EV.isi_str_0, EV.isi_str_1, EV.isi_str_2, EV.isi_str_3, EV.isi_str_4, EV.isi_str_5, EV.isi_str_6, EV.isi_str_7, EV.isi_str_8, EV.isi_none_0, EV.isi_none_1, EV.isi_none_2, EV.isi_none_3, EV.isi_none_4, EV.isi_none_5, EV.isi_none_6, EV.isi_none_7, EV.isi_none_8, EV.isi_tuple_0, EV.isi_tuple_1, EV.isi_tuple_2, EV.isi_tuple_3, EV.isi_tuple_4, EV.isi_tuple_5, EV.isi_tuple_6, EV.isi_tuple_7, EV.isi_tuple_8, EV.isi_list_0, EV.isi_list_1, EV.isi_list_2, EV.isi_list_3, EV.isi_list_4, EV.isi_list_5, EV.isi_list_6, EV.isi_list_7, EV.isi_list_8, EV.f_nm, EV.f_nil, EV.o_eqb, EV.o_neb, EV.o_isn, EV.o_isnn, EV.o_leq0, EV.o_lne0, EV.in_none, EV.in_int, EV.in_bool, EV.in_str, EV.in_tup, EV.in_lst, EV.td_v, SE_nx, SE_rtv, EV.sc_nil, EV.sc_none, EV.sc_v, EV.sc_r, EV.sc_s, EV.sc_x, Bool.not_eq_true', Bool.not_eq_false', EV.goB_a, EV.goB_o, EV.bo_t, EV.bo_l, EV.bo_nil, EV.bo_nm, EV.bo_tt, EV.bo_tl, EV.wipe_nil, EV.wipe_cons, Nat.reduceAdd, Nat.zero_add, Int.cast_ofNat_Int, Int.reduceEq, forall_const, not_true_eq_false, not_false_eq_true, false_implies, implies_true, and_true, true_and, decide_true, decide_false, Bool.false_eq_true, Bool.true_eq_false, eq_self, reduceCtorEq, e]
theorem same_tup {ds : List D} (hl : ds.length ≤ 1000) (hd : ∀ d ∈ ds, ∀ S, callN G wl k "_law_same" [.v d, .v d] S = .ok (B true) S) : callN G wl (k + 1) "_law_same" [.v (.tuple ds), .v (.tuple ds)] S = .ok (B true) S := by
  apply W_eq
  rw [w_fun lk__law_same rfl]
  have it := fun S => same_items (S := S) (c := k) (x := .tuple ds) (wl := wl) (fun i d e {S Q E} => x_t (l := ds) (i := (i : Int)) (d := d) (by rw [atI_nat e])) hd hl
  unfold cSame at it
  simp only [d__law_same, EV.w_loc, EV.w_at0, EV.w_atS, EV.w_lit, EV.w_op, EV.w_neg, EV.w_negR, EV.w_not, EV.w_cmp, EV.w_ite, EV.w_evT, EV.w_tup, EV.w_lst, EV.w_ix, EV.w_bi, EV.w_isi, EV.w_rev, EV.w_bop, EV.w_b1, EV.w_b2, EV.w_fld, EV.w_fldR, EV.w_call, EV.w_mth, EV.w_enil, EV.w_econs, EV.w_ono, EV.w_oso, EV.w_intO, EV.w_slc, EV.w_cno, EV.w_cso, EV.w_dix, EV.o_add, EV.o_sub, EV.o_mul, EV.o_div, EV.o_mod, EV.o_lt, EV.o_le, EV.o_gt, EV.o_ge, EV.o_eq, EV.o_ne, EV.o_tb, EV.o_ti, W_ok, W_ex, WS_ok, WS_ex, EV.s_nil, EV.s_cons, EV.s_asgN, EV.s_asgT, EV.s_par2, EV.s_par3, EV.s_set, EV.s_ex, EV.s_iff, EV.s_for, EV.s_wh, EV.s_ret, EV.s_retN, EV.s_rai, EV.rai_v, EV.s_try, EV.s_hnil, EV.s_pas, EV.s_brk, EV.s_cnt, NX_nx, NX_rt, NX_bk, NX_ct, JN_nx, JN_rt, JN_bk, JN_ct, TN_nx, TN_rt, TN_bk, TN_ct, RQ_nx, RQ_rt, EV.gc_v, EV.b_gcd, EV.b_abs, EV.b_max, EV.b_min, EV.b_int, EV.b_intb, EV.b_lens, EV.b_lent, EV.b_lenl, EV.b_isqrt, EV.b_listt, EV.b_listl, EV.t_1, EV.t_2, EV.t_3, EV.t_4, EV.ds_1, EV.ds_2, EV.ds_3, EV.ds_4, EV.l_0, EV.l_1, EV.l_2, EV.l_3, EV.l_4, EV.l_5, EV.l_6, EV.lm_2, EV.i_seq, EV.i_tup, EV.i_lst, EV.i_scr, EV.i_rng, EV.i_rngR, EV.i_rng2, List.set_cons_zero, List.set_cons_succ, List.map_cons, List.map_nil, List.cons_append, List.nil_append, List.replicate, List.length_cons, List.length_nil, List.take_length, decide_eq_true_eq, decide_eq_false_iff_not, okv, okr, oks, Bool.not_true, Bool.not_false, EV.x_t0, EV.x_t1, EV.x_t2, EV.x_l0, EV.x_l1, EV.x_l2, EV.c_20, EV.c_32, EV.isi_int_0, EV.isi_int_1, EV.isi_int_2, EV.isi_int_3, EV.isi_int_4, EV.isi_int_5, EV.isi_int_6, EV.isi_int_7, EV.isi_int_8, EV.isi_bool_0, EV.isi_bool_1, EV.isi_bool_2, EV.isi_bool_3, EV.isi_bool_4, EV.isi_bool_5, EV.isi_bool_6, EV.isi_bool_7, EV.isi_bool_8, EV.isi_str_0, EV.isi_str_1, EV.isi_str_2, EV.isi_str_3, EV.isi_str_4, EV.isi_str_5, EV.isi_str_6, EV.isi_str_7, EV.isi_str_8, EV.isi_none_0, EV.isi_none_1, EV.isi_none_2, EV.isi_none_3, EV.isi_none_4, EV.isi_none_5, EV.isi_none_6, EV.isi_none_7, EV.isi_none_8, EV.isi_tuple_0, EV.isi_tuple_1, EV.isi_tuple_2, EV.isi_tuple_3, EV.isi_tuple_4, EV.isi_tuple_5, EV.isi_tuple_6, EV.isi_tuple_7, EV.isi_tuple_8, EV.isi_list_0, EV.isi_list_1, EV.isi_list_2, EV.isi_list_3, EV.isi_list_4, EV.isi_list_5, EV.isi_list_6, EV.isi_list_7, EV.isi_list_8, EV.f_nm, EV.f_nil, EV.o_eqb, EV.o_neb, EV.o_isn, EV.o_isnn, EV.o_leq0, EV.o_lne0, EV.in_none, EV.in_int, EV.in_bool, EV.in_str, EV.in_tup, EV.in_lst, EV.td_v, SE_nx, SE_rtv, EV.sc_nil, EV.sc_none, EV.sc_v, EV.sc_r, EV.sc_s, EV.sc_x, Bool.not_eq_true', Bool.not_eq_false', EV.goB_a, EV.goB_o, EV.bo_t, EV.bo_l, EV.bo_nil, EV.bo_nm, EV.bo_tt, EV.bo_tl, EV.wipe_nil, EV.wipe_cons, Nat.reduceAdd, Nat.zero_add, Int.cast_ofNat_Int, Int.reduceEq, forall_const, not_true_eq_false, not_false_eq_true, false_implies, implies_true, and_true, true_and, decide_true, decide_false, Bool.false_eq_true, Bool.true_eq_false, eq_self, reduceCtorEq, w_lc, it, beq_self_eq_true, Int.toNat_natCast]
  refine ⟨by omega, ?_⟩
  rw [l_new (by decide)]
  simp only [EV.w_loc, EV.w_at0, EV.w_atS, EV.w_lit, EV.w_op, EV.w_neg, EV.w_negR, EV.w_not, EV.w_cmp, EV.w_ite, EV.w_evT, EV.w_tup, EV.w_lst, EV.w_ix, EV.w_bi, EV.w_isi, EV.w_rev, EV.w_bop, EV.w_b1, EV.w_b2, EV.w_fld, EV.w_fldR, EV.w_call, EV.w_mth, EV.w_enil, EV.w_econs, EV.w_ono, EV.w_oso, EV.w_intO, EV.w_slc, EV.w_cno, EV.w_cso, EV.w_dix, EV.o_add, EV.o_sub, EV.o_mul, EV.o_div, EV.o_mod, EV.o_lt, EV.o_le, EV.o_gt, EV.o_ge, EV.o_eq, EV.o_ne, EV.o_tb, EV.o_ti, W_ok, W_ex, WS_ok, WS_ex, EV.s_nil, EV.s_cons, EV.s_asgN, EV.s_asgT, EV.s_par2, EV.s_par3, EV.s_set, EV.s_ex, EV.s_iff, EV.s_for, EV.s_wh, EV.s_ret, EV.s_retN, EV.s_rai, EV.rai_v, EV.s_try, EV.s_hnil, EV.s_pas, EV.s_brk, EV.s_cnt, NX_nx, NX_rt, NX_bk, NX_ct, JN_nx, JN_rt, JN_bk, JN_ct, TN_nx, TN_rt, TN_bk, TN_ct, RQ_nx, RQ_rt, EV.gc_v, EV.b_gcd, EV.b_abs, EV.b_max, EV.b_min, EV.b_int, EV.b_intb, EV.b_lens, EV.b_lent, EV.b_lenl, EV.b_isqrt, EV.b_listt, EV.b_listl, EV.t_1, EV.t_2, EV.t_3, EV.t_4, EV.ds_1, EV.ds_2, EV.ds_3, EV.ds_4, EV.l_0, EV.l_1, EV.l_2, EV.l_3, EV.l_4, EV.l_5, EV.l_6, EV.lm_2, EV.i_seq, EV.i_tup, EV.i_lst, EV.i_scr, EV.i_rng, EV.i_rngR, EV.i_rng2, List.set_cons_zero, List.set_cons_succ, List.map_cons, List.map_nil, List.cons_append, List.nil_append, List.replicate, List.length_cons, List.length_nil, List.take_length, decide_eq_true_eq, decide_eq_false_iff_not, okv, okr, oks, Bool.not_true, Bool.not_false, EV.x_t0, EV.x_t1, EV.x_t2, EV.x_l0, EV.x_l1, EV.x_l2, EV.c_20, EV.c_32, EV.isi_int_0, EV.isi_int_1, EV.isi_int_2, EV.isi_int_3, EV.isi_int_4, EV.isi_int_5, EV.isi_int_6, EV.isi_int_7, EV.isi_int_8, EV.isi_bool_0, EV.isi_bool_1, EV.isi_bool_2, EV.isi_bool_3, EV.isi_bool_4, EV.isi_bool_5, EV.isi_bool_6, EV.isi_bool_7, EV.isi_bool_8, EV.isi_str_0, EV.isi_str_1, EV.isi_str_2, EV.isi_str_3, EV.isi_str_4, EV.isi_str_5, EV.isi_str_6, EV.isi_str_7, EV.isi_str_8, EV.isi_none_0, EV.isi_none_1, EV.isi_none_2, EV.isi_none_3, EV.isi_none_4, EV.isi_none_5, EV.isi_none_6, EV.isi_none_7, EV.isi_none_8, EV.isi_tuple_0, EV.isi_tuple_1, EV.isi_tuple_2, EV.isi_tuple_3, EV.isi_tuple_4, EV.isi_tuple_5, EV.isi_tuple_6, EV.isi_tuple_7, EV.isi_tuple_8, EV.isi_list_0, EV.isi_list_1, EV.isi_list_2, EV.isi_list_3, EV.isi_list_4, EV.isi_list_5, EV.isi_list_6, EV.isi_list_7, EV.isi_list_8, EV.f_nm, EV.f_nil, EV.o_eqb, EV.o_neb, EV.o_isn, EV.o_isnn, EV.o_leq0, EV.o_lne0, EV.in_none, EV.in_int, EV.in_bool, EV.in_str, EV.in_tup, EV.in_lst, EV.td_v, SE_nx, SE_rtv, EV.sc_nil, EV.sc_none, EV.sc_v, EV.sc_r, EV.sc_s, EV.sc_x, Bool.not_eq_true', Bool.not_eq_false', EV.goB_a, EV.goB_o, EV.bo_t, EV.bo_l, EV.bo_nil, EV.bo_nm, EV.bo_tt, EV.bo_tl, EV.wipe_nil, EV.wipe_cons, Nat.reduceAdd, Nat.zero_add, Int.cast_ofNat_Int, Int.reduceEq, forall_const, not_true_eq_false, not_false_eq_true, false_implies, implies_true, and_true, true_and, decide_true, decide_false, Bool.false_eq_true, Bool.true_eq_false, eq_self, reduceCtorEq]
theorem same_lst {ds : List D} (hl : ds.length ≤ 1000) (hd : ∀ d ∈ ds, ∀ S, callN G wl k "_law_same" [.v d, .v d] S = .ok (B true) S) : callN G wl (k + 1) "_law_same" [.v (.list ds), .v (.list ds)] S = .ok (B true) S := by
  apply W_eq
  rw [w_fun lk__law_same rfl]
  have it := fun S => same_items (S := S) (c := k) (x := .list ds) (wl := wl) (fun i d e {S Q E} => x_l (l := ds) (i := (i : Int)) (d := d) (by rw [atI_nat e])) hd hl
  unfold cSame at it
  simp only [d__law_same, EV.w_loc, EV.w_at0, EV.w_atS, EV.w_lit, EV.w_op, EV.w_neg, EV.w_negR, EV.w_not, EV.w_cmp, EV.w_ite, EV.w_evT, EV.w_tup, EV.w_lst, EV.w_ix, EV.w_bi, EV.w_isi, EV.w_rev, EV.w_bop, EV.w_b1, EV.w_b2, EV.w_fld, EV.w_fldR, EV.w_call, EV.w_mth, EV.w_enil, EV.w_econs, EV.w_ono, EV.w_oso, EV.w_intO, EV.w_slc, EV.w_cno, EV.w_cso, EV.w_dix, EV.o_add, EV.o_sub, EV.o_mul, EV.o_div, EV.o_mod, EV.o_lt, EV.o_le, EV.o_gt, EV.o_ge, EV.o_eq, EV.o_ne, EV.o_tb, EV.o_ti, W_ok, W_ex, WS_ok, WS_ex, EV.s_nil, EV.s_cons, EV.s_asgN, EV.s_asgT, EV.s_par2, EV.s_par3, EV.s_set, EV.s_ex, EV.s_iff, EV.s_for, EV.s_wh, EV.s_ret, EV.s_retN, EV.s_rai, EV.rai_v, EV.s_try, EV.s_hnil, EV.s_pas, EV.s_brk, EV.s_cnt, NX_nx, NX_rt, NX_bk, NX_ct, JN_nx, JN_rt, JN_bk, JN_ct, TN_nx, TN_rt, TN_bk, TN_ct, RQ_nx, RQ_rt, EV.gc_v, EV.b_gcd, EV.b_abs, EV.b_max, EV.b_min, EV.b_int, EV.b_intb, EV.b_lens, EV.b_lent, EV.b_lenl, EV.b_isqrt, EV.b_listt, EV.b_listl, EV.t_1, EV.t_2, EV.t_3, EV.t_4, EV.ds_1, EV.ds_2, EV.ds_3, EV.ds_4, EV.l_0, EV.l_1, EV.l_2, EV.l_3, EV.l_4, EV.l_5, EV.l_6, EV.lm_2, EV.i_seq, EV.i_tup, EV.i_lst, EV.i_scr, EV.i_rng, EV.i_rngR, EV.i_rng2, List.set_cons_zero, List.set_cons_succ, List.map_cons, List.map_nil, List.cons_append, List.nil_append, List.replicate, List.length_cons, List.length_nil, List.take_length, decide_eq_true_eq, decide_eq_false_iff_not, okv, okr, oks, Bool.not_true, Bool.not_false, EV.x_t0, EV.x_t1, EV.x_t2, EV.x_l0, EV.x_l1, EV.x_l2, EV.c_20, EV.c_32, EV.isi_int_0, EV.isi_int_1, EV.isi_int_2, EV.isi_int_3, EV.isi_int_4, EV.isi_int_5, EV.isi_int_6, EV.isi_int_7, EV.isi_int_8, EV.isi_bool_0, EV.isi_bool_1, EV.isi_bool_2, EV.isi_bool_3, EV.isi_bool_4, EV.isi_bool_5, EV.isi_bool_6, EV.isi_bool_7, EV.isi_bool_8, EV.isi_str_0, EV.isi_str_1, EV.isi_str_2, EV.isi_str_3, EV.isi_str_4, EV.isi_str_5, EV.isi_str_6, EV.isi_str_7, EV.isi_str_8, EV.isi_none_0, EV.isi_none_1, EV.isi_none_2, EV.isi_none_3, EV.isi_none_4, EV.isi_none_5, EV.isi_none_6, EV.isi_none_7, EV.isi_none_8, EV.isi_tuple_0, EV.isi_tuple_1, EV.isi_tuple_2, EV.isi_tuple_3, EV.isi_tuple_4, EV.isi_tuple_5, EV.isi_tuple_6, EV.isi_tuple_7, EV.isi_tuple_8, EV.isi_list_0, EV.isi_list_1, EV.isi_list_2, EV.isi_list_3, EV.isi_list_4, EV.isi_list_5, EV.isi_list_6, EV.isi_list_7, EV.isi_list_8, EV.f_nm, EV.f_nil, EV.o_eqb, EV.o_neb, EV.o_isn, EV.o_isnn, EV.o_leq0, EV.o_lne0, EV.in_none, EV.in_int, EV.in_bool, EV.in_str, EV.in_tup, EV.in_lst, EV.td_v, SE_nx, SE_rtv, EV.sc_nil, EV.sc_none, EV.sc_v, EV.sc_r, EV.sc_s, EV.sc_x, Bool.not_eq_true', Bool.not_eq_false', EV.goB_a, EV.goB_o, EV.bo_t, EV.bo_l, EV.bo_nil, EV.bo_nm, EV.bo_tt, EV.bo_tl, EV.wipe_nil, EV.wipe_cons, Nat.reduceAdd, Nat.zero_add, Int.cast_ofNat_Int, Int.reduceEq, forall_const, not_true_eq_false, not_false_eq_true, false_implies, implies_true, and_true, true_and, decide_true, decide_false, Bool.false_eq_true, Bool.true_eq_false, eq_self, reduceCtorEq, w_lc, it, beq_self_eq_true, Int.toNat_natCast]
  refine ⟨by omega, ?_⟩
  rw [l_new (by decide)]
  simp only [EV.w_loc, EV.w_at0, EV.w_atS, EV.w_lit, EV.w_op, EV.w_neg, EV.w_negR, EV.w_not, EV.w_cmp, EV.w_ite, EV.w_evT, EV.w_tup, EV.w_lst, EV.w_ix, EV.w_bi, EV.w_isi, EV.w_rev, EV.w_bop, EV.w_b1, EV.w_b2, EV.w_fld, EV.w_fldR, EV.w_call, EV.w_mth, EV.w_enil, EV.w_econs, EV.w_ono, EV.w_oso, EV.w_intO, EV.w_slc, EV.w_cno, EV.w_cso, EV.w_dix, EV.o_add, EV.o_sub, EV.o_mul, EV.o_div, EV.o_mod, EV.o_lt, EV.o_le, EV.o_gt, EV.o_ge, EV.o_eq, EV.o_ne, EV.o_tb, EV.o_ti, W_ok, W_ex, WS_ok, WS_ex, EV.s_nil, EV.s_cons, EV.s_asgN, EV.s_asgT, EV.s_par2, EV.s_par3, EV.s_set, EV.s_ex, EV.s_iff, EV.s_for, EV.s_wh, EV.s_ret, EV.s_retN, EV.s_rai, EV.rai_v, EV.s_try, EV.s_hnil, EV.s_pas, EV.s_brk, EV.s_cnt, NX_nx, NX_rt, NX_bk, NX_ct, JN_nx, JN_rt, JN_bk, JN_ct, TN_nx, TN_rt, TN_bk, TN_ct, RQ_nx, RQ_rt, EV.gc_v, EV.b_gcd, EV.b_abs, EV.b_max, EV.b_min, EV.b_int, EV.b_intb, EV.b_lens, EV.b_lent, EV.b_lenl, EV.b_isqrt, EV.b_listt, EV.b_listl, EV.t_1, EV.t_2, EV.t_3, EV.t_4, EV.ds_1, EV.ds_2, EV.ds_3, EV.ds_4, EV.l_0, EV.l_1, EV.l_2, EV.l_3, EV.l_4, EV.l_5, EV.l_6, EV.lm_2, EV.i_seq, EV.i_tup, EV.i_lst, EV.i_scr, EV.i_rng, EV.i_rngR, EV.i_rng2, List.set_cons_zero, List.set_cons_succ, List.map_cons, List.map_nil, List.cons_append, List.nil_append, List.replicate, List.length_cons, List.length_nil, List.take_length, decide_eq_true_eq, decide_eq_false_iff_not, okv, okr, oks, Bool.not_true, Bool.not_false, EV.x_t0, EV.x_t1, EV.x_t2, EV.x_l0, EV.x_l1, EV.x_l2, EV.c_20, EV.c_32, EV.isi_int_0, EV.isi_int_1, EV.isi_int_2, EV.isi_int_3, EV.isi_int_4, EV.isi_int_5, EV.isi_int_6, EV.isi_int_7, EV.isi_int_8, EV.isi_bool_0, EV.isi_bool_1, EV.isi_bool_2, EV.isi_bool_3, EV.isi_bool_4, EV.isi_bool_5, EV.isi_bool_6, EV.isi_bool_7, EV.isi_bool_8, EV.isi_str_0, EV.isi_str_1, EV.isi_str_2, EV.isi_str_3, EV.isi_str_4, EV.isi_str_5, EV.isi_str_6, EV.isi_str_7, EV.isi_str_8, EV.isi_none_0, EV.isi_none_1, EV.isi_none_2, EV.isi_none_3, EV.isi_none_4, EV.isi_none_5, EV.isi_none_6, EV.isi_none_7, EV.isi_none_8, EV.isi_tuple_0, EV.isi_tuple_1, EV.isi_tuple_2, EV.isi_tuple_3, EV.isi_tuple_4, EV.isi_tuple_5, EV.isi_tuple_6, EV.isi_tuple_7, EV.isi_tuple_8, EV.isi_list_0, EV.isi_list_1, EV.isi_list_2, EV.isi_list_3, EV.isi_list_4, EV.isi_list_5, EV.isi_list_6, EV.isi_list_7, EV.isi_list_8, EV.f_nm, EV.f_nil, EV.o_eqb, EV.o_neb, EV.o_isn, EV.o_isnn, EV.o_leq0, EV.o_lne0, EV.in_none, EV.in_int, EV.in_bool, EV.in_str, EV.in_tup, EV.in_lst, EV.td_v, SE_nx, SE_rtv, EV.sc_nil, EV.sc_none, EV.sc_v, EV.sc_r, EV.sc_s, EV.sc_x, Bool.not_eq_true', Bool.not_eq_false', EV.goB_a, EV.goB_o, EV.bo_t, EV.bo_l, EV.bo_nil, EV.bo_nm, EV.bo_tt, EV.bo_tl, EV.wipe_nil, EV.wipe_cons, Nat.reduceAdd, Nat.zero_add, Int.cast_ofNat_Int, Int.reduceEq, forall_const, not_true_eq_false, not_false_eq_true, false_implies, implies_true, and_true, true_and, decide_true, decide_false, Bool.false_eq_true, Bool.true_eq_false, eq_self, reduceCtorEq]
theorem e_same (n : Nat) : ∀ (d : D) (S : Sto), OkD n d → callN G wl (k + n + 1) "_law_same" [.v d, .v d] S = .ok (B true) S := by
  induction n with
  | zero =>
    intro d S h
    cases d with
    | none => exact same_none
    | bool b => exact same_bool
    | int i => exact same_int
    | str s => exact same_str h
    | tuple ds => exact h.elim
    | list ds => exact h.elim
    | dict _ => exact h.elim
  | succ n ih =>
    intro d S h
    cases d with
    | none => exact same_none
    | bool b => exact same_bool
    | int i => exact same_int
    | str s => exact same_str h
    | tuple ds => exact same_tup h.1 fun d hd S => ih d S (h.2 d hd)
    | list ds => exact same_lst h.1 fun d hd S => ih d S (h.2 d hd)
    | dict _ => exact h.elim
end
end LawP

set_option Elab.async false
set_option linter.all false
set_option maxRecDepth 100000
set_option maxHeartbeats 8000000
namespace LawP
open PySem PySem.Spec PyProof.Rows L2 EV Num
section
variable {wl k : Nat} {S : Sto}
theorem p6 {Q : R → Sto → Prop} {E : EK} : W (opR .Pow (I 10) (I 6) S) Q E = Q (I 1000000) S := rfl
theorem p20 {Q : R → Sto → Prop} {E : EK} : W (opR .Pow (I 10) (I 20) S) Q E = Q (I 100000000000000000000) S := rfl
theorem p30 {Q : R → Sto → Prop} {E : EK} : W (opR .Pow (I 10) (I 30) S) Q E = Q (I 1000000000000000000000000000000) S := rfl
theorem k10 {m : Int} (h : Sz 200 m) : mulOk 10 m = true := mul_ok (Sz.const (p := 4) (by decide)) h (by decide)
/-- a number times a power of ten -/
def shf (p : Int × Int × Int) (n : Nat) : Int × Int × Int := low (p.1 * 10 ^ n) (p.2.1 * 10 ^ n) p.2.2
theorem shf_sn {p : Int × Int × Int} {n m t : Nat} (hp : Sn n m p) (h : p.2.2 ≠ 0) (ht : t ≤ 60) : Sn (n + 200) m (shf p t) :=
  low_sn h (hp.a.mul (pow10_sz ht)) (hp.b.mul (pow10_sz ht)) hp.c
theorem e_about {f : Int} {p : Int × Int × Int} {n m t : Nat} (hf : Kind f) (hp : Sn n m p) (lp : IsLow p) (hn : n ≤ 5000) (hm : m ≤ 4000) (ht : t ≤ 60) : callN G wl (k + 5) "about" [I f, .v (T3 p), I t] S = .ok (I (flo f (shf p t))) S := by
  apply W_eq
  rw [w_fun lk_about rfl]
  have c1 : ∀ S, callN G wl (k + 4) "check_number" [.v (T3 p)] S = .ok (.v .none) S := fun S => e_check_number hp (by omega) lp
  have c2 : ∀ S, callN G wl (k + 4) "check_kind" [I f] S = .ok (.v .none) S := fun S => e_check_kind hf
  have c3 : ∀ S, callN G wl (k + 4) "check_count" [I t] S = .ok (.v .none) S := fun S => e_check_count (by omega)
  simp only [d_about, EV.w_loc, EV.w_at0, EV.w_atS, EV.w_lit, EV.w_op, EV.w_neg, EV.w_negR, EV.w_not, EV.w_cmp, EV.w_ite, EV.w_evT, EV.w_tup, EV.w_lst, EV.w_ix, EV.w_bi, EV.w_isi, EV.w_rev, EV.w_bop, EV.w_b1, EV.w_b2, EV.w_fld, EV.w_fldR, EV.w_call, EV.w_mth, EV.w_enil, EV.w_econs, EV.w_ono, EV.w_oso, EV.w_intO, EV.w_slc, EV.w_cno, EV.w_cso, EV.w_dix, EV.o_add, EV.o_sub, EV.o_mul, EV.o_div, EV.o_mod, EV.o_lt, EV.o_le, EV.o_gt, EV.o_ge, EV.o_eq, EV.o_ne, EV.o_tb, EV.o_ti, W_ok, W_ex, WS_ok, WS_ex, EV.s_nil, EV.s_cons, EV.s_asgN, EV.s_asgT, EV.s_par2, EV.s_par3, EV.s_set, EV.s_ex, EV.s_iff, EV.s_for, EV.s_wh, EV.s_ret, EV.s_retN, EV.s_rai, EV.rai_v, EV.s_try, EV.s_hnil, EV.s_pas, EV.s_brk, EV.s_cnt, NX_nx, NX_rt, NX_bk, NX_ct, JN_nx, JN_rt, JN_bk, JN_ct, TN_nx, TN_rt, TN_bk, TN_ct, RQ_nx, RQ_rt, EV.gc_v, EV.b_gcd, EV.b_abs, EV.b_max, EV.b_min, EV.b_int, EV.b_intb, EV.b_lens, EV.b_lent, EV.b_lenl, EV.b_isqrt, EV.b_listt, EV.b_listl, EV.t_1, EV.t_2, EV.t_3, EV.t_4, EV.ds_1, EV.ds_2, EV.ds_3, EV.ds_4, EV.l_0, EV.l_1, EV.l_2, EV.l_3, EV.l_4, EV.l_5, EV.l_6, EV.lm_2, EV.i_seq, EV.i_tup, EV.i_lst, EV.i_scr, EV.i_rng, EV.i_rngR, EV.i_rng2, List.set_cons_zero, List.set_cons_succ, List.map_cons, List.map_nil, List.cons_append, List.nil_append, List.replicate, List.length_cons, List.length_nil, List.take_length, decide_eq_true_eq, decide_eq_false_iff_not, okv, okr, oks, Bool.not_true, Bool.not_false, EV.x_t0, EV.x_t1, EV.x_t2, EV.x_l0, EV.x_l1, EV.x_l2, EV.c_20, EV.c_32, EV.isi_int_0, EV.isi_int_1, EV.isi_int_2, EV.isi_int_3, EV.isi_int_4, EV.isi_int_5, EV.isi_int_6, EV.isi_int_7, EV.isi_int_8, EV.isi_bool_0, EV.isi_bool_1, EV.isi_bool_2, EV.isi_bool_3, EV.isi_bool_4, EV.isi_bool_5, EV.isi_bool_6, EV.isi_bool_7, EV.isi_bool_8, EV.isi_str_0, EV.isi_str_1, EV.isi_str_2, EV.isi_str_3, EV.isi_str_4, EV.isi_str_5, EV.isi_str_6, EV.isi_str_7, EV.isi_str_8, EV.isi_none_0, EV.isi_none_1, EV.isi_none_2, EV.isi_none_3, EV.isi_none_4, EV.isi_none_5, EV.isi_none_6, EV.isi_none_7, EV.isi_none_8, EV.isi_tuple_0, EV.isi_tuple_1, EV.isi_tuple_2, EV.isi_tuple_3, EV.isi_tuple_4, EV.isi_tuple_5, EV.isi_tuple_6, EV.isi_tuple_7, EV.isi_tuple_8, EV.isi_list_0, EV.isi_list_1, EV.isi_list_2, EV.isi_list_3, EV.isi_list_4, EV.isi_list_5, EV.isi_list_6, EV.isi_list_7, EV.isi_list_8, EV.f_nm, EV.f_nil, EV.o_eqb, EV.o_neb, EV.o_isn, EV.o_isnn, EV.o_leq0, EV.o_lne0, EV.in_none, EV.in_int, EV.in_bool, EV.in_str, EV.in_tup, EV.in_lst, EV.td_v, SE_nx, SE_rtv, EV.sc_nil, EV.sc_none, EV.sc_v, EV.sc_r, EV.sc_s, EV.sc_x, Bool.not_eq_true', Bool.not_eq_false', EV.goB_a, EV.goB_o, EV.bo_t, EV.bo_l, EV.bo_nil, EV.bo_nm, EV.bo_tt, EV.bo_tl, EV.wipe_nil, EV.wipe_cons, Nat.reduceAdd, Nat.zero_add, Int.cast_ofNat_Int, Int.reduceEq, forall_const, not_true_eq_false, not_false_eq_true, false_implies, implies_true, and_true, true_and, decide_true, decide_false, Bool.false_eq_true, Bool.true_eq_false, eq_self, reduceCtorEq, c_is_integer_0, c_lowest_0, c_is_lowest_0, c_sum_of_two_0, c_opposite_0, c_difference_0, c_times_integer_0, c_rooted_0, c_sign_of_0, c_order_0, c_floor_of_number_0, c_check_kind_0, c_check_number_0, c_check_count_0, c_is_number_0, c_sign_0, c_sign_1, c_compared_0, c_compared_1, c_floor_of_0, c_floor_of_1, c_about_0, c_about_1, c_unit_0, c_unit_1, c_stretch_unit_0, c_stretch_unit_1, c__law_deck_0, c__law_take_0, c__law_gcd_0, c__law_num_0, c__law_plus_0, c__law_minus_0, c__law_times_0, c__law_sign_0, c__law_same_0, c__law_number_0, c__law_near_0, c__law_drawn_0, c__law_is_floor_0, c__law_right_0, c__law_units_0, c1, c2, c3]
  refine ⟨by omega, ?_⟩
  refine f_inv (fun ds ρ S' => ∃ x, ds.length ≤ t ∧ S' = S ∧ ρ = [some (I f), some (.v (T3 p)), some (I t), some (I (10 ^ (t - ds.length))), x]) ?_ ?_ _ _ _ ?_
  · rintro d ds ρ S' ⟨x, hl, rfl, rfl⟩
    refine ⟨_, rfl, ?_⟩
    simp only [List.length_cons] at hl ⊢
    simp only [EV.w_loc, EV.w_at0, EV.w_atS, EV.w_lit, EV.w_op, EV.w_neg, EV.w_negR, EV.w_not, EV.w_cmp, EV.w_ite, EV.w_evT, EV.w_tup, EV.w_lst, EV.w_ix, EV.w_bi, EV.w_isi, EV.w_rev, EV.w_bop, EV.w_b1, EV.w_b2, EV.w_fld, EV.w_fldR, EV.w_call, EV.w_mth, EV.w_enil, EV.w_econs, EV.w_ono, EV.w_oso, EV.w_intO, EV.w_slc, EV.w_cno, EV.w_cso, EV.w_dix, EV.o_add, EV.o_sub, EV.o_mul, EV.o_div, EV.o_mod, EV.o_lt, EV.o_le, EV.o_gt, EV.o_ge, EV.o_eq, EV.o_ne, EV.o_tb, EV.o_ti, W_ok, W_ex, WS_ok, WS_ex, EV.s_nil, EV.s_cons, EV.s_asgN, EV.s_asgT, EV.s_par2, EV.s_par3, EV.s_set, EV.s_ex, EV.s_iff, EV.s_for, EV.s_wh, EV.s_ret, EV.s_retN, EV.s_rai, EV.rai_v, EV.s_try, EV.s_hnil, EV.s_pas, EV.s_brk, EV.s_cnt, NX_nx, NX_rt, NX_bk, NX_ct, JN_nx, JN_rt, JN_bk, JN_ct, TN_nx, TN_rt, TN_bk, TN_ct, RQ_nx, RQ_rt, EV.gc_v, EV.b_gcd, EV.b_abs, EV.b_max, EV.b_min, EV.b_int, EV.b_intb, EV.b_lens, EV.b_lent, EV.b_lenl, EV.b_isqrt, EV.b_listt, EV.b_listl, EV.t_1, EV.t_2, EV.t_3, EV.t_4, EV.ds_1, EV.ds_2, EV.ds_3, EV.ds_4, EV.l_0, EV.l_1, EV.l_2, EV.l_3, EV.l_4, EV.l_5, EV.l_6, EV.lm_2, EV.i_seq, EV.i_tup, EV.i_lst, EV.i_scr, EV.i_rng, EV.i_rngR, EV.i_rng2, List.set_cons_zero, List.set_cons_succ, List.map_cons, List.map_nil, List.cons_append, List.nil_append, List.replicate, List.length_cons, List.length_nil, List.take_length, decide_eq_true_eq, decide_eq_false_iff_not, okv, okr, oks, Bool.not_true, Bool.not_false, EV.x_t0, EV.x_t1, EV.x_t2, EV.x_l0, EV.x_l1, EV.x_l2, EV.c_20, EV.c_32, EV.isi_int_0, EV.isi_int_1, EV.isi_int_2, EV.isi_int_3, EV.isi_int_4, EV.isi_int_5, EV.isi_int_6, EV.isi_int_7, EV.isi_int_8, EV.isi_bool_0, EV.isi_bool_1, EV.isi_bool_2, EV.isi_bool_3, EV.isi_bool_4, EV.isi_bool_5, EV.isi_bool_6, EV.isi_bool_7, EV.isi_bool_8, EV.isi_str_0, EV.isi_str_1, EV.isi_str_2, EV.isi_str_3, EV.isi_str_4, EV.isi_str_5, EV.isi_str_6, EV.isi_str_7, EV.isi_str_8, EV.isi_none_0, EV.isi_none_1, EV.isi_none_2, EV.isi_none_3, EV.isi_none_4, EV.isi_none_5, EV.isi_none_6, EV.isi_none_7, EV.isi_none_8, EV.isi_tuple_0, EV.isi_tuple_1, EV.isi_tuple_2, EV.isi_tuple_3, EV.isi_tuple_4, EV.isi_tuple_5, EV.isi_tuple_6, EV.isi_tuple_7, EV.isi_tuple_8, EV.isi_list_0, EV.isi_list_1, EV.isi_list_2, EV.isi_list_3, EV.isi_list_4, EV.isi_list_5, EV.isi_list_6, EV.isi_list_7, EV.isi_list_8, EV.f_nm, EV.f_nil, EV.o_eqb, EV.o_neb, EV.o_isn, EV.o_isnn, EV.o_leq0, EV.o_lne0, EV.in_none, EV.in_int, EV.in_bool, EV.in_str, EV.in_tup, EV.in_lst, EV.td_v, SE_nx, SE_rtv, EV.sc_nil, EV.sc_none, EV.sc_v, EV.sc_r, EV.sc_s, EV.sc_x, Bool.not_eq_true', Bool.not_eq_false', EV.goB_a, EV.goB_o, EV.bo_t, EV.bo_l, EV.bo_nil, EV.bo_nm, EV.bo_tt, EV.bo_tl, EV.wipe_nil, EV.wipe_cons, Nat.reduceAdd, Nat.zero_add, Int.cast_ofNat_Int, Int.reduceEq, forall_const, not_true_eq_false, not_false_eq_true, false_implies, implies_true, and_true, true_and, decide_true, decide_false, Bool.false_eq_true, Bool.true_eq_false, eq_self, reduceCtorEq, k10 (pow10_sz (show t - (ds.length + 1) ≤ 60 by omega))]
    have e : (10 : Int) * 10 ^ (t - (ds.length + 1)) = 10 ^ (t - ds.length) := by
      rw [show t - ds.length = (t - (ds.length + 1)) + 1 by omega, Int.pow_succ, Int.mul_comm]
    rw [e]
    exact ⟨_, by omega, rfl⟩
  · rintro ρ S' ⟨x, hl, rfl, rfl⟩
    have e1 : ∀ S, callN G wl (k + 4) "times_integer" [.v (T3 p), I (10 ^ t)] S = .ok (.v (T3 (shf p t))) S := fun S => e_times_integer hp (pow10_sz ht) lp.ne (by omega) (by omega) (by omega)
    have e2 : ∀ S, callN G wl (k + 4) "floor_of_number" [I f, .v (T3 (shf p t))] S = .ok (I (flo f (shf p t))) S := fun S => e_floor hf (shf_sn hp lp.ne ht) (low_low lp.ne).1 (by omega) (by omega)
    simp only [EV.w_loc, EV.w_at0, EV.w_atS, EV.w_lit, EV.w_op, EV.w_neg, EV.w_negR, EV.w_not, EV.w_cmp, EV.w_ite, EV.w_evT, EV.w_tup, EV.w_lst, EV.w_ix, EV.w_bi, EV.w_isi, EV.w_rev, EV.w_bop, EV.w_b1, EV.w_b2, EV.w_fld, EV.w_fldR, EV.w_call, EV.w_mth, EV.w_enil, EV.w_econs, EV.w_ono, EV.w_oso, EV.w_intO, EV.w_slc, EV.w_cno, EV.w_cso, EV.w_dix, EV.o_add, EV.o_sub, EV.o_mul, EV.o_div, EV.o_mod, EV.o_lt, EV.o_le, EV.o_gt, EV.o_ge, EV.o_eq, EV.o_ne, EV.o_tb, EV.o_ti, W_ok, W_ex, WS_ok, WS_ex, EV.s_nil, EV.s_cons, EV.s_asgN, EV.s_asgT, EV.s_par2, EV.s_par3, EV.s_set, EV.s_ex, EV.s_iff, EV.s_for, EV.s_wh, EV.s_ret, EV.s_retN, EV.s_rai, EV.rai_v, EV.s_try, EV.s_hnil, EV.s_pas, EV.s_brk, EV.s_cnt, NX_nx, NX_rt, NX_bk, NX_ct, JN_nx, JN_rt, JN_bk, JN_ct, TN_nx, TN_rt, TN_bk, TN_ct, RQ_nx, RQ_rt, EV.gc_v, EV.b_gcd, EV.b_abs, EV.b_max, EV.b_min, EV.b_int, EV.b_intb, EV.b_lens, EV.b_lent, EV.b_lenl, EV.b_isqrt, EV.b_listt, EV.b_listl, EV.t_1, EV.t_2, EV.t_3, EV.t_4, EV.ds_1, EV.ds_2, EV.ds_3, EV.ds_4, EV.l_0, EV.l_1, EV.l_2, EV.l_3, EV.l_4, EV.l_5, EV.l_6, EV.lm_2, EV.i_seq, EV.i_tup, EV.i_lst, EV.i_scr, EV.i_rng, EV.i_rngR, EV.i_rng2, List.set_cons_zero, List.set_cons_succ, List.map_cons, List.map_nil, List.cons_append, List.nil_append, List.replicate, List.length_cons, List.length_nil, List.take_length, decide_eq_true_eq, decide_eq_false_iff_not, okv, okr, oks, Bool.not_true, Bool.not_false, EV.x_t0, EV.x_t1, EV.x_t2, EV.x_l0, EV.x_l1, EV.x_l2, EV.c_20, EV.c_32, EV.isi_int_0, EV.isi_int_1, EV.isi_int_2, EV.isi_int_3, EV.isi_int_4, EV.isi_int_5, EV.isi_int_6, EV.isi_int_7, EV.isi_int_8, EV.isi_bool_0, EV.isi_bool_1, EV.isi_bool_2, EV.isi_bool_3, EV.isi_bool_4, EV.isi_bool_5, EV.isi_bool_6, EV.isi_bool_7, EV.isi_bool_8, EV.isi_str_0, EV.isi_str_1, EV.isi_str_2, EV.isi_str_3, EV.isi_str_4, EV.isi_str_5, EV.isi_str_6, EV.isi_str_7, EV.isi_str_8, EV.isi_none_0, EV.isi_none_1, EV.isi_none_2, EV.isi_none_3, EV.isi_none_4, EV.isi_none_5, EV.isi_none_6, EV.isi_none_7, EV.isi_none_8, EV.isi_tuple_0, EV.isi_tuple_1, EV.isi_tuple_2, EV.isi_tuple_3, EV.isi_tuple_4, EV.isi_tuple_5, EV.isi_tuple_6, EV.isi_tuple_7, EV.isi_tuple_8, EV.isi_list_0, EV.isi_list_1, EV.isi_list_2, EV.isi_list_3, EV.isi_list_4, EV.isi_list_5, EV.isi_list_6, EV.isi_list_7, EV.isi_list_8, EV.f_nm, EV.f_nil, EV.o_eqb, EV.o_neb, EV.o_isn, EV.o_isnn, EV.o_leq0, EV.o_lne0, EV.in_none, EV.in_int, EV.in_bool, EV.in_str, EV.in_tup, EV.in_lst, EV.td_v, SE_nx, SE_rtv, EV.sc_nil, EV.sc_none, EV.sc_v, EV.sc_r, EV.sc_s, EV.sc_x, Bool.not_eq_true', Bool.not_eq_false', EV.goB_a, EV.goB_o, EV.bo_t, EV.bo_l, EV.bo_nil, EV.bo_nm, EV.bo_tt, EV.bo_tl, EV.wipe_nil, EV.wipe_cons, Nat.reduceAdd, Nat.zero_add, Int.cast_ofNat_Int, Int.reduceEq, forall_const, not_true_eq_false, not_false_eq_true, false_implies, implies_true, and_true, true_and, decide_true, decide_false, Bool.false_eq_true, Bool.true_eq_false, eq_self, reduceCtorEq, c_is_integer_0, c_lowest_0, c_is_lowest_0, c_sum_of_two_0, c_opposite_0, c_difference_0, c_times_integer_0, c_rooted_0, c_sign_of_0, c_order_0, c_floor_of_number_0, c_check_kind_0, c_check_number_0, c_check_count_0, c_is_number_0, c_sign_0, c_sign_1, c_compared_0, c_compared_1, c_floor_of_0, c_floor_of_1, c_about_0, c_about_1, c_unit_0, c_unit_1, c_stretch_unit_0, c_stretch_unit_1, c__law_deck_0, c__law_take_0, c__law_gcd_0, c__law_num_0, c__law_plus_0, c__law_minus_0, c__law_times_0, c__law_sign_0, c__law_same_0, c__law_number_0, c__law_near_0, c__law_drawn_0, c__law_is_floor_0, c__law_right_0, c__law_units_0, List.length_nil, Nat.sub_zero, e1, e2]
  · have e : (10 : Int) ^ (t - (rngD 0 (t : Int).toNat).length) = 1 := by
      rw [rng_len]
      simp
    rw [show (PyData.int 1) = .int (10 ^ (t - (rngD 0 (t : Int).toNat).length)) by rw [e]]
    exact ⟨_, by rw [rng_len]; omega, rfl, rfl⟩
/-! ### a number near 0 -/
theorem stp_sz {f : Int} (hf : Kind f) {a b c : Int × Int × Int} (ha : Sn 2 1 a) (hb : Sn 2 1 b) (hc : Sn 2 1 c) : Sn 2 1 (if f = 2 then a else if f = 3 then b else c) := by
  split
  · exact ha
  · split
    · exact hb
    · exact hc
theorem w_near (hw : Wl wl) {f : Int} (hf : Kind f) {j : Nat} {Q : R → Sto → Prop} {E : EK} (dk : Deck S j) (hQ : ∀ (p : Int × Int × Int) (S' : Sto), IsLow p → Sn 4500 50 p → Deck S' j → Same S S' j → Q (.v (T3 p)) S') : W (callN G wl (k + 4) "_law_near" [.r j, I f] S) Q E := by
  rw [w_fun lk__law_near rfl]
  obtain ⟨st, hst, sst⟩ : ∃ st : Int × Int × Int, (if f = 2 then T3 (-1, 1, 1) else if f = 3 then T3 (2, -1, 1) else T3 (1, -1, 1)) = T3 st ∧ Sn 2 1 st := by
    rcases hf with rfl | rfl | rfl
    · exact ⟨_, rfl, ⟨by decide, by decide, by decide⟩⟩
    · exact ⟨_, rfl, ⟨by decide, by decide, by decide⟩⟩
    · exact ⟨_, rfl, ⟨by decide, by decide, by decide⟩⟩
  have hst' : (if f = 2 then PyData.tuple [.int (-1), .int 1, .int 1] else if f = 3 then PyData.tuple [.int 2, .int (-1), .int 1] else PyData.tuple [.int 1, .int (-1), .int 1]) = T3 st := hst
  simp only [d__law_near, EV.w_loc, EV.w_at0, EV.w_atS, EV.w_lit, EV.w_op, EV.w_neg, EV.w_negR, EV.w_not, EV.w_cmp, EV.w_ite, EV.w_evT, EV.w_tup, EV.w_lst, EV.w_ix, EV.w_bi, EV.w_isi, EV.w_rev, EV.w_bop, EV.w_b1, EV.w_b2, EV.w_fld, EV.w_fldR, EV.w_call, EV.w_mth, EV.w_enil, EV.w_econs, EV.w_ono, EV.w_oso, EV.w_intO, EV.w_slc, EV.w_cno, EV.w_cso, EV.w_dix, EV.o_add, EV.o_sub, EV.o_mul, EV.o_div, EV.o_mod, EV.o_lt, EV.o_le, EV.o_gt, EV.o_ge, EV.o_eq, EV.o_ne, EV.o_tb, EV.o_ti, W_ok, W_ex, WS_ok, WS_ex, EV.s_nil, EV.s_cons, EV.s_asgN, EV.s_asgT, EV.s_par2, EV.s_par3, EV.s_set, EV.s_ex, EV.s_iff, EV.s_for, EV.s_wh, EV.s_ret, EV.s_retN, EV.s_rai, EV.rai_v, EV.s_try, EV.s_hnil, EV.s_pas, EV.s_brk, EV.s_cnt, NX_nx, NX_rt, NX_bk, NX_ct, JN_nx, JN_rt, JN_bk, JN_ct, TN_nx, TN_rt, TN_bk, TN_ct, RQ_nx, RQ_rt, EV.gc_v, EV.b_gcd, EV.b_abs, EV.b_max, EV.b_min, EV.b_int, EV.b_intb, EV.b_lens, EV.b_lent, EV.b_lenl, EV.b_isqrt, EV.b_listt, EV.b_listl, EV.t_1, EV.t_2, EV.t_3, EV.t_4, EV.ds_1, EV.ds_2, EV.ds_3, EV.ds_4, EV.l_0, EV.l_1, EV.l_2, EV.l_3, EV.l_4, EV.l_5, EV.l_6, EV.lm_2, EV.i_seq, EV.i_tup, EV.i_lst, EV.i_scr, EV.i_rng, EV.i_rngR, EV.i_rng2, List.set_cons_zero, List.set_cons_succ, List.map_cons, List.map_nil, List.cons_append, List.nil_append, List.replicate, List.length_cons, List.length_nil, List.take_length, decide_eq_true_eq, decide_eq_false_iff_not, okv, okr, oks, Bool.not_true, Bool.not_false, EV.x_t0, EV.x_t1, EV.x_t2, EV.x_l0, EV.x_l1, EV.x_l2, EV.c_20, EV.c_32, EV.isi_int_0, EV.isi_int_1, EV.isi_int_2, EV.isi_int_3, EV.isi_int_4, EV.isi_int_5, EV.isi_int_6, EV.isi_int_7, EV.isi_int_8, EV.isi_bool_0, EV.isi_bool_1, EV.isi_bool_2, EV.isi_bool_3, EV.isi_bool_4, EV.isi_bool_5, EV.isi_bool_6, EV.isi_bool_7, EV.isi_bool_8, EV.isi_str_0, EV.isi_str_1, EV.isi_str_2, EV.isi_str_3, EV.isi_str_4, EV.isi_str_5, EV.isi_str_6, EV.isi_str_7, EV.isi_str_8, EV.isi_none_0, EV.isi_none_1, EV.isi_none_2, EV.isi_none_3, EV.isi_none_4, EV.isi_none_5, EV.isi_none_6, EV.isi_none_7, EV.isi_none_8, EV.isi_tuple_0, EV.isi_tuple_1, EV.isi_tuple_2, EV.isi_tuple_3, EV.isi_tuple_4, EV.isi_tuple_5, EV.isi_tuple_6, EV.isi_tuple_7, EV.isi_tuple_8, EV.isi_list_0, EV.isi_list_1, EV.isi_list_2, EV.isi_list_3, EV.isi_list_4, EV.isi_list_5, EV.isi_list_6, EV.isi_list_7, EV.isi_list_8, EV.f_nm, EV.f_nil, EV.o_eqb, EV.o_neb, EV.o_isn, EV.o_isnn, EV.o_leq0, EV.o_lne0, EV.in_none, EV.in_int, EV.in_bool, EV.in_str, EV.in_tup, EV.in_lst, EV.td_v, SE_nx, SE_rtv, EV.sc_nil, EV.sc_none, EV.sc_v, EV.sc_r, EV.sc_s, EV.sc_x, Bool.not_eq_true', Bool.not_eq_false', EV.goB_a, EV.goB_o, EV.bo_t, EV.bo_l, EV.bo_nil, EV.bo_nm, EV.bo_tt, EV.bo_tl, EV.wipe_nil, EV.wipe_cons, Nat.reduceAdd, Nat.zero_add, Int.cast_ofNat_Int, Int.reduceEq, forall_const, not_true_eq_false, not_false_eq_true, false_implies, implies_true, and_true, true_and, decide_true, decide_false, Bool.false_eq_true, Bool.true_eq_false, eq_self, reduceCtorEq, c_is_integer_0, c_lowest_0, c_is_lowest_0, c_sum_of_two_0, c_opposite_0, c_difference_0, c_times_integer_0, c_rooted_0, c_sign_of_0, c_order_0, c_floor_of_number_0, c_check_kind_0, c_check_number_0, c_check_count_0, c_is_number_0, c_sign_0, c_sign_1, c_compared_0, c_compared_1, c_floor_of_0, c_floor_of_1, c_about_0, c_about_1, c_unit_0, c_unit_1, c_stretch_unit_0, c_stretch_unit_1, c__law_deck_0, c__law_take_0, c__law_gcd_0, c__law_num_0, c__law_plus_0, c__law_minus_0, c__law_times_0, c__law_sign_0, c__law_same_0, c__law_number_0, c__law_near_0, c__law_drawn_0, c__law_is_floor_0, c__law_right_0, c__law_units_0, kdx hf, hst']
  refine w_number hw dk fun p S1 lp sp dk1 sm1 => ?_
  (try simp only [EV.w_loc, EV.w_at0, EV.w_atS, EV.w_lit, EV.w_op, EV.w_neg, EV.w_negR, EV.w_not, EV.w_cmp, EV.w_ite, EV.w_evT, EV.w_tup, EV.w_lst, EV.w_ix, EV.w_bi, EV.w_isi, EV.w_rev, EV.w_bop, EV.w_b1, EV.w_b2, EV.w_fld, EV.w_fldR, EV.w_call, EV.w_mth, EV.w_enil, EV.w_econs, EV.w_ono, EV.w_oso, EV.w_intO, EV.w_slc, EV.w_cno, EV.w_cso, EV.w_dix, EV.o_add, EV.o_sub, EV.o_mul, EV.o_div, EV.o_mod, EV.o_lt, EV.o_le, EV.o_gt, EV.o_ge, EV.o_eq, EV.o_ne, EV.o_tb, EV.o_ti, W_ok, W_ex, WS_ok, WS_ex, EV.s_nil, EV.s_cons, EV.s_asgN, EV.s_asgT, EV.s_par2, EV.s_par3, EV.s_set, EV.s_ex, EV.s_iff, EV.s_for, EV.s_wh, EV.s_ret, EV.s_retN, EV.s_rai, EV.rai_v, EV.s_try, EV.s_hnil, EV.s_pas, EV.s_brk, EV.s_cnt, NX_nx, NX_rt, NX_bk, NX_ct, JN_nx, JN_rt, JN_bk, JN_ct, TN_nx, TN_rt, TN_bk, TN_ct, RQ_nx, RQ_rt, EV.gc_v, EV.b_gcd, EV.b_abs, EV.b_max, EV.b_min, EV.b_int, EV.b_intb, EV.b_lens, EV.b_lent, EV.b_lenl, EV.b_isqrt, EV.b_listt, EV.b_listl, EV.t_1, EV.t_2, EV.t_3, EV.t_4, EV.ds_1, EV.ds_2, EV.ds_3, EV.ds_4, EV.l_0, EV.l_1, EV.l_2, EV.l_3, EV.l_4, EV.l_5, EV.l_6, EV.lm_2, EV.i_seq, EV.i_tup, EV.i_lst, EV.i_scr, EV.i_rng, EV.i_rngR, EV.i_rng2, List.set_cons_zero, List.set_cons_succ, List.map_cons, List.map_nil, List.cons_append, List.nil_append, List.replicate, List.length_cons, List.length_nil, List.take_length, decide_eq_true_eq, decide_eq_false_iff_not, okv, okr, oks, Bool.not_true, Bool.not_false, EV.x_t0, EV.x_t1, EV.x_t2, EV.x_l0, EV.x_l1, EV.x_l2, EV.c_20, EV.c_32, EV.isi_int_0, EV.isi_int_1, EV.isi_int_2, EV.isi_int_3, EV.isi_int_4, EV.isi_int_5, EV.isi_int_6, EV.isi_int_7, EV.isi_int_8, EV.isi_bool_0, EV.isi_bool_1, EV.isi_bool_2, EV.isi_bool_3, EV.isi_bool_4, EV.isi_bool_5, EV.isi_bool_6, EV.isi_bool_7, EV.isi_bool_8, EV.isi_str_0, EV.isi_str_1, EV.isi_str_2, EV.isi_str_3, EV.isi_str_4, EV.isi_str_5, EV.isi_str_6, EV.isi_str_7, EV.isi_str_8, EV.isi_none_0, EV.isi_none_1, EV.isi_none_2, EV.isi_none_3, EV.isi_none_4, EV.isi_none_5, EV.isi_none_6, EV.isi_none_7, EV.isi_none_8, EV.isi_tuple_0, EV.isi_tuple_1, EV.isi_tuple_2, EV.isi_tuple_3, EV.isi_tuple_4, EV.isi_tuple_5, EV.isi_tuple_6, EV.isi_tuple_7, EV.isi_tuple_8, EV.isi_list_0, EV.isi_list_1, EV.isi_list_2, EV.isi_list_3, EV.isi_list_4, EV.isi_list_5, EV.isi_list_6, EV.isi_list_7, EV.isi_list_8, EV.f_nm, EV.f_nil, EV.o_eqb, EV.o_neb, EV.o_isn, EV.o_isnn, EV.o_leq0, EV.o_lne0, EV.in_none, EV.in_int, EV.in_bool, EV.in_str, EV.in_tup, EV.in_lst, EV.td_v, SE_nx, SE_rtv, EV.sc_nil, EV.sc_none, EV.sc_v, EV.sc_r, EV.sc_s, EV.sc_x, Bool.not_eq_true', Bool.not_eq_false', EV.goB_a, EV.goB_o, EV.bo_t, EV.bo_l, EV.bo_nil, EV.bo_nm, EV.bo_tt, EV.bo_tl, EV.wipe_nil, EV.wipe_cons, Nat.reduceAdd, Nat.zero_add, Int.cast_ofNat_Int, Int.reduceEq, forall_const, not_true_eq_false, not_false_eq_true, false_implies, implies_true, and_true, true_and, decide_true, decide_false, Bool.false_eq_true, Bool.true_eq_false, eq_self, reduceCtorEq, c_is_integer_0, c_lowest_0, c_is_lowest_0, c_sum_of_two_0, c_opposite_0, c_difference_0, c_times_integer_0, c_rooted_0, c_sign_of_0, c_order_0, c_floor_of_number_0, c_check_kind_0, c_check_number_0, c_check_count_0, c_is_number_0, c_sign_0, c_sign_1, c_compared_0, c_compared_1, c_floor_of_0, c_floor_of_1, c_about_0, c_about_1, c_unit_0, c_unit_1, c_stretch_unit_0, c_stretch_unit_1, c__law_deck_0, c__law_take_0, c__law_gcd_0, c__law_num_0, c__law_plus_0, c__law_minus_0, c__law_times_0, c__law_sign_0, c__law_same_0, c__law_number_0, c__law_near_0, c__law_drawn_0, c__law_is_floor_0, c__law_right_0, c__law_units_0])
  refine w_take dk1 (by decide) (Sz.const (by decide)) fun t S2 t0 t1 dk2 sm2 => ?_
  (try simp only [EV.w_loc, EV.w_at0, EV.w_atS, EV.w_lit, EV.w_op, EV.w_neg, EV.w_negR, EV.w_not, EV.w_cmp, EV.w_ite, EV.w_evT, EV.w_tup, EV.w_lst, EV.w_ix, EV.w_bi, EV.w_isi, EV.w_rev, EV.w_bop, EV.w_b1, EV.w_b2, EV.w_fld, EV.w_fldR, EV.w_call, EV.w_mth, EV.w_enil, EV.w_econs, EV.w_ono, EV.w_oso, EV.w_intO, EV.w_slc, EV.w_cno, EV.w_cso, EV.w_dix, EV.o_add, EV.o_sub, EV.o_mul, EV.o_div, EV.o_mod, EV.o_lt, EV.o_le, EV.o_gt, EV.o_ge, EV.o_eq, EV.o_ne, EV.o_tb, EV.o_ti, W_ok, W_ex, WS_ok, WS_ex, EV.s_nil, EV.s_cons, EV.s_asgN, EV.s_asgT, EV.s_par2, EV.s_par3, EV.s_set, EV.s_ex, EV.s_iff, EV.s_for, EV.s_wh, EV.s_ret, EV.s_retN, EV.s_rai, EV.rai_v, EV.s_try, EV.s_hnil, EV.s_pas, EV.s_brk, EV.s_cnt, NX_nx, NX_rt, NX_bk, NX_ct, JN_nx, JN_rt, JN_bk, JN_ct, TN_nx, TN_rt, TN_bk, TN_ct, RQ_nx, RQ_rt, EV.gc_v, EV.b_gcd, EV.b_abs, EV.b_max, EV.b_min, EV.b_int, EV.b_intb, EV.b_lens, EV.b_lent, EV.b_lenl, EV.b_isqrt, EV.b_listt, EV.b_listl, EV.t_1, EV.t_2, EV.t_3, EV.t_4, EV.ds_1, EV.ds_2, EV.ds_3, EV.ds_4, EV.l_0, EV.l_1, EV.l_2, EV.l_3, EV.l_4, EV.l_5, EV.l_6, EV.lm_2, EV.i_seq, EV.i_tup, EV.i_lst, EV.i_scr, EV.i_rng, EV.i_rngR, EV.i_rng2, List.set_cons_zero, List.set_cons_succ, List.map_cons, List.map_nil, List.cons_append, List.nil_append, List.replicate, List.length_cons, List.length_nil, List.take_length, decide_eq_true_eq, decide_eq_false_iff_not, okv, okr, oks, Bool.not_true, Bool.not_false, EV.x_t0, EV.x_t1, EV.x_t2, EV.x_l0, EV.x_l1, EV.x_l2, EV.c_20, EV.c_32, EV.isi_int_0, EV.isi_int_1, EV.isi_int_2, EV.isi_int_3, EV.isi_int_4, EV.isi_int_5, EV.isi_int_6, EV.isi_int_7, EV.isi_int_8, EV.isi_bool_0, EV.isi_bool_1, EV.isi_bool_2, EV.isi_bool_3, EV.isi_bool_4, EV.isi_bool_5, EV.isi_bool_6, EV.isi_bool_7, EV.isi_bool_8, EV.isi_str_0, EV.isi_str_1, EV.isi_str_2, EV.isi_str_3, EV.isi_str_4, EV.isi_str_5, EV.isi_str_6, EV.isi_str_7, EV.isi_str_8, EV.isi_none_0, EV.isi_none_1, EV.isi_none_2, EV.isi_none_3, EV.isi_none_4, EV.isi_none_5, EV.isi_none_6, EV.isi_none_7, EV.isi_none_8, EV.isi_tuple_0, EV.isi_tuple_1, EV.isi_tuple_2, EV.isi_tuple_3, EV.isi_tuple_4, EV.isi_tuple_5, EV.isi_tuple_6, EV.isi_tuple_7, EV.isi_tuple_8, EV.isi_list_0, EV.isi_list_1, EV.isi_list_2, EV.isi_list_3, EV.isi_list_4, EV.isi_list_5, EV.isi_list_6, EV.isi_list_7, EV.isi_list_8, EV.f_nm, EV.f_nil, EV.o_eqb, EV.o_neb, EV.o_isn, EV.o_isnn, EV.o_leq0, EV.o_lne0, EV.in_none, EV.in_int, EV.in_bool, EV.in_str, EV.in_tup, EV.in_lst, EV.td_v, SE_nx, SE_rtv, EV.sc_nil, EV.sc_none, EV.sc_v, EV.sc_r, EV.sc_s, EV.sc_x, Bool.not_eq_true', Bool.not_eq_false', EV.goB_a, EV.goB_o, EV.bo_t, EV.bo_l, EV.bo_nil, EV.bo_nm, EV.bo_tt, EV.bo_tl, EV.wipe_nil, EV.wipe_cons, Nat.reduceAdd, Nat.zero_add, Int.cast_ofNat_Int, Int.reduceEq, forall_const, not_true_eq_false, not_false_eq_true, false_implies, implies_true, and_true, true_and, decide_true, decide_false, Bool.false_eq_true, Bool.true_eq_false, eq_self, reduceCtorEq, c_is_integer_0, c_lowest_0, c_is_lowest_0, c_sum_of_two_0, c_opposite_0, c_difference_0, c_times_integer_0, c_rooted_0, c_sign_of_0, c_order_0, c_floor_of_number_0, c_check_kind_0, c_check_number_0, c_check_count_0, c_is_number_0, c_sign_0, c_sign_1, c_compared_0, c_compared_1, c_floor_of_0, c_floor_of_1, c_about_0, c_about_1, c_unit_0, c_unit_1, c_stretch_unit_0, c_stretch_unit_1, c__law_deck_0, c__law_take_0, c__law_gcd_0, c__law_num_0, c__law_plus_0, c__law_minus_0, c__law_times_0, c__law_sign_0, c__law_same_0, c__law_number_0, c__law_near_0, c__law_drawn_0, c__law_is_floor_0, c__law_right_0, c__law_units_0])
  refine x_lm t0 (by simp only [List.length_cons, List.length_nil]; omega) fun d hd => ?_
  obtain ⟨q, rfl, lq, sq⟩ : ∃ q : Int × Int × Int, d = T3 q ∧ IsLow q ∧ Sn 20 20 q := by
    simp only [List.mem_cons, List.mem_nil_iff, or_false] at hd
    rcases hd with rfl | rfl | rfl
    · exact ⟨(1, 0, 1), rfl, ⟨by decide, by decide⟩, ⟨by decide, by decide, by decide⟩⟩
    · exact ⟨(-1, 0, 1), rfl, ⟨by decide, by decide⟩, ⟨by decide, by decide, by decide⟩⟩
    · exact ⟨p, rfl, lp, sp⟩
  (try simp only [EV.w_loc, EV.w_at0, EV.w_atS, EV.w_lit, EV.w_op, EV.w_neg, EV.w_negR, EV.w_not, EV.w_cmp, EV.w_ite, EV.w_evT, EV.w_tup, EV.w_lst, EV.w_ix, EV.w_bi, EV.w_isi, EV.w_rev, EV.w_bop, EV.w_b1, EV.w_b2, EV.w_fld, EV.w_fldR, EV.w_call, EV.w_mth, EV.w_enil, EV.w_econs, EV.w_ono, EV.w_oso, EV.w_intO, EV.w_slc, EV.w_cno, EV.w_cso, EV.w_dix, EV.o_add, EV.o_sub, EV.o_mul, EV.o_div, EV.o_mod, EV.o_lt, EV.o_le, EV.o_gt, EV.o_ge, EV.o_eq, EV.o_ne, EV.o_tb, EV.o_ti, W_ok, W_ex, WS_ok, WS_ex, EV.s_nil, EV.s_cons, EV.s_asgN, EV.s_asgT, EV.s_par2, EV.s_par3, EV.s_set, EV.s_ex, EV.s_iff, EV.s_for, EV.s_wh, EV.s_ret, EV.s_retN, EV.s_rai, EV.rai_v, EV.s_try, EV.s_hnil, EV.s_pas, EV.s_brk, EV.s_cnt, NX_nx, NX_rt, NX_bk, NX_ct, JN_nx, JN_rt, JN_bk, JN_ct, TN_nx, TN_rt, TN_bk, TN_ct, RQ_nx, RQ_rt, EV.gc_v, EV.b_gcd, EV.b_abs, EV.b_max, EV.b_min, EV.b_int, EV.b_intb, EV.b_lens, EV.b_lent, EV.b_lenl, EV.b_isqrt, EV.b_listt, EV.b_listl, EV.t_1, EV.t_2, EV.t_3, EV.t_4, EV.ds_1, EV.ds_2, EV.ds_3, EV.ds_4, EV.l_0, EV.l_1, EV.l_2, EV.l_3, EV.l_4, EV.l_5, EV.l_6, EV.lm_2, EV.i_seq, EV.i_tup, EV.i_lst, EV.i_scr, EV.i_rng, EV.i_rngR, EV.i_rng2, List.set_cons_zero, List.set_cons_succ, List.map_cons, List.map_nil, List.cons_append, List.nil_append, List.replicate, List.length_cons, List.length_nil, List.take_length, decide_eq_true_eq, decide_eq_false_iff_not, okv, okr, oks, Bool.not_true, Bool.not_false, EV.x_t0, EV.x_t1, EV.x_t2, EV.x_l0, EV.x_l1, EV.x_l2, EV.c_20, EV.c_32, EV.isi_int_0, EV.isi_int_1, EV.isi_int_2, EV.isi_int_3, EV.isi_int_4, EV.isi_int_5, EV.isi_int_6, EV.isi_int_7, EV.isi_int_8, EV.isi_bool_0, EV.isi_bool_1, EV.isi_bool_2, EV.isi_bool_3, EV.isi_bool_4, EV.isi_bool_5, EV.isi_bool_6, EV.isi_bool_7, EV.isi_bool_8, EV.isi_str_0, EV.isi_str_1, EV.isi_str_2, EV.isi_str_3, EV.isi_str_4, EV.isi_str_5, EV.isi_str_6, EV.isi_str_7, EV.isi_str_8, EV.isi_none_0, EV.isi_none_1, EV.isi_none_2, EV.isi_none_3, EV.isi_none_4, EV.isi_none_5, EV.isi_none_6, EV.isi_none_7, EV.isi_none_8, EV.isi_tuple_0, EV.isi_tuple_1, EV.isi_tuple_2, EV.isi_tuple_3, EV.isi_tuple_4, EV.isi_tuple_5, EV.isi_tuple_6, EV.isi_tuple_7, EV.isi_tuple_8, EV.isi_list_0, EV.isi_list_1, EV.isi_list_2, EV.isi_list_3, EV.isi_list_4, EV.isi_list_5, EV.isi_list_6, EV.isi_list_7, EV.isi_list_8, EV.f_nm, EV.f_nil, EV.o_eqb, EV.o_neb, EV.o_isn, EV.o_isnn, EV.o_leq0, EV.o_lne0, EV.in_none, EV.in_int, EV.in_bool, EV.in_str, EV.in_tup, EV.in_lst, EV.td_v, SE_nx, SE_rtv, EV.sc_nil, EV.sc_none, EV.sc_v, EV.sc_r, EV.sc_s, EV.sc_x, Bool.not_eq_true', Bool.not_eq_false', EV.goB_a, EV.goB_o, EV.bo_t, EV.bo_l, EV.bo_nil, EV.bo_nm, EV.bo_tt, EV.bo_tl, EV.wipe_nil, EV.wipe_cons, Nat.reduceAdd, Nat.zero_add, Int.cast_ofNat_Int, Int.reduceEq, forall_const, not_true_eq_false, not_false_eq_true, false_implies, implies_true, and_true, true_and, decide_true, decide_false, Bool.false_eq_true, Bool.true_eq_false, eq_self, reduceCtorEq, c_is_integer_0, c_lowest_0, c_is_lowest_0, c_sum_of_two_0, c_opposite_0, c_difference_0, c_times_integer_0, c_rooted_0, c_sign_of_0, c_order_0, c_floor_of_number_0, c_check_kind_0, c_check_number_0, c_check_count_0, c_is_number_0, c_sign_0, c_sign_1, c_compared_0, c_compared_1, c_floor_of_0, c_floor_of_1, c_about_0, c_about_1, c_unit_0, c_unit_1, c_stretch_unit_0, c_stretch_unit_1, c__law_deck_0, c__law_take_0, c__law_gcd_0, c__law_num_0, c__law_plus_0, c__law_minus_0, c__law_times_0, c__law_sign_0, c__law_same_0, c__law_number_0, c__law_near_0, c__law_drawn_0, c__law_is_floor_0, c__law_right_0, c__law_units_0])
  refine w_take dk2 (by decide) (Sz.const (by decide)) fun t3 S3 t30 t31 dk3 sm3 => ?_
  (try simp only [EV.w_loc, EV.w_at0, EV.w_atS, EV.w_lit, EV.w_op, EV.w_neg, EV.w_negR, EV.w_not, EV.w_cmp, EV.w_ite, EV.w_evT, EV.w_tup, EV.w_lst, EV.w_ix, EV.w_bi, EV.w_isi, EV.w_rev, EV.w_bop, EV.w_b1, EV.w_b2, EV.w_fld, EV.w_fldR, EV.w_call, EV.w_mth, EV.w_enil, EV.w_econs, EV.w_ono, EV.w_oso, EV.w_intO, EV.w_slc, EV.w_cno, EV.w_cso, EV.w_dix, EV.o_add, EV.o_sub, EV.o_mul, EV.o_div, EV.o_mod, EV.o_lt, EV.o_le, EV.o_gt, EV.o_ge, EV.o_eq, EV.o_ne, EV.o_tb, EV.o_ti, W_ok, W_ex, WS_ok, WS_ex, EV.s_nil, EV.s_cons, EV.s_asgN, EV.s_asgT, EV.s_par2, EV.s_par3, EV.s_set, EV.s_ex, EV.s_iff, EV.s_for, EV.s_wh, EV.s_ret, EV.s_retN, EV.s_rai, EV.rai_v, EV.s_try, EV.s_hnil, EV.s_pas, EV.s_brk, EV.s_cnt, NX_nx, NX_rt, NX_bk, NX_ct, JN_nx, JN_rt, JN_bk, JN_ct, TN_nx, TN_rt, TN_bk, TN_ct, RQ_nx, RQ_rt, EV.gc_v, EV.b_gcd, EV.b_abs, EV.b_max, EV.b_min, EV.b_int, EV.b_intb, EV.b_lens, EV.b_lent, EV.b_lenl, EV.b_isqrt, EV.b_listt, EV.b_listl, EV.t_1, EV.t_2, EV.t_3, EV.t_4, EV.ds_1, EV.ds_2, EV.ds_3, EV.ds_4, EV.l_0, EV.l_1, EV.l_2, EV.l_3, EV.l_4, EV.l_5, EV.l_6, EV.lm_2, EV.i_seq, EV.i_tup, EV.i_lst, EV.i_scr, EV.i_rng, EV.i_rngR, EV.i_rng2, List.set_cons_zero, List.set_cons_succ, List.map_cons, List.map_nil, List.cons_append, List.nil_append, List.replicate, List.length_cons, List.length_nil, List.take_length, decide_eq_true_eq, decide_eq_false_iff_not, okv, okr, oks, Bool.not_true, Bool.not_false, EV.x_t0, EV.x_t1, EV.x_t2, EV.x_l0, EV.x_l1, EV.x_l2, EV.c_20, EV.c_32, EV.isi_int_0, EV.isi_int_1, EV.isi_int_2, EV.isi_int_3, EV.isi_int_4, EV.isi_int_5, EV.isi_int_6, EV.isi_int_7, EV.isi_int_8, EV.isi_bool_0, EV.isi_bool_1, EV.isi_bool_2, EV.isi_bool_3, EV.isi_bool_4, EV.isi_bool_5, EV.isi_bool_6, EV.isi_bool_7, EV.isi_bool_8, EV.isi_str_0, EV.isi_str_1, EV.isi_str_2, EV.isi_str_3, EV.isi_str_4, EV.isi_str_5, EV.isi_str_6, EV.isi_str_7, EV.isi_str_8, EV.isi_none_0, EV.isi_none_1, EV.isi_none_2, EV.isi_none_3, EV.isi_none_4, EV.isi_none_5, EV.isi_none_6, EV.isi_none_7, EV.isi_none_8, EV.isi_tuple_0, EV.isi_tuple_1, EV.isi_tuple_2, EV.isi_tuple_3, EV.isi_tuple_4, EV.isi_tuple_5, EV.isi_tuple_6, EV.isi_tuple_7, EV.isi_tuple_8, EV.isi_list_0, EV.isi_list_1, EV.isi_list_2, EV.isi_list_3, EV.isi_list_4, EV.isi_list_5, EV.isi_list_6, EV.isi_list_7, EV.isi_list_8, EV.f_nm, EV.f_nil, EV.o_eqb, EV.o_neb, EV.o_isn, EV.o_isnn, EV.o_leq0, EV.o_lne0, EV.in_none, EV.in_int, EV.in_bool, EV.in_str, EV.in_tup, EV.in_lst, EV.td_v, SE_nx, SE_rtv, EV.sc_nil, EV.sc_none, EV.sc_v, EV.sc_r, EV.sc_s, EV.sc_x, Bool.not_eq_true', Bool.not_eq_false', EV.goB_a, EV.goB_o, EV.bo_t, EV.bo_l, EV.bo_nil, EV.bo_nm, EV.bo_tt, EV.bo_tl, EV.wipe_nil, EV.wipe_cons, Nat.reduceAdd, Nat.zero_add, Int.cast_ofNat_Int, Int.reduceEq, forall_const, not_true_eq_false, not_false_eq_true, false_implies, implies_true, and_true, true_and, decide_true, decide_false, Bool.false_eq_true, Bool.true_eq_false, eq_self, reduceCtorEq, c_is_integer_0, c_lowest_0, c_is_lowest_0, c_sum_of_two_0, c_opposite_0, c_difference_0, c_times_integer_0, c_rooted_0, c_sign_of_0, c_order_0, c_floor_of_number_0, c_check_kind_0, c_check_number_0, c_check_count_0, c_is_number_0, c_sign_0, c_sign_1, c_compared_0, c_compared_1, c_floor_of_0, c_floor_of_1, c_about_0, c_about_1, c_unit_0, c_unit_1, c_stretch_unit_0, c_stretch_unit_1, c__law_deck_0, c__law_take_0, c__law_gcd_0, c__law_num_0, c__law_plus_0, c__law_minus_0, c__law_times_0, c__law_sign_0, c__law_same_0, c__law_number_0, c__law_near_0, c__law_drawn_0, c__law_is_floor_0, c__law_right_0, c__law_units_0])
  refine x_lm t30 (by simp only [List.length_cons, List.length_nil]; omega) fun d hd => ?_
  obtain ⟨c, rfl, c1, c2⟩ : ∃ c : Int, d = .int c ∧ 1 ≤ c ∧ c ≤ 700 := by
    simp only [List.mem_cons, List.mem_nil_iff, or_false] at hd
    rcases hd with rfl | rfl | rfl | rfl
    · exact ⟨30, rfl, by decide, by decide⟩
    · exact ⟨30, rfl, by decide, by decide⟩
    · exact ⟨30, rfl, by decide, by decide⟩
    · exact ⟨700, rfl, by decide, by decide⟩
  (try simp only [EV.w_loc, EV.w_at0, EV.w_atS, EV.w_lit, EV.w_op, EV.w_neg, EV.w_negR, EV.w_not, EV.w_cmp, EV.w_ite, EV.w_evT, EV.w_tup, EV.w_lst, EV.w_ix, EV.w_bi, EV.w_isi, EV.w_rev, EV.w_bop, EV.w_b1, EV.w_b2, EV.w_fld, EV.w_fldR, EV.w_call, EV.w_mth, EV.w_enil, EV.w_econs, EV.w_ono, EV.w_oso, EV.w_intO, EV.w_slc, EV.w_cno, EV.w_cso, EV.w_dix, EV.o_add, EV.o_sub, EV.o_mul, EV.o_div, EV.o_mod, EV.o_lt, EV.o_le, EV.o_gt, EV.o_ge, EV.o_eq, EV.o_ne, EV.o_tb, EV.o_ti, W_ok, W_ex, WS_ok, WS_ex, EV.s_nil, EV.s_cons, EV.s_asgN, EV.s_asgT, EV.s_par2, EV.s_par3, EV.s_set, EV.s_ex, EV.s_iff, EV.s_for, EV.s_wh, EV.s_ret, EV.s_retN, EV.s_rai, EV.rai_v, EV.s_try, EV.s_hnil, EV.s_pas, EV.s_brk, EV.s_cnt, NX_nx, NX_rt, NX_bk, NX_ct, JN_nx, JN_rt, JN_bk, JN_ct, TN_nx, TN_rt, TN_bk, TN_ct, RQ_nx, RQ_rt, EV.gc_v, EV.b_gcd, EV.b_abs, EV.b_max, EV.b_min, EV.b_int, EV.b_intb, EV.b_lens, EV.b_lent, EV.b_lenl, EV.b_isqrt, EV.b_listt, EV.b_listl, EV.t_1, EV.t_2, EV.t_3, EV.t_4, EV.ds_1, EV.ds_2, EV.ds_3, EV.ds_4, EV.l_0, EV.l_1, EV.l_2, EV.l_3, EV.l_4, EV.l_5, EV.l_6, EV.lm_2, EV.i_seq, EV.i_tup, EV.i_lst, EV.i_scr, EV.i_rng, EV.i_rngR, EV.i_rng2, List.set_cons_zero, List.set_cons_succ, List.map_cons, List.map_nil, List.cons_append, List.nil_append, List.replicate, List.length_cons, List.length_nil, List.take_length, decide_eq_true_eq, decide_eq_false_iff_not, okv, okr, oks, Bool.not_true, Bool.not_false, EV.x_t0, EV.x_t1, EV.x_t2, EV.x_l0, EV.x_l1, EV.x_l2, EV.c_20, EV.c_32, EV.isi_int_0, EV.isi_int_1, EV.isi_int_2, EV.isi_int_3, EV.isi_int_4, EV.isi_int_5, EV.isi_int_6, EV.isi_int_7, EV.isi_int_8, EV.isi_bool_0, EV.isi_bool_1, EV.isi_bool_2, EV.isi_bool_3, EV.isi_bool_4, EV.isi_bool_5, EV.isi_bool_6, EV.isi_bool_7, EV.isi_bool_8, EV.isi_str_0, EV.isi_str_1, EV.isi_str_2, EV.isi_str_3, EV.isi_str_4, EV.isi_str_5, EV.isi_str_6, EV.isi_str_7, EV.isi_str_8, EV.isi_none_0, EV.isi_none_1, EV.isi_none_2, EV.isi_none_3, EV.isi_none_4, EV.isi_none_5, EV.isi_none_6, EV.isi_none_7, EV.isi_none_8, EV.isi_tuple_0, EV.isi_tuple_1, EV.isi_tuple_2, EV.isi_tuple_3, EV.isi_tuple_4, EV.isi_tuple_5, EV.isi_tuple_6, EV.isi_tuple_7, EV.isi_tuple_8, EV.isi_list_0, EV.isi_list_1, EV.isi_list_2, EV.isi_list_3, EV.isi_list_4, EV.isi_list_5, EV.isi_list_6, EV.isi_list_7, EV.isi_list_8, EV.f_nm, EV.f_nil, EV.o_eqb, EV.o_neb, EV.o_isn, EV.o_isnn, EV.o_leq0, EV.o_lne0, EV.in_none, EV.in_int, EV.in_bool, EV.in_str, EV.in_tup, EV.in_lst, EV.td_v, SE_nx, SE_rtv, EV.sc_nil, EV.sc_none, EV.sc_v, EV.sc_r, EV.sc_s, EV.sc_x, Bool.not_eq_true', Bool.not_eq_false', EV.goB_a, EV.goB_o, EV.bo_t, EV.bo_l, EV.bo_nil, EV.bo_nm, EV.bo_tt, EV.bo_tl, EV.wipe_nil, EV.wipe_cons, Nat.reduceAdd, Nat.zero_add, Int.cast_ofNat_Int, Int.reduceEq, forall_const, not_true_eq_false, not_false_eq_true, false_implies, implies_true, and_true, true_and, decide_true, decide_false, Bool.false_eq_true, Bool.true_eq_false, eq_self, reduceCtorEq, c_is_integer_0, c_lowest_0, c_is_lowest_0, c_sum_of_two_0, c_opposite_0, c_difference_0, c_times_integer_0, c_rooted_0, c_sign_of_0, c_order_0, c_floor_of_number_0, c_check_kind_0, c_check_number_0, c_check_count_0, c_is_number_0, c_sign_0, c_sign_1, c_compared_0, c_compared_1, c_floor_of_0, c_floor_of_1, c_about_0, c_about_1, c_unit_0, c_unit_1, c_stretch_unit_0, c_stretch_unit_1, c__law_deck_0, c__law_take_0, c__law_gcd_0, c__law_num_0, c__law_plus_0, c__law_minus_0, c__law_times_0, c__law_sign_0, c__law_same_0, c__law_number_0, c__law_near_0, c__law_drawn_0, c__law_is_floor_0, c__law_right_0, c__law_units_0])
  refine w_take dk3 c1 (szb (b := 700) (by omega) (by decide)) fun t4 S4 t40 t41 dk4 sm4 => ?_
  (try simp only [EV.w_loc, EV.w_at0, EV.w_atS, EV.w_lit, EV.w_op, EV.w_neg, EV.w_negR, EV.w_not, EV.w_cmp, EV.w_ite, EV.w_evT, EV.w_tup, EV.w_lst, EV.w_ix, EV.w_bi, EV.w_isi, EV.w_rev, EV.w_bop, EV.w_b1, EV.w_b2, EV.w_fld, EV.w_fldR, EV.w_call, EV.w_mth, EV.w_enil, EV.w_econs, EV.w_ono, EV.w_oso, EV.w_intO, EV.w_slc, EV.w_cno, EV.w_cso, EV.w_dix, EV.o_add, EV.o_sub, EV.o_mul, EV.o_div, EV.o_mod, EV.o_lt, EV.o_le, EV.o_gt, EV.o_ge, EV.o_eq, EV.o_ne, EV.o_tb, EV.o_ti, W_ok, W_ex, WS_ok, WS_ex, EV.s_nil, EV.s_cons, EV.s_asgN, EV.s_asgT, EV.s_par2, EV.s_par3, EV.s_set, EV.s_ex, EV.s_iff, EV.s_for, EV.s_wh, EV.s_ret, EV.s_retN, EV.s_rai, EV.rai_v, EV.s_try, EV.s_hnil, EV.s_pas, EV.s_brk, EV.s_cnt, NX_nx, NX_rt, NX_bk, NX_ct, JN_nx, JN_rt, JN_bk, JN_ct, TN_nx, TN_rt, TN_bk, TN_ct, RQ_nx, RQ_rt, EV.gc_v, EV.b_gcd, EV.b_abs, EV.b_max, EV.b_min, EV.b_int, EV.b_intb, EV.b_lens, EV.b_lent, EV.b_lenl, EV.b_isqrt, EV.b_listt, EV.b_listl, EV.t_1, EV.t_2, EV.t_3, EV.t_4, EV.ds_1, EV.ds_2, EV.ds_3, EV.ds_4, EV.l_0, EV.l_1, EV.l_2, EV.l_3, EV.l_4, EV.l_5, EV.l_6, EV.lm_2, EV.i_seq, EV.i_tup, EV.i_lst, EV.i_scr, EV.i_rng, EV.i_rngR, EV.i_rng2, List.set_cons_zero, List.set_cons_succ, List.map_cons, List.map_nil, List.cons_append, List.nil_append, List.replicate, List.length_cons, List.length_nil, List.take_length, decide_eq_true_eq, decide_eq_false_iff_not, okv, okr, oks, Bool.not_true, Bool.not_false, EV.x_t0, EV.x_t1, EV.x_t2, EV.x_l0, EV.x_l1, EV.x_l2, EV.c_20, EV.c_32, EV.isi_int_0, EV.isi_int_1, EV.isi_int_2, EV.isi_int_3, EV.isi_int_4, EV.isi_int_5, EV.isi_int_6, EV.isi_int_7, EV.isi_int_8, EV.isi_bool_0, EV.isi_bool_1, EV.isi_bool_2, EV.isi_bool_3, EV.isi_bool_4, EV.isi_bool_5, EV.isi_bool_6, EV.isi_bool_7, EV.isi_bool_8, EV.isi_str_0, EV.isi_str_1, EV.isi_str_2, EV.isi_str_3, EV.isi_str_4, EV.isi_str_5, EV.isi_str_6, EV.isi_str_7, EV.isi_str_8, EV.isi_none_0, EV.isi_none_1, EV.isi_none_2, EV.isi_none_3, EV.isi_none_4, EV.isi_none_5, EV.isi_none_6, EV.isi_none_7, EV.isi_none_8, EV.isi_tuple_0, EV.isi_tuple_1, EV.isi_tuple_2, EV.isi_tuple_3, EV.isi_tuple_4, EV.isi_tuple_5, EV.isi_tuple_6, EV.isi_tuple_7, EV.isi_tuple_8, EV.isi_list_0, EV.isi_list_1, EV.isi_list_2, EV.isi_list_3, EV.isi_list_4, EV.isi_list_5, EV.isi_list_6, EV.isi_list_7, EV.isi_list_8, EV.f_nm, EV.f_nil, EV.o_eqb, EV.o_neb, EV.o_isn, EV.o_isnn, EV.o_leq0, EV.o_lne0, EV.in_none, EV.in_int, EV.in_bool, EV.in_str, EV.in_tup, EV.in_lst, EV.td_v, SE_nx, SE_rtv, EV.sc_nil, EV.sc_none, EV.sc_v, EV.sc_r, EV.sc_s, EV.sc_x, Bool.not_eq_true', Bool.not_eq_false', EV.goB_a, EV.goB_o, EV.bo_t, EV.bo_l, EV.bo_nil, EV.bo_nm, EV.bo_tt, EV.bo_tl, EV.wipe_nil, EV.wipe_cons, Nat.reduceAdd, Nat.zero_add, Int.cast_ofNat_Int, Int.reduceEq, forall_const, not_true_eq_false, not_false_eq_true, false_implies, implies_true, and_true, true_and, decide_true, decide_false, Bool.false_eq_true, Bool.true_eq_false, eq_self, reduceCtorEq, c_is_integer_0, c_lowest_0, c_is_lowest_0, c_sum_of_two_0, c_opposite_0, c_difference_0, c_times_integer_0, c_rooted_0, c_sign_of_0, c_order_0, c_floor_of_number_0, c_check_kind_0, c_check_number_0, c_check_count_0, c_is_number_0, c_sign_0, c_sign_1, c_compared_0, c_compared_1, c_floor_of_0, c_floor_of_1, c_about_0, c_about_1, c_unit_0, c_unit_1, c_stretch_unit_0, c_stretch_unit_1, c__law_deck_0, c__law_take_0, c__law_gcd_0, c__law_num_0, c__law_plus_0, c__law_minus_0, c__law_times_0, c__law_sign_0, c__law_same_0, c__law_number_0, c__law_near_0, c__law_drawn_0, c__law_is_floor_0, c__law_right_0, c__law_units_0])
  refine ⟨by omega, ?_⟩
  have sm := ((sm1.trans sm2).trans sm3).trans sm4
  refine f_inv (fun ds ρ S' => ∃ (x y : Int) (u v : Option R), ds.length ≤ 700 ∧ S' = S4 ∧ ρ = [some (.r j), some (I f), some (.v (T3 st)), some (.v (T3 q)), some (I x), some (I y), u, v] ∧ Sz (2 + 6 * (700 - ds.length)) x ∧ Sz (2 + 6 * (700 - ds.length)) y) ?_ ?_ _ _ _ ?_
  · rintro d ds ρ S' ⟨x, y, u, v, hl, rfl, rfl, sx, sy⟩
    refine ⟨_, rfl, ?_⟩
    simp only [List.length_cons] at hl sx sy
    have n0 : 2 + 6 * (700 - ds.length) = 2 + 6 * (700 - (ds.length + 1)) + 6 := by omega
    generalize hn : 2 + 6 * (700 - (ds.length + 1)) = n at *
    have hn2 : n ≤ 5000 := by omega
    have f3 := kind_sz hf
    have y1 := sy.mul sst.b
    have m1 : Sz (n + 2 + 3) (y * st.2.1 * (1 : Int)) := y1.mul (Sz.const (by decide))
    have m2 : Sz (n + 2 + 3) (y * st.2.1 * f) := y1.mul f3
    simp only [EV.w_loc, EV.w_at0, EV.w_atS, EV.w_lit, EV.w_op, EV.w_neg, EV.w_negR, EV.w_not, EV.w_cmp, EV.w_ite, EV.w_evT, EV.w_tup, EV.w_lst, EV.w_ix, EV.w_bi, EV.w_isi, EV.w_rev, EV.w_bop, EV.w_b1, EV.w_b2, EV.w_fld, EV.w_fldR, EV.w_call, EV.w_mth, EV.w_enil, EV.w_econs, EV.w_ono, EV.w_oso, EV.w_intO, EV.w_slc, EV.w_cno, EV.w_cso, EV.w_dix, EV.o_add, EV.o_sub, EV.o_mul, EV.o_div, EV.o_mod, EV.o_lt, EV.o_le, EV.o_gt, EV.o_ge, EV.o_eq, EV.o_ne, EV.o_tb, EV.o_ti, W_ok, W_ex, WS_ok, WS_ex, EV.s_nil, EV.s_cons, EV.s_asgN, EV.s_asgT, EV.s_par2, EV.s_par3, EV.s_set, EV.s_ex, EV.s_iff, EV.s_for, EV.s_wh, EV.s_ret, EV.s_retN, EV.s_rai, EV.rai_v, EV.s_try, EV.s_hnil, EV.s_pas, EV.s_brk, EV.s_cnt, NX_nx, NX_rt, NX_bk, NX_ct, JN_nx, JN_rt, JN_bk, JN_ct, TN_nx, TN_rt, TN_bk, TN_ct, RQ_nx, RQ_rt, EV.gc_v, EV.b_gcd, EV.b_abs, EV.b_max, EV.b_min, EV.b_int, EV.b_intb, EV.b_lens, EV.b_lent, EV.b_lenl, EV.b_isqrt, EV.b_listt, EV.b_listl, EV.t_1, EV.t_2, EV.t_3, EV.t_4, EV.ds_1, EV.ds_2, EV.ds_3, EV.ds_4, EV.l_0, EV.l_1, EV.l_2, EV.l_3, EV.l_4, EV.l_5, EV.l_6, EV.lm_2, EV.i_seq, EV.i_tup, EV.i_lst, EV.i_scr, EV.i_rng, EV.i_rngR, EV.i_rng2, List.set_cons_zero, List.set_cons_succ, List.map_cons, List.map_nil, List.cons_append, List.nil_append, List.replicate, List.length_cons, List.length_nil, List.take_length, decide_eq_true_eq, decide_eq_false_iff_not, okv, okr, oks, Bool.not_true, Bool.not_false, EV.x_t0, EV.x_t1, EV.x_t2, EV.x_l0, EV.x_l1, EV.x_l2, EV.c_20, EV.c_32, EV.isi_int_0, EV.isi_int_1, EV.isi_int_2, EV.isi_int_3, EV.isi_int_4, EV.isi_int_5, EV.isi_int_6, EV.isi_int_7, EV.isi_int_8, EV.isi_bool_0, EV.isi_bool_1, EV.isi_bool_2, EV.isi_bool_3, EV.isi_bool_4, EV.isi_bool_5, EV.isi_bool_6, EV.isi_bool_7, EV.isi_bool_8, EV.isi_str_0, EV.isi_str_1, EV.isi_str_2, EV.isi_str_3, EV.isi_str_4, EV.isi_str_5, EV.isi_str_6, EV.isi_str_7, EV.isi_str_8, EV.isi_none_0, EV.isi_none_1, EV.isi_none_2, EV.isi_none_3, EV.isi_none_4, EV.isi_none_5, EV.isi_none_6, EV.isi_none_7, EV.isi_none_8, EV.isi_tuple_0, EV.isi_tuple_1, EV.isi_tuple_2, EV.isi_tuple_3, EV.isi_tuple_4, EV.isi_tuple_5, EV.isi_tuple_6, EV.isi_tuple_7, EV.isi_tuple_8, EV.isi_list_0, EV.isi_list_1, EV.isi_list_2, EV.isi_list_3, EV.isi_list_4, EV.isi_list_5, EV.isi_list_6, EV.isi_list_7, EV.isi_list_8, EV.f_nm, EV.f_nil, EV.o_eqb, EV.o_neb, EV.o_isn, EV.o_isnn, EV.o_leq0, EV.o_lne0, EV.in_none, EV.in_int, EV.in_bool, EV.in_str, EV.in_tup, EV.in_lst, EV.td_v, SE_nx, SE_rtv, EV.sc_nil, EV.sc_none, EV.sc_v, EV.sc_r, EV.sc_s, EV.sc_x, Bool.not_eq_true', Bool.not_eq_false', EV.goB_a, EV.goB_o, EV.bo_t, EV.bo_l, EV.bo_nil, EV.bo_nm, EV.bo_tt, EV.bo_tl, EV.wipe_nil, EV.wipe_cons, Nat.reduceAdd, Nat.zero_add, Int.cast_ofNat_Int, Int.reduceEq, forall_const, not_true_eq_false, not_false_eq_true, false_implies, implies_true, and_true, true_and, decide_true, decide_false, Bool.false_eq_true, Bool.true_eq_false, eq_self, reduceCtorEq, mul_ok sy sst.b (by omega), mul_ok y1 f3 (by omega), mul_ok y1 (Sz.const (p := 3) (a := 1) (by decide)) (by omega), mul_ok sx sst.a (by omega), mul_ok sx sst.b (by omega), mul_ok sy sst.a (by omega)]
    refine ⟨fun h5 => ⟨fun h6 => ?_, fun h6 => absurd h5 h6⟩, fun h5 => ⟨fun h6 => absurd h6 h5, fun h6 => ?_⟩⟩
    · refine ⟨_, _, _, _, by omega, rfl, ?_, ?_⟩
      · rw [n0]
        exact (sx.mul sst.a).sum m1 (by omega) (by omega)
      · rw [n0]
        exact ((sx.mul sst.b).sum (sy.mul sst.a) (n := n + 3) (by omega) (by omega)).sum y1 (n := n + 5) (by omega) (by omega)
    · refine ⟨_, _, _, _, by omega, rfl, ?_, ?_⟩
      · rw [n0]
        exact (sx.mul sst.a).sum m2 (by omega) (by omega)
      · rw [n0]
        exact ((sx.mul sst.b).sum (sy.mul sst.a) (n := n + 3) (by omega) (by omega)).sum (Sz.const (p := 1) (a := 0) (by decide)) (n := n + 5) (by omega) (by omega)
  · rintro ρ S' ⟨x, y, u, v, hl, rfl, rfl, sx, sy⟩
    have sxy : Sn 4202 1 (x, y, (1 : Int)) := ⟨sx.mono (by simp), sy.mono (by simp), by show Sz 1 (1 : Int); exact Sz.const (by decide)⟩
    have one0 : ((x, y, (1 : Int)) : Int × Int × Int).2.2 ≠ 0 := by show (1 : Int) ≠ 0; decide
    have e : ∀ S, callN G wl (k + 3) "_law_times" [I f, .v (T3 q), .v (T3 (x, y, 1))] S = .ok (.v (T3 (prd f q (x, y, 1)))) S := fun S => e_ltimes hw hf sq sxy lq.ne one0 (by omega) (by omega) (by omega) (by omega)
    have sr := prd_sn hf sq sxy lq.ne one0
    have lr : IsLow (prd f q (x, y, 1)) := low_low (Int.mul_ne_zero lq.ne one0)
    simp only [EV.w_loc, EV.w_at0, EV.w_atS, EV.w_lit, EV.w_op, EV.w_neg, EV.w_negR, EV.w_not, EV.w_cmp, EV.w_ite, EV.w_evT, EV.w_tup, EV.w_lst, EV.w_ix, EV.w_bi, EV.w_isi, EV.w_rev, EV.w_bop, EV.w_b1, EV.w_b2, EV.w_fld, EV.w_fldR, EV.w_call, EV.w_mth, EV.w_enil, EV.w_econs, EV.w_ono, EV.w_oso, EV.w_intO, EV.w_slc, EV.w_cno, EV.w_cso, EV.w_dix, EV.o_add, EV.o_sub, EV.o_mul, EV.o_div, EV.o_mod, EV.o_lt, EV.o_le, EV.o_gt, EV.o_ge, EV.o_eq, EV.o_ne, EV.o_tb, EV.o_ti, W_ok, W_ex, WS_ok, WS_ex, EV.s_nil, EV.s_cons, EV.s_asgN, EV.s_asgT, EV.s_par2, EV.s_par3, EV.s_set, EV.s_ex, EV.s_iff, EV.s_for, EV.s_wh, EV.s_ret, EV.s_retN, EV.s_rai, EV.rai_v, EV.s_try, EV.s_hnil, EV.s_pas, EV.s_brk, EV.s_cnt, NX_nx, NX_rt, NX_bk, NX_ct, JN_nx, JN_rt, JN_bk, JN_ct, TN_nx, TN_rt, TN_bk, TN_ct, RQ_nx, RQ_rt, EV.gc_v, EV.b_gcd, EV.b_abs, EV.b_max, EV.b_min, EV.b_int, EV.b_intb, EV.b_lens, EV.b_lent, EV.b_lenl, EV.b_isqrt, EV.b_listt, EV.b_listl, EV.t_1, EV.t_2, EV.t_3, EV.t_4, EV.ds_1, EV.ds_2, EV.ds_3, EV.ds_4, EV.l_0, EV.l_1, EV.l_2, EV.l_3, EV.l_4, EV.l_5, EV.l_6, EV.lm_2, EV.i_seq, EV.i_tup, EV.i_lst, EV.i_scr, EV.i_rng, EV.i_rngR, EV.i_rng2, List.set_cons_zero, List.set_cons_succ, List.map_cons, List.map_nil, List.cons_append, List.nil_append, List.replicate, List.length_cons, List.length_nil, List.take_length, decide_eq_true_eq, decide_eq_false_iff_not, okv, okr, oks, Bool.not_true, Bool.not_false, EV.x_t0, EV.x_t1, EV.x_t2, EV.x_l0, EV.x_l1, EV.x_l2, EV.c_20, EV.c_32, EV.isi_int_0, EV.isi_int_1, EV.isi_int_2, EV.isi_int_3, EV.isi_int_4, EV.isi_int_5, EV.isi_int_6, EV.isi_int_7, EV.isi_int_8, EV.isi_bool_0, EV.isi_bool_1, EV.isi_bool_2, EV.isi_bool_3, EV.isi_bool_4, EV.isi_bool_5, EV.isi_bool_6, EV.isi_bool_7, EV.isi_bool_8, EV.isi_str_0, EV.isi_str_1, EV.isi_str_2, EV.isi_str_3, EV.isi_str_4, EV.isi_str_5, EV.isi_str_6, EV.isi_str_7, EV.isi_str_8, EV.isi_none_0, EV.isi_none_1, EV.isi_none_2, EV.isi_none_3, EV.isi_none_4, EV.isi_none_5, EV.isi_none_6, EV.isi_none_7, EV.isi_none_8, EV.isi_tuple_0, EV.isi_tuple_1, EV.isi_tuple_2, EV.isi_tuple_3, EV.isi_tuple_4, EV.isi_tuple_5, EV.isi_tuple_6, EV.isi_tuple_7, EV.isi_tuple_8, EV.isi_list_0, EV.isi_list_1, EV.isi_list_2, EV.isi_list_3, EV.isi_list_4, EV.isi_list_5, EV.isi_list_6, EV.isi_list_7, EV.isi_list_8, EV.f_nm, EV.f_nil, EV.o_eqb, EV.o_neb, EV.o_isn, EV.o_isnn, EV.o_leq0, EV.o_lne0, EV.in_none, EV.in_int, EV.in_bool, EV.in_str, EV.in_tup, EV.in_lst, EV.td_v, SE_nx, SE_rtv, EV.sc_nil, EV.sc_none, EV.sc_v, EV.sc_r, EV.sc_s, EV.sc_x, Bool.not_eq_true', Bool.not_eq_false', EV.goB_a, EV.goB_o, EV.bo_t, EV.bo_l, EV.bo_nil, EV.bo_nm, EV.bo_tt, EV.bo_tl, EV.wipe_nil, EV.wipe_cons, Nat.reduceAdd, Nat.zero_add, Int.cast_ofNat_Int, Int.reduceEq, forall_const, not_true_eq_false, not_false_eq_true, false_implies, implies_true, and_true, true_and, decide_true, decide_false, Bool.false_eq_true, Bool.true_eq_false, eq_self, reduceCtorEq, c_is_integer_0, c_lowest_0, c_is_lowest_0, c_sum_of_two_0, c_opposite_0, c_difference_0, c_times_integer_0, c_rooted_0, c_sign_of_0, c_order_0, c_floor_of_number_0, c_check_kind_0, c_check_number_0, c_check_count_0, c_is_number_0, c_sign_0, c_sign_1, c_compared_0, c_compared_1, c_floor_of_0, c_floor_of_1, c_about_0, c_about_1, c_unit_0, c_unit_1, c_stretch_unit_0, c_stretch_unit_1, c__law_deck_0, c__law_take_0, c__law_gcd_0, c__law_num_0, c__law_plus_0, c__law_minus_0, c__law_times_0, c__law_sign_0, c__law_same_0, c__law_number_0, c__law_near_0, c__law_drawn_0, c__law_is_floor_0, c__law_right_0, c__law_units_0, e]
    refine w_take dk4 (by decide) (Sz.const (by decide)) fun t5 S5 t50 t51 dk5 sm5 => ?_
    have s12 : Sz 5 (1 + t5) := szb (b := 20) (by omega) (by decide)
    have c0 : (prd f q (x, y, 1)).2.2 * (1 + t5) ≠ 0 := Int.mul_ne_zero lr.ne (by omega)
    have en : ∀ S, callN G wl (k + 3) "_law_num" [I (prd f q (x, y, 1)).1, I (prd f q (x, y, 1)).2.1, I ((prd f q (x, y, 1)).2.2 * (1 + t5))] S = .ok (.v (T3 (low (prd f q (x, y, 1)).1 (prd f q (x, y, 1)).2.1 ((prd f q (x, y, 1)).2.2 * (1 + t5))))) S := fun S => e_num hw c0 (sr.c.mul s12) sr.b (by omega) (by omega)
    simp only [EV.w_loc, EV.w_at0, EV.w_atS, EV.w_lit, EV.w_op, EV.w_neg, EV.w_negR, EV.w_not, EV.w_cmp, EV.w_ite, EV.w_evT, EV.w_tup, EV.w_lst, EV.w_ix, EV.w_bi, EV.w_isi, EV.w_rev, EV.w_bop, EV.w_b1, EV.w_b2, EV.w_fld, EV.w_fldR, EV.w_call, EV.w_mth, EV.w_enil, EV.w_econs, EV.w_ono, EV.w_oso, EV.w_intO, EV.w_slc, EV.w_cno, EV.w_cso, EV.w_dix, EV.o_add, EV.o_sub, EV.o_mul, EV.o_div, EV.o_mod, EV.o_lt, EV.o_le, EV.o_gt, EV.o_ge, EV.o_eq, EV.o_ne, EV.o_tb, EV.o_ti, W_ok, W_ex, WS_ok, WS_ex, EV.s_nil, EV.s_cons, EV.s_asgN, EV.s_asgT, EV.s_par2, EV.s_par3, EV.s_set, EV.s_ex, EV.s_iff, EV.s_for, EV.s_wh, EV.s_ret, EV.s_retN, EV.s_rai, EV.rai_v, EV.s_try, EV.s_hnil, EV.s_pas, EV.s_brk, EV.s_cnt, NX_nx, NX_rt, NX_bk, NX_ct, JN_nx, JN_rt, JN_bk, JN_ct, TN_nx, TN_rt, TN_bk, TN_ct, RQ_nx, RQ_rt, EV.gc_v, EV.b_gcd, EV.b_abs, EV.b_max, EV.b_min, EV.b_int, EV.b_intb, EV.b_lens, EV.b_lent, EV.b_lenl, EV.b_isqrt, EV.b_listt, EV.b_listl, EV.t_1, EV.t_2, EV.t_3, EV.t_4, EV.ds_1, EV.ds_2, EV.ds_3, EV.ds_4, EV.l_0, EV.l_1, EV.l_2, EV.l_3, EV.l_4, EV.l_5, EV.l_6, EV.lm_2, EV.i_seq, EV.i_tup, EV.i_lst, EV.i_scr, EV.i_rng, EV.i_rngR, EV.i_rng2, List.set_cons_zero, List.set_cons_succ, List.map_cons, List.map_nil, List.cons_append, List.nil_append, List.replicate, List.length_cons, List.length_nil, List.take_length, decide_eq_true_eq, decide_eq_false_iff_not, okv, okr, oks, Bool.not_true, Bool.not_false, EV.x_t0, EV.x_t1, EV.x_t2, EV.x_l0, EV.x_l1, EV.x_l2, EV.c_20, EV.c_32, EV.isi_int_0, EV.isi_int_1, EV.isi_int_2, EV.isi_int_3, EV.isi_int_4, EV.isi_int_5, EV.isi_int_6, EV.isi_int_7, EV.isi_int_8, EV.isi_bool_0, EV.isi_bool_1, EV.isi_bool_2, EV.isi_bool_3, EV.isi_bool_4, EV.isi_bool_5, EV.isi_bool_6, EV.isi_bool_7, EV.isi_bool_8, EV.isi_str_0, EV.isi_str_1, EV.isi_str_2, EV.isi_str_3, EV.isi_str_4, EV.isi_str_5, EV.isi_str_6, EV.isi_str_7, EV.isi_str_8, EV.isi_none_0, EV.isi_none_1, EV.isi_none_2, EV.isi_none_3, EV.isi_none_4, EV.isi_none_5, EV.isi_none_6, EV.isi_none_7, EV.isi_none_8, EV.isi_tuple_0, EV.isi_tuple_1, EV.isi_tuple_2, EV.isi_tuple_3, EV.isi_tuple_4, EV.isi_tuple_5, EV.isi_tuple_6, EV.isi_tuple_7, EV.isi_tuple_8, EV.isi_list_0, EV.isi_list_1, EV.isi_list_2, EV.isi_list_3, EV.isi_list_4, EV.isi_list_5, EV.isi_list_6, EV.isi_list_7, EV.isi_list_8, EV.f_nm, EV.f_nil, EV.o_eqb, EV.o_neb, EV.o_isn, EV.o_isnn, EV.o_leq0, EV.o_lne0, EV.in_none, EV.in_int, EV.in_bool, EV.in_str, EV.in_tup, EV.in_lst, EV.td_v, SE_nx, SE_rtv, EV.sc_nil, EV.sc_none, EV.sc_v, EV.sc_r, EV.sc_s, EV.sc_x, Bool.not_eq_true', Bool.not_eq_false', EV.goB_a, EV.goB_o, EV.bo_t, EV.bo_l, EV.bo_nil, EV.bo_nm, EV.bo_tt, EV.bo_tl, EV.wipe_nil, EV.wipe_cons, Nat.reduceAdd, Nat.zero_add, Int.cast_ofNat_Int, Int.reduceEq, forall_const, not_true_eq_false, not_false_eq_true, false_implies, implies_true, and_true, true_and, decide_true, decide_false, Bool.false_eq_true, Bool.true_eq_false, eq_self, reduceCtorEq, c_is_integer_0, c_lowest_0, c_is_lowest_0, c_sum_of_two_0, c_opposite_0, c_difference_0, c_times_integer_0, c_rooted_0, c_sign_of_0, c_order_0, c_floor_of_number_0, c_check_kind_0, c_check_number_0, c_check_count_0, c_is_number_0, c_sign_0, c_sign_1, c_compared_0, c_compared_1, c_floor_of_0, c_floor_of_1, c_about_0, c_about_1, c_unit_0, c_unit_1, c_stretch_unit_0, c_stretch_unit_1, c__law_deck_0, c__law_take_0, c__law_gcd_0, c__law_num_0, c__law_plus_0, c__law_minus_0, c__law_times_0, c__law_sign_0, c__law_same_0, c__law_number_0, c__law_near_0, c__law_drawn_0, c__law_is_floor_0, c__law_right_0, c__law_units_0, mul_ok sr.c s12 (by omega), en]
    rw [tk (sm.trans sm5)]
    exact hQ _ S5 (low_low c0) ((low_sn c0 sr.a sr.b (sr.c.mul s12)).mono (by omega) (by omega)) dk5 (sm.trans sm5)
  · exact ⟨1, 0, _, _, by rw [rng_len]; omega, rfl, rfl, Sz.mono (p := 1) (Sz.const (by decide)) (by omega), Sz.mono (p := 1) (Sz.const (by decide)) (by omega)⟩
theorem w_drawn (hw : Wl wl) {f : Int} (hf : Kind f) {j : Nat} {Q : R → Sto → Prop} {E : EK} (dk : Deck S j) (hQ : ∀ (p : Int × Int × Int) (S' : Sto), IsLow p → Sn 4700 60 p → Deck S' j → Same S S' j → Q (.v (T3 p)) S') : W (callN G wl (k + 5) "_law_drawn" [.r j, I f] S) Q E := by
  rw [w_fun lk__law_drawn rfl]
  simp only [d__law_drawn, EV.w_loc, EV.w_at0, EV.w_atS, EV.w_lit, EV.w_op, EV.w_neg, EV.w_negR, EV.w_not, EV.w_cmp, EV.w_ite, EV.w_evT, EV.w_tup, EV.w_lst, EV.w_ix, EV.w_bi, EV.w_isi, EV.w_rev, EV.w_bop, EV.w_b1, EV.w_b2, EV.w_fld, EV.w_fldR, EV.w_call, EV.w_mth, EV.w_enil, EV.w_econs, EV.w_ono, EV.w_oso, EV.w_intO, EV.w_slc, EV.w_cno, EV.w_cso, EV.w_dix, EV.o_add, EV.o_sub, EV.o_mul, EV.o_div, EV.o_mod, EV.o_lt, EV.o_le, EV.o_gt, EV.o_ge, EV.o_eq, EV.o_ne, EV.o_tb, EV.o_ti, W_ok, W_ex, WS_ok, WS_ex, EV.s_nil, EV.s_cons, EV.s_asgN, EV.s_asgT, EV.s_par2, EV.s_par3, EV.s_set, EV.s_ex, EV.s_iff, EV.s_for, EV.s_wh, EV.s_ret, EV.s_retN, EV.s_rai, EV.rai_v, EV.s_try, EV.s_hnil, EV.s_pas, EV.s_brk, EV.s_cnt, NX_nx, NX_rt, NX_bk, NX_ct, JN_nx, JN_rt, JN_bk, JN_ct, TN_nx, TN_rt, TN_bk, TN_ct, RQ_nx, RQ_rt, EV.gc_v, EV.b_gcd, EV.b_abs, EV.b_max, EV.b_min, EV.b_int, EV.b_intb, EV.b_lens, EV.b_lent, EV.b_lenl, EV.b_isqrt, EV.b_listt, EV.b_listl, EV.t_1, EV.t_2, EV.t_3, EV.t_4, EV.ds_1, EV.ds_2, EV.ds_3, EV.ds_4, EV.l_0, EV.l_1, EV.l_2, EV.l_3, EV.l_4, EV.l_5, EV.l_6, EV.lm_2, EV.i_seq, EV.i_tup, EV.i_lst, EV.i_scr, EV.i_rng, EV.i_rngR, EV.i_rng2, List.set_cons_zero, List.set_cons_succ, List.map_cons, List.map_nil, List.cons_append, List.nil_append, List.replicate, List.length_cons, List.length_nil, List.take_length, decide_eq_true_eq, decide_eq_false_iff_not, okv, okr, oks, Bool.not_true, Bool.not_false, EV.x_t0, EV.x_t1, EV.x_t2, EV.x_l0, EV.x_l1, EV.x_l2, EV.c_20, EV.c_32, EV.isi_int_0, EV.isi_int_1, EV.isi_int_2, EV.isi_int_3, EV.isi_int_4, EV.isi_int_5, EV.isi_int_6, EV.isi_int_7, EV.isi_int_8, EV.isi_bool_0, EV.isi_bool_1, EV.isi_bool_2, EV.isi_bool_3, EV.isi_bool_4, EV.isi_bool_5, EV.isi_bool_6, EV.isi_bool_7, EV.isi_bool_8, EV.isi_str_0, EV.isi_str_1, EV.isi_str_2, EV.isi_str_3, EV.isi_str_4, EV.isi_str_5, EV.isi_str_6, EV.isi_str_7, EV.isi_str_8, EV.isi_none_0, EV.isi_none_1, EV.isi_none_2, EV.isi_none_3, EV.isi_none_4, EV.isi_none_5, EV.isi_none_6, EV.isi_none_7, EV.isi_none_8, EV.isi_tuple_0, EV.isi_tuple_1, EV.isi_tuple_2, EV.isi_tuple_3, EV.isi_tuple_4, EV.isi_tuple_5, EV.isi_tuple_6, EV.isi_tuple_7, EV.isi_tuple_8, EV.isi_list_0, EV.isi_list_1, EV.isi_list_2, EV.isi_list_3, EV.isi_list_4, EV.isi_list_5, EV.isi_list_6, EV.isi_list_7, EV.isi_list_8, EV.f_nm, EV.f_nil, EV.o_eqb, EV.o_neb, EV.o_isn, EV.o_isnn, EV.o_leq0, EV.o_lne0, EV.in_none, EV.in_int, EV.in_bool, EV.in_str, EV.in_tup, EV.in_lst, EV.td_v, SE_nx, SE_rtv, EV.sc_nil, EV.sc_none, EV.sc_v, EV.sc_r, EV.sc_s, EV.sc_x, Bool.not_eq_true', Bool.not_eq_false', EV.goB_a, EV.goB_o, EV.bo_t, EV.bo_l, EV.bo_nil, EV.bo_nm, EV.bo_tt, EV.bo_tl, EV.wipe_nil, EV.wipe_cons, Nat.reduceAdd, Nat.zero_add, Int.cast_ofNat_Int, Int.reduceEq, forall_const, not_true_eq_false, not_false_eq_true, false_implies, implies_true, and_true, true_and, decide_true, decide_false, Bool.false_eq_true, Bool.true_eq_false, eq_self, reduceCtorEq, c_is_integer_0, c_lowest_0, c_is_lowest_0, c_sum_of_two_0, c_opposite_0, c_difference_0, c_times_integer_0, c_rooted_0, c_sign_of_0, c_order_0, c_floor_of_number_0, c_check_kind_0, c_check_number_0, c_check_count_0, c_is_number_0, c_sign_0, c_sign_1, c_compared_0, c_compared_1, c_floor_of_0, c_floor_of_1, c_about_0, c_about_1, c_unit_0, c_unit_1, c_stretch_unit_0, c_stretch_unit_1, c__law_deck_0, c__law_take_0, c__law_gcd_0, c__law_num_0, c__law_plus_0, c__law_minus_0, c__law_times_0, c__law_sign_0, c__law_same_0, c__law_number_0, c__law_near_0, c__law_drawn_0, c__law_is_floor_0, c__law_right_0, c__law_units_0]
  refine w_take dk (by decide) (Sz.const (by decide)) fun t S1 t0 t1 dk1 sm1 => ?_
  (try simp only [EV.w_loc, EV.w_at0, EV.w_atS, EV.w_lit, EV.w_op, EV.w_neg, EV.w_negR, EV.w_not, EV.w_cmp, EV.w_ite, EV.w_evT, EV.w_tup, EV.w_lst, EV.w_ix, EV.w_bi, EV.w_isi, EV.w_rev, EV.w_bop, EV.w_b1, EV.w_b2, EV.w_fld, EV.w_fldR, EV.w_call, EV.w_mth, EV.w_enil, EV.w_econs, EV.w_ono, EV.w_oso, EV.w_intO, EV.w_slc, EV.w_cno, EV.w_cso, EV.w_dix, EV.o_add, EV.o_sub, EV.o_mul, EV.o_div, EV.o_mod, EV.o_lt, EV.o_le, EV.o_gt, EV.o_ge, EV.o_eq, EV.o_ne, EV.o_tb, EV.o_ti, W_ok, W_ex, WS_ok, WS_ex, EV.s_nil, EV.s_cons, EV.s_asgN, EV.s_asgT, EV.s_par2, EV.s_par3, EV.s_set, EV.s_ex, EV.s_iff, EV.s_for, EV.s_wh, EV.s_ret, EV.s_retN, EV.s_rai, EV.rai_v, EV.s_try, EV.s_hnil, EV.s_pas, EV.s_brk, EV.s_cnt, NX_nx, NX_rt, NX_bk, NX_ct, JN_nx, JN_rt, JN_bk, JN_ct, TN_nx, TN_rt, TN_bk, TN_ct, RQ_nx, RQ_rt, EV.gc_v, EV.b_gcd, EV.b_abs, EV.b_max, EV.b_min, EV.b_int, EV.b_intb, EV.b_lens, EV.b_lent, EV.b_lenl, EV.b_isqrt, EV.b_listt, EV.b_listl, EV.t_1, EV.t_2, EV.t_3, EV.t_4, EV.ds_1, EV.ds_2, EV.ds_3, EV.ds_4, EV.l_0, EV.l_1, EV.l_2, EV.l_3, EV.l_4, EV.l_5, EV.l_6, EV.lm_2, EV.i_seq, EV.i_tup, EV.i_lst, EV.i_scr, EV.i_rng, EV.i_rngR, EV.i_rng2, List.set_cons_zero, List.set_cons_succ, List.map_cons, List.map_nil, List.cons_append, List.nil_append, List.replicate, List.length_cons, List.length_nil, List.take_length, decide_eq_true_eq, decide_eq_false_iff_not, okv, okr, oks, Bool.not_true, Bool.not_false, EV.x_t0, EV.x_t1, EV.x_t2, EV.x_l0, EV.x_l1, EV.x_l2, EV.c_20, EV.c_32, EV.isi_int_0, EV.isi_int_1, EV.isi_int_2, EV.isi_int_3, EV.isi_int_4, EV.isi_int_5, EV.isi_int_6, EV.isi_int_7, EV.isi_int_8, EV.isi_bool_0, EV.isi_bool_1, EV.isi_bool_2, EV.isi_bool_3, EV.isi_bool_4, EV.isi_bool_5, EV.isi_bool_6, EV.isi_bool_7, EV.isi_bool_8, EV.isi_str_0, EV.isi_str_1, EV.isi_str_2, EV.isi_str_3, EV.isi_str_4, EV.isi_str_5, EV.isi_str_6, EV.isi_str_7, EV.isi_str_8, EV.isi_none_0, EV.isi_none_1, EV.isi_none_2, EV.isi_none_3, EV.isi_none_4, EV.isi_none_5, EV.isi_none_6, EV.isi_none_7, EV.isi_none_8, EV.isi_tuple_0, EV.isi_tuple_1, EV.isi_tuple_2, EV.isi_tuple_3, EV.isi_tuple_4, EV.isi_tuple_5, EV.isi_tuple_6, EV.isi_tuple_7, EV.isi_tuple_8, EV.isi_list_0, EV.isi_list_1, EV.isi_list_2, EV.isi_list_3, EV.isi_list_4, EV.isi_list_5, EV.isi_list_6, EV.isi_list_7, EV.isi_list_8, EV.f_nm, EV.f_nil, EV.o_eqb, EV.o_neb, EV.o_isn, EV.o_isnn, EV.o_leq0, EV.o_lne0, EV.in_none, EV.in_int, EV.in_bool, EV.in_str, EV.in_tup, EV.in_lst, EV.td_v, SE_nx, SE_rtv, EV.sc_nil, EV.sc_none, EV.sc_v, EV.sc_r, EV.sc_s, EV.sc_x, Bool.not_eq_true', Bool.not_eq_false', EV.goB_a, EV.goB_o, EV.bo_t, EV.bo_l, EV.bo_nil, EV.bo_nm, EV.bo_tt, EV.bo_tl, EV.wipe_nil, EV.wipe_cons, Nat.reduceAdd, Nat.zero_add, Int.cast_ofNat_Int, Int.reduceEq, forall_const, not_true_eq_false, not_false_eq_true, false_implies, implies_true, and_true, true_and, decide_true, decide_false, Bool.false_eq_true, Bool.true_eq_false, eq_self, reduceCtorEq, c_is_integer_0, c_lowest_0, c_is_lowest_0, c_sum_of_two_0, c_opposite_0, c_difference_0, c_times_integer_0, c_rooted_0, c_sign_of_0, c_order_0, c_floor_of_number_0, c_check_kind_0, c_check_number_0, c_check_count_0, c_is_number_0, c_sign_0, c_sign_1, c_compared_0, c_compared_1, c_floor_of_0, c_floor_of_1, c_about_0, c_about_1, c_unit_0, c_unit_1, c_stretch_unit_0, c_stretch_unit_1, c__law_deck_0, c__law_take_0, c__law_gcd_0, c__law_num_0, c__law_plus_0, c__law_minus_0, c__law_times_0, c__law_sign_0, c__law_same_0, c__law_number_0, c__law_near_0, c__law_drawn_0, c__law_is_floor_0, c__law_right_0, c__law_units_0])
  refine w_number hw dk1 fun p S2 lp sp dk2 sm2 => ?_
  have sm12 := sm1.trans sm2
  have tens : Sz 70 (100000000000000000000 : Int) := Sz.const (by decide)
  simp only [EV.w_loc, EV.w_at0, EV.w_atS, EV.w_lit, EV.w_op, EV.w_neg, EV.w_negR, EV.w_not, EV.w_cmp, EV.w_ite, EV.w_evT, EV.w_tup, EV.w_lst, EV.w_ix, EV.w_bi, EV.w_isi, EV.w_rev, EV.w_bop, EV.w_b1, EV.w_b2, EV.w_fld, EV.w_fldR, EV.w_call, EV.w_mth, EV.w_enil, EV.w_econs, EV.w_ono, EV.w_oso, EV.w_intO, EV.w_slc, EV.w_cno, EV.w_cso, EV.w_dix, EV.o_add, EV.o_sub, EV.o_mul, EV.o_div, EV.o_mod, EV.o_lt, EV.o_le, EV.o_gt, EV.o_ge, EV.o_eq, EV.o_ne, EV.o_tb, EV.o_ti, W_ok, W_ex, WS_ok, WS_ex, EV.s_nil, EV.s_cons, EV.s_asgN, EV.s_asgT, EV.s_par2, EV.s_par3, EV.s_set, EV.s_ex, EV.s_iff, EV.s_for, EV.s_wh, EV.s_ret, EV.s_retN, EV.s_rai, EV.rai_v, EV.s_try, EV.s_hnil, EV.s_pas, EV.s_brk, EV.s_cnt, NX_nx, NX_rt, NX_bk, NX_ct, JN_nx, JN_rt, JN_bk, JN_ct, TN_nx, TN_rt, TN_bk, TN_ct, RQ_nx, RQ_rt, EV.gc_v, EV.b_gcd, EV.b_abs, EV.b_max, EV.b_min, EV.b_int, EV.b_intb, EV.b_lens, EV.b_lent, EV.b_lenl, EV.b_isqrt, EV.b_listt, EV.b_listl, EV.t_1, EV.t_2, EV.t_3, EV.t_4, EV.ds_1, EV.ds_2, EV.ds_3, EV.ds_4, EV.l_0, EV.l_1, EV.l_2, EV.l_3, EV.l_4, EV.l_5, EV.l_6, EV.lm_2, EV.i_seq, EV.i_tup, EV.i_lst, EV.i_scr, EV.i_rng, EV.i_rngR, EV.i_rng2, List.set_cons_zero, List.set_cons_succ, List.map_cons, List.map_nil, List.cons_append, List.nil_append, List.replicate, List.length_cons, List.length_nil, List.take_length, decide_eq_true_eq, decide_eq_false_iff_not, okv, okr, oks, Bool.not_true, Bool.not_false, EV.x_t0, EV.x_t1, EV.x_t2, EV.x_l0, EV.x_l1, EV.x_l2, EV.c_20, EV.c_32, EV.isi_int_0, EV.isi_int_1, EV.isi_int_2, EV.isi_int_3, EV.isi_int_4, EV.isi_int_5, EV.isi_int_6, EV.isi_int_7, EV.isi_int_8, EV.isi_bool_0, EV.isi_bool_1, EV.isi_bool_2, EV.isi_bool_3, EV.isi_bool_4, EV.isi_bool_5, EV.isi_bool_6, EV.isi_bool_7, EV.isi_bool_8, EV.isi_str_0, EV.isi_str_1, EV.isi_str_2, EV.isi_str_3, EV.isi_str_4, EV.isi_str_5, EV.isi_str_6, EV.isi_str_7, EV.isi_str_8, EV.isi_none_0, EV.isi_none_1, EV.isi_none_2, EV.isi_none_3, EV.isi_none_4, EV.isi_none_5, EV.isi_none_6, EV.isi_none_7, EV.isi_none_8, EV.isi_tuple_0, EV.isi_tuple_1, EV.isi_tuple_2, EV.isi_tuple_3, EV.isi_tuple_4, EV.isi_tuple_5, EV.isi_tuple_6, EV.isi_tuple_7, EV.isi_tuple_8, EV.isi_list_0, EV.isi_list_1, EV.isi_list_2, EV.isi_list_3, EV.isi_list_4, EV.isi_list_5, EV.isi_list_6, EV.isi_list_7, EV.isi_list_8, EV.f_nm, EV.f_nil, EV.o_eqb, EV.o_neb, EV.o_isn, EV.o_isnn, EV.o_leq0, EV.o_lne0, EV.in_none, EV.in_int, EV.in_bool, EV.in_str, EV.in_tup, EV.in_lst, EV.td_v, SE_nx, SE_rtv, EV.sc_nil, EV.sc_none, EV.sc_v, EV.sc_r, EV.sc_s, EV.sc_x, Bool.not_eq_true', Bool.not_eq_false', EV.goB_a, EV.goB_o, EV.bo_t, EV.bo_l, EV.bo_nil, EV.bo_nm, EV.bo_tt, EV.bo_tl, EV.wipe_nil, EV.wipe_cons, Nat.reduceAdd, Nat.zero_add, Int.cast_ofNat_Int, Int.reduceEq, forall_const, not_true_eq_false, not_false_eq_true, false_implies, implies_true, and_true, true_and, decide_true, decide_false, Bool.false_eq_true, Bool.true_eq_false, eq_self, reduceCtorEq, c_is_integer_0, c_lowest_0, c_is_lowest_0, c_sum_of_two_0, c_opposite_0, c_difference_0, c_times_integer_0, c_rooted_0, c_sign_of_0, c_order_0, c_floor_of_number_0, c_check_kind_0, c_check_number_0, c_check_count_0, c_is_number_0, c_sign_0, c_sign_1, c_compared_0, c_compared_1, c_floor_of_0, c_floor_of_1, c_about_0, c_about_1, c_unit_0, c_unit_1, c_stretch_unit_0, c_stretch_unit_1, c__law_deck_0, c__law_take_0, c__law_gcd_0, c__law_num_0, c__law_plus_0, c__law_minus_0, c__law_times_0, c__law_sign_0, c__law_same_0, c__law_number_0, c__law_near_0, c__law_drawn_0, c__law_is_floor_0, c__law_right_0, c__law_units_0, p20, p9, p6, p30, mul_ok sp.a tens (by omega), mul_ok sp.b tens (by omega)]
  refine ⟨fun z => ?_, fun z => ⟨fun z2 => ?_, fun z2 => ?_⟩⟩
  · rw [tk sm12]
    exact hQ p S2 lp (sp.mono (by omega) (by omega)) dk2 sm12
  · refine w_take dk2 (by decide) (Sz.const (by decide)) fun a S3 a0 a1 dk3 sm3 => ?_
    simp only [EV.w_loc, EV.w_at0, EV.w_atS, EV.w_lit, EV.w_op, EV.w_neg, EV.w_negR, EV.w_not, EV.w_cmp, EV.w_ite, EV.w_evT, EV.w_tup, EV.w_lst, EV.w_ix, EV.w_bi, EV.w_isi, EV.w_rev, EV.w_bop, EV.w_b1, EV.w_b2, EV.w_fld, EV.w_fldR, EV.w_call, EV.w_mth, EV.w_enil, EV.w_econs, EV.w_ono, EV.w_oso, EV.w_intO, EV.w_slc, EV.w_cno, EV.w_cso, EV.w_dix, EV.o_add, EV.o_sub, EV.o_mul, EV.o_div, EV.o_mod, EV.o_lt, EV.o_le, EV.o_gt, EV.o_ge, EV.o_eq, EV.o_ne, EV.o_tb, EV.o_ti, W_ok, W_ex, WS_ok, WS_ex, EV.s_nil, EV.s_cons, EV.s_asgN, EV.s_asgT, EV.s_par2, EV.s_par3, EV.s_set, EV.s_ex, EV.s_iff, EV.s_for, EV.s_wh, EV.s_ret, EV.s_retN, EV.s_rai, EV.rai_v, EV.s_try, EV.s_hnil, EV.s_pas, EV.s_brk, EV.s_cnt, NX_nx, NX_rt, NX_bk, NX_ct, JN_nx, JN_rt, JN_bk, JN_ct, TN_nx, TN_rt, TN_bk, TN_ct, RQ_nx, RQ_rt, EV.gc_v, EV.b_gcd, EV.b_abs, EV.b_max, EV.b_min, EV.b_int, EV.b_intb, EV.b_lens, EV.b_lent, EV.b_lenl, EV.b_isqrt, EV.b_listt, EV.b_listl, EV.t_1, EV.t_2, EV.t_3, EV.t_4, EV.ds_1, EV.ds_2, EV.ds_3, EV.ds_4, EV.l_0, EV.l_1, EV.l_2, EV.l_3, EV.l_4, EV.l_5, EV.l_6, EV.lm_2, EV.i_seq, EV.i_tup, EV.i_lst, EV.i_scr, EV.i_rng, EV.i_rngR, EV.i_rng2, List.set_cons_zero, List.set_cons_succ, List.map_cons, List.map_nil, List.cons_append, List.nil_append, List.replicate, List.length_cons, List.length_nil, List.take_length, decide_eq_true_eq, decide_eq_false_iff_not, okv, okr, oks, Bool.not_true, Bool.not_false, EV.x_t0, EV.x_t1, EV.x_t2, EV.x_l0, EV.x_l1, EV.x_l2, EV.c_20, EV.c_32, EV.isi_int_0, EV.isi_int_1, EV.isi_int_2, EV.isi_int_3, EV.isi_int_4, EV.isi_int_5, EV.isi_int_6, EV.isi_int_7, EV.isi_int_8, EV.isi_bool_0, EV.isi_bool_1, EV.isi_bool_2, EV.isi_bool_3, EV.isi_bool_4, EV.isi_bool_5, EV.isi_bool_6, EV.isi_bool_7, EV.isi_bool_8, EV.isi_str_0, EV.isi_str_1, EV.isi_str_2, EV.isi_str_3, EV.isi_str_4, EV.isi_str_5, EV.isi_str_6, EV.isi_str_7, EV.isi_str_8, EV.isi_none_0, EV.isi_none_1, EV.isi_none_2, EV.isi_none_3, EV.isi_none_4, EV.isi_none_5, EV.isi_none_6, EV.isi_none_7, EV.isi_none_8, EV.isi_tuple_0, EV.isi_tuple_1, EV.isi_tuple_2, EV.isi_tuple_3, EV.isi_tuple_4, EV.isi_tuple_5, EV.isi_tuple_6, EV.isi_tuple_7, EV.isi_tuple_8, EV.isi_list_0, EV.isi_list_1, EV.isi_list_2, EV.isi_list_3, EV.isi_list_4, EV.isi_list_5, EV.isi_list_6, EV.isi_list_7, EV.isi_list_8, EV.f_nm, EV.f_nil, EV.o_eqb, EV.o_neb, EV.o_isn, EV.o_isnn, EV.o_leq0, EV.o_lne0, EV.in_none, EV.in_int, EV.in_bool, EV.in_str, EV.in_tup, EV.in_lst, EV.td_v, SE_nx, SE_rtv, EV.sc_nil, EV.sc_none, EV.sc_v, EV.sc_r, EV.sc_s, EV.sc_x, Bool.not_eq_true', Bool.not_eq_false', EV.goB_a, EV.goB_o, EV.bo_t, EV.bo_l, EV.bo_nil, EV.bo_nm, EV.bo_tt, EV.bo_tl, EV.wipe_nil, EV.wipe_cons, Nat.reduceAdd, Nat.zero_add, Int.cast_ofNat_Int, Int.reduceEq, forall_const, not_true_eq_false, not_false_eq_true, false_implies, implies_true, and_true, true_and, decide_true, decide_false, Bool.false_eq_true, Bool.true_eq_false, eq_self, reduceCtorEq, c_is_integer_0, c_lowest_0, c_is_lowest_0, c_sum_of_two_0, c_opposite_0, c_difference_0, c_times_integer_0, c_rooted_0, c_sign_of_0, c_order_0, c_floor_of_number_0, c_check_kind_0, c_check_number_0, c_check_count_0, c_is_number_0, c_sign_0, c_sign_1, c_compared_0, c_compared_1, c_floor_of_0, c_floor_of_1, c_about_0, c_about_1, c_unit_0, c_unit_1, c_stretch_unit_0, c_stretch_unit_1, c__law_deck_0, c__law_take_0, c__law_gcd_0, c__law_num_0, c__law_plus_0, c__law_minus_0, c__law_times_0, c__law_sign_0, c__law_same_0, c__law_number_0, c__law_near_0, c__law_drawn_0, c__law_is_floor_0, c__law_right_0, c__law_units_0, p20, p9, mul_ok sp.b tens (by omega)]
    refine w_take dk3 (by decide) (Sz.const (by decide)) fun b S4 b0 b1 dk4 sm4 => ?_
    have sa : Sz 40 a := szb (b := 1000000000) (by omega) (by decide)
    have sb : Sz 40 b := szb (b := 1000000000) (by omega) (by decide)
    have s1 : Sz 91 (p.1 * 100000000000000000000 + a) := (sp.a.mul tens).sum sa (by omega) (by omega)
    have s2 : Sz 91 (p.2.1 * 100000000000000000000 - b) := (sp.b.mul tens).dif sb (by omega) (by omega)
    have en : ∀ S, callN G wl (k + 4) "_law_num" [I (p.1 * 100000000000000000000 + a), I (p.2.1 * 100000000000000000000 - b), I p.2.2] S = .ok (.v (T3 (low (p.1 * 100000000000000000000 + a) (p.2.1 * 100000000000000000000 - b) p.2.2))) S := fun S => e_num hw lp.ne sp.c s2 (by omega) (by omega)
    simp only [EV.w_loc, EV.w_at0, EV.w_atS, EV.w_lit, EV.w_op, EV.w_neg, EV.w_negR, EV.w_not, EV.w_cmp, EV.w_ite, EV.w_evT, EV.w_tup, EV.w_lst, EV.w_ix, EV.w_bi, EV.w_isi, EV.w_rev, EV.w_bop, EV.w_b1, EV.w_b2, EV.w_fld, EV.w_fldR, EV.w_call, EV.w_mth, EV.w_enil, EV.w_econs, EV.w_ono, EV.w_oso, EV.w_intO, EV.w_slc, EV.w_cno, EV.w_cso, EV.w_dix, EV.o_add, EV.o_sub, EV.o_mul, EV.o_div, EV.o_mod, EV.o_lt, EV.o_le, EV.o_gt, EV.o_ge, EV.o_eq, EV.o_ne, EV.o_tb, EV.o_ti, W_ok, W_ex, WS_ok, WS_ex, EV.s_nil, EV.s_cons, EV.s_asgN, EV.s_asgT, EV.s_par2, EV.s_par3, EV.s_set, EV.s_ex, EV.s_iff, EV.s_for, EV.s_wh, EV.s_ret, EV.s_retN, EV.s_rai, EV.rai_v, EV.s_try, EV.s_hnil, EV.s_pas, EV.s_brk, EV.s_cnt, NX_nx, NX_rt, NX_bk, NX_ct, JN_nx, JN_rt, JN_bk, JN_ct, TN_nx, TN_rt, TN_bk, TN_ct, RQ_nx, RQ_rt, EV.gc_v, EV.b_gcd, EV.b_abs, EV.b_max, EV.b_min, EV.b_int, EV.b_intb, EV.b_lens, EV.b_lent, EV.b_lenl, EV.b_isqrt, EV.b_listt, EV.b_listl, EV.t_1, EV.t_2, EV.t_3, EV.t_4, EV.ds_1, EV.ds_2, EV.ds_3, EV.ds_4, EV.l_0, EV.l_1, EV.l_2, EV.l_3, EV.l_4, EV.l_5, EV.l_6, EV.lm_2, EV.i_seq, EV.i_tup, EV.i_lst, EV.i_scr, EV.i_rng, EV.i_rngR, EV.i_rng2, List.set_cons_zero, List.set_cons_succ, List.map_cons, List.map_nil, List.cons_append, List.nil_append, List.replicate, List.length_cons, List.length_nil, List.take_length, decide_eq_true_eq, decide_eq_false_iff_not, okv, okr, oks, Bool.not_true, Bool.not_false, EV.x_t0, EV.x_t1, EV.x_t2, EV.x_l0, EV.x_l1, EV.x_l2, EV.c_20, EV.c_32, EV.isi_int_0, EV.isi_int_1, EV.isi_int_2, EV.isi_int_3, EV.isi_int_4, EV.isi_int_5, EV.isi_int_6, EV.isi_int_7, EV.isi_int_8, EV.isi_bool_0, EV.isi_bool_1, EV.isi_bool_2, EV.isi_bool_3, EV.isi_bool_4, EV.isi_bool_5, EV.isi_bool_6, EV.isi_bool_7, EV.isi_bool_8, EV.isi_str_0, EV.isi_str_1, EV.isi_str_2, EV.isi_str_3, EV.isi_str_4, EV.isi_str_5, EV.isi_str_6, EV.isi_str_7, EV.isi_str_8, EV.isi_none_0, EV.isi_none_1, EV.isi_none_2, EV.isi_none_3, EV.isi_none_4, EV.isi_none_5, EV.isi_none_6, EV.isi_none_7, EV.isi_none_8, EV.isi_tuple_0, EV.isi_tuple_1, EV.isi_tuple_2, EV.isi_tuple_3, EV.isi_tuple_4, EV.isi_tuple_5, EV.isi_tuple_6, EV.isi_tuple_7, EV.isi_tuple_8, EV.isi_list_0, EV.isi_list_1, EV.isi_list_2, EV.isi_list_3, EV.isi_list_4, EV.isi_list_5, EV.isi_list_6, EV.isi_list_7, EV.isi_list_8, EV.f_nm, EV.f_nil, EV.o_eqb, EV.o_neb, EV.o_isn, EV.o_isnn, EV.o_leq0, EV.o_lne0, EV.in_none, EV.in_int, EV.in_bool, EV.in_str, EV.in_tup, EV.in_lst, EV.td_v, SE_nx, SE_rtv, EV.sc_nil, EV.sc_none, EV.sc_v, EV.sc_r, EV.sc_s, EV.sc_x, Bool.not_eq_true', Bool.not_eq_false', EV.goB_a, EV.goB_o, EV.bo_t, EV.bo_l, EV.bo_nil, EV.bo_nm, EV.bo_tt, EV.bo_tl, EV.wipe_nil, EV.wipe_cons, Nat.reduceAdd, Nat.zero_add, Int.cast_ofNat_Int, Int.reduceEq, forall_const, not_true_eq_false, not_false_eq_true, false_implies, implies_true, and_true, true_and, decide_true, decide_false, Bool.false_eq_true, Bool.true_eq_false, eq_self, reduceCtorEq, c_is_integer_0, c_lowest_0, c_is_lowest_0, c_sum_of_two_0, c_opposite_0, c_difference_0, c_times_integer_0, c_rooted_0, c_sign_of_0, c_order_0, c_floor_of_number_0, c_check_kind_0, c_check_number_0, c_check_count_0, c_is_number_0, c_sign_0, c_sign_1, c_compared_0, c_compared_1, c_floor_of_0, c_floor_of_1, c_about_0, c_about_1, c_unit_0, c_unit_1, c_stretch_unit_0, c_stretch_unit_1, c__law_deck_0, c__law_take_0, c__law_gcd_0, c__law_num_0, c__law_plus_0, c__law_minus_0, c__law_times_0, c__law_sign_0, c__law_same_0, c__law_number_0, c__law_near_0, c__law_drawn_0, c__law_is_floor_0, c__law_right_0, c__law_units_0, en]
    have sm := (sm12.trans sm3).trans sm4
    rw [tk sm]
    exact hQ _ S4 (low_low lp.ne) ((low_sn lp.ne s1 s2 sp.c).mono (by omega) (by omega)) dk4 sm
  · refine w_near hw hf dk2 fun q S3 lq sq dk3 sm3 => ?_
    (try simp only [EV.w_loc, EV.w_at0, EV.w_atS, EV.w_lit, EV.w_op, EV.w_neg, EV.w_negR, EV.w_not, EV.w_cmp, EV.w_ite, EV.w_evT, EV.w_tup, EV.w_lst, EV.w_ix, EV.w_bi, EV.w_isi, EV.w_rev, EV.w_bop, EV.w_b1, EV.w_b2, EV.w_fld, EV.w_fldR, EV.w_call, EV.w_mth, EV.w_enil, EV.w_econs, EV.w_ono, EV.w_oso, EV.w_intO, EV.w_slc, EV.w_cno, EV.w_cso, EV.w_dix, EV.o_add, EV.o_sub, EV.o_mul, EV.o_div, EV.o_mod, EV.o_lt, EV.o_le, EV.o_gt, EV.o_ge, EV.o_eq, EV.o_ne, EV.o_tb, EV.o_ti, W_ok, W_ex, WS_ok, WS_ex, EV.s_nil, EV.s_cons, EV.s_asgN, EV.s_asgT, EV.s_par2, EV.s_par3, EV.s_set, EV.s_ex, EV.s_iff, EV.s_for, EV.s_wh, EV.s_ret, EV.s_retN, EV.s_rai, EV.rai_v, EV.s_try, EV.s_hnil, EV.s_pas, EV.s_brk, EV.s_cnt, NX_nx, NX_rt, NX_bk, NX_ct, JN_nx, JN_rt, JN_bk, JN_ct, TN_nx, TN_rt, TN_bk, TN_ct, RQ_nx, RQ_rt, EV.gc_v, EV.b_gcd, EV.b_abs, EV.b_max, EV.b_min, EV.b_int, EV.b_intb, EV.b_lens, EV.b_lent, EV.b_lenl, EV.b_isqrt, EV.b_listt, EV.b_listl, EV.t_1, EV.t_2, EV.t_3, EV.t_4, EV.ds_1, EV.ds_2, EV.ds_3, EV.ds_4, EV.l_0, EV.l_1, EV.l_2, EV.l_3, EV.l_4, EV.l_5, EV.l_6, EV.lm_2, EV.i_seq, EV.i_tup, EV.i_lst, EV.i_scr, EV.i_rng, EV.i_rngR, EV.i_rng2, List.set_cons_zero, List.set_cons_succ, List.map_cons, List.map_nil, List.cons_append, List.nil_append, List.replicate, List.length_cons, List.length_nil, List.take_length, decide_eq_true_eq, decide_eq_false_iff_not, okv, okr, oks, Bool.not_true, Bool.not_false, EV.x_t0, EV.x_t1, EV.x_t2, EV.x_l0, EV.x_l1, EV.x_l2, EV.c_20, EV.c_32, EV.isi_int_0, EV.isi_int_1, EV.isi_int_2, EV.isi_int_3, EV.isi_int_4, EV.isi_int_5, EV.isi_int_6, EV.isi_int_7, EV.isi_int_8, EV.isi_bool_0, EV.isi_bool_1, EV.isi_bool_2, EV.isi_bool_3, EV.isi_bool_4, EV.isi_bool_5, EV.isi_bool_6, EV.isi_bool_7, EV.isi_bool_8, EV.isi_str_0, EV.isi_str_1, EV.isi_str_2, EV.isi_str_3, EV.isi_str_4, EV.isi_str_5, EV.isi_str_6, EV.isi_str_7, EV.isi_str_8, EV.isi_none_0, EV.isi_none_1, EV.isi_none_2, EV.isi_none_3, EV.isi_none_4, EV.isi_none_5, EV.isi_none_6, EV.isi_none_7, EV.isi_none_8, EV.isi_tuple_0, EV.isi_tuple_1, EV.isi_tuple_2, EV.isi_tuple_3, EV.isi_tuple_4, EV.isi_tuple_5, EV.isi_tuple_6, EV.isi_tuple_7, EV.isi_tuple_8, EV.isi_list_0, EV.isi_list_1, EV.isi_list_2, EV.isi_list_3, EV.isi_list_4, EV.isi_list_5, EV.isi_list_6, EV.isi_list_7, EV.isi_list_8, EV.f_nm, EV.f_nil, EV.o_eqb, EV.o_neb, EV.o_isn, EV.o_isnn, EV.o_leq0, EV.o_lne0, EV.in_none, EV.in_int, EV.in_bool, EV.in_str, EV.in_tup, EV.in_lst, EV.td_v, SE_nx, SE_rtv, EV.sc_nil, EV.sc_none, EV.sc_v, EV.sc_r, EV.sc_s, EV.sc_x, Bool.not_eq_true', Bool.not_eq_false', EV.goB_a, EV.goB_o, EV.bo_t, EV.bo_l, EV.bo_nil, EV.bo_nm, EV.bo_tt, EV.bo_tl, EV.wipe_nil, EV.wipe_cons, Nat.reduceAdd, Nat.zero_add, Int.cast_ofNat_Int, Int.reduceEq, forall_const, not_true_eq_false, not_false_eq_true, false_implies, implies_true, and_true, true_and, decide_true, decide_false, Bool.false_eq_true, Bool.true_eq_false, eq_self, reduceCtorEq, c_is_integer_0, c_lowest_0, c_is_lowest_0, c_sum_of_two_0, c_opposite_0, c_difference_0, c_times_integer_0, c_rooted_0, c_sign_of_0, c_order_0, c_floor_of_number_0, c_check_kind_0, c_check_number_0, c_check_count_0, c_is_number_0, c_sign_0, c_sign_1, c_compared_0, c_compared_1, c_floor_of_0, c_floor_of_1, c_about_0, c_about_1, c_unit_0, c_unit_1, c_stretch_unit_0, c_stretch_unit_1, c__law_deck_0, c__law_take_0, c__law_gcd_0, c__law_num_0, c__law_plus_0, c__law_minus_0, c__law_times_0, c__law_sign_0, c__law_same_0, c__law_number_0, c__law_near_0, c__law_drawn_0, c__law_is_floor_0, c__law_right_0, c__law_units_0])
    refine w_take dk3 (by decide) (Sz.const (by decide)) fun a S4 a0 a1 dk4 sm4 => ?_
    (try simp only [EV.w_loc, EV.w_at0, EV.w_atS, EV.w_lit, EV.w_op, EV.w_neg, EV.w_negR, EV.w_not, EV.w_cmp, EV.w_ite, EV.w_evT, EV.w_tup, EV.w_lst, EV.w_ix, EV.w_bi, EV.w_isi, EV.w_rev, EV.w_bop, EV.w_b1, EV.w_b2, EV.w_fld, EV.w_fldR, EV.w_call, EV.w_mth, EV.w_enil, EV.w_econs, EV.w_ono, EV.w_oso, EV.w_intO, EV.w_slc, EV.w_cno, EV.w_cso, EV.w_dix, EV.o_add, EV.o_sub, EV.o_mul, EV.o_div, EV.o_mod, EV.o_lt, EV.o_le, EV.o_gt, EV.o_ge, EV.o_eq, EV.o_ne, EV.o_tb, EV.o_ti, W_ok, W_ex, WS_ok, WS_ex, EV.s_nil, EV.s_cons, EV.s_asgN, EV.s_asgT, EV.s_par2, EV.s_par3, EV.s_set, EV.s_ex, EV.s_iff, EV.s_for, EV.s_wh, EV.s_ret, EV.s_retN, EV.s_rai, EV.rai_v, EV.s_try, EV.s_hnil, EV.s_pas, EV.s_brk, EV.s_cnt, NX_nx, NX_rt, NX_bk, NX_ct, JN_nx, JN_rt, JN_bk, JN_ct, TN_nx, TN_rt, TN_bk, TN_ct, RQ_nx, RQ_rt, EV.gc_v, EV.b_gcd, EV.b_abs, EV.b_max, EV.b_min, EV.b_int, EV.b_intb, EV.b_lens, EV.b_lent, EV.b_lenl, EV.b_isqrt, EV.b_listt, EV.b_listl, EV.t_1, EV.t_2, EV.t_3, EV.t_4, EV.ds_1, EV.ds_2, EV.ds_3, EV.ds_4, EV.l_0, EV.l_1, EV.l_2, EV.l_3, EV.l_4, EV.l_5, EV.l_6, EV.lm_2, EV.i_seq, EV.i_tup, EV.i_lst, EV.i_scr, EV.i_rng, EV.i_rngR, EV.i_rng2, List.set_cons_zero, List.set_cons_succ, List.map_cons, List.map_nil, List.cons_append, List.nil_append, List.replicate, List.length_cons, List.length_nil, List.take_length, decide_eq_true_eq, decide_eq_false_iff_not, okv, okr, oks, Bool.not_true, Bool.not_false, EV.x_t0, EV.x_t1, EV.x_t2, EV.x_l0, EV.x_l1, EV.x_l2, EV.c_20, EV.c_32, EV.isi_int_0, EV.isi_int_1, EV.isi_int_2, EV.isi_int_3, EV.isi_int_4, EV.isi_int_5, EV.isi_int_6, EV.isi_int_7, EV.isi_int_8, EV.isi_bool_0, EV.isi_bool_1, EV.isi_bool_2, EV.isi_bool_3, EV.isi_bool_4, EV.isi_bool_5, EV.isi_bool_6, EV.isi_bool_7, EV.isi_bool_8, EV.isi_str_0, EV.isi_str_1, EV.isi_str_2, EV.isi_str_3, EV.isi_str_4, EV.isi_str_5, EV.isi_str_6, EV.isi_str_7, EV.isi_str_8, EV.isi_none_0, EV.isi_none_1, EV.isi_none_2, EV.isi_none_3, EV.isi_none_4, EV.isi_none_5, EV.isi_none_6, EV.isi_none_7, EV.isi_none_8, EV.isi_tuple_0, EV.isi_tuple_1, EV.isi_tuple_2, EV.isi_tuple_3, EV.isi_tuple_4, EV.isi_tuple_5, EV.isi_tuple_6, EV.isi_tuple_7, EV.isi_tuple_8, EV.isi_list_0, EV.isi_list_1, EV.isi_list_2, EV.isi_list_3, EV.isi_list_4, EV.isi_list_5, EV.isi_list_6, EV.isi_list_7, EV.isi_list_8, EV.f_nm, EV.f_nil, EV.o_eqb, EV.o_neb, EV.o_isn, EV.o_isnn, EV.o_leq0, EV.o_lne0, EV.in_none, EV.in_int, EV.in_bool, EV.in_str, EV.in_tup, EV.in_lst, EV.td_v, SE_nx, SE_rtv, EV.sc_nil, EV.sc_none, EV.sc_v, EV.sc_r, EV.sc_s, EV.sc_x, Bool.not_eq_true', Bool.not_eq_false', EV.goB_a, EV.goB_o, EV.bo_t, EV.bo_l, EV.bo_nil, EV.bo_nm, EV.bo_tt, EV.bo_tl, EV.wipe_nil, EV.wipe_cons, Nat.reduceAdd, Nat.zero_add, Int.cast_ofNat_Int, Int.reduceEq, forall_const, not_true_eq_false, not_false_eq_true, false_implies, implies_true, and_true, true_and, decide_true, decide_false, Bool.false_eq_true, Bool.true_eq_false, eq_self, reduceCtorEq, c_is_integer_0, c_lowest_0, c_is_lowest_0, c_sum_of_two_0, c_opposite_0, c_difference_0, c_times_integer_0, c_rooted_0, c_sign_of_0, c_order_0, c_floor_of_number_0, c_check_kind_0, c_check_number_0, c_check_count_0, c_is_number_0, c_sign_0, c_sign_1, c_compared_0, c_compared_1, c_floor_of_0, c_floor_of_1, c_about_0, c_about_1, c_unit_0, c_unit_1, c_stretch_unit_0, c_stretch_unit_1, c__law_deck_0, c__law_take_0, c__law_gcd_0, c__law_num_0, c__law_plus_0, c__law_minus_0, c__law_times_0, c__law_sign_0, c__law_same_0, c__law_number_0, c__law_near_0, c__law_drawn_0, c__law_is_floor_0, c__law_right_0, c__law_units_0])
    refine x_lm a0 (by simp only [List.length_cons, List.length_nil]; omega) fun d hd => ?_
    obtain ⟨c, rfl, c1, c2⟩ : ∃ c : Int, d = .int c ∧ 1 ≤ c ∧ c ≤ 1000000000000000000000000000000 := by
      simp only [List.mem_cons, List.mem_nil_iff, or_false] at hd
      rcases hd with rfl | rfl | rfl
      · exact ⟨_, rfl, by decide, by decide⟩
      · exact ⟨_, rfl, by decide, by decide⟩
      · exact ⟨_, rfl, by decide, by decide⟩
    have sc : Sz 110 c := szb (b := 1000000000000000000000000000000) (by omega) (by decide)
    have sm34 := (sm12.trans sm3).trans sm4
    simp only [EV.w_loc, EV.w_at0, EV.w_atS, EV.w_lit, EV.w_op, EV.w_neg, EV.w_negR, EV.w_not, EV.w_cmp, EV.w_ite, EV.w_evT, EV.w_tup, EV.w_lst, EV.w_ix, EV.w_bi, EV.w_isi, EV.w_rev, EV.w_bop, EV.w_b1, EV.w_b2, EV.w_fld, EV.w_fldR, EV.w_call, EV.w_mth, EV.w_enil, EV.w_econs, EV.w_ono, EV.w_oso, EV.w_intO, EV.w_slc, EV.w_cno, EV.w_cso, EV.w_dix, EV.o_add, EV.o_sub, EV.o_mul, EV.o_div, EV.o_mod, EV.o_lt, EV.o_le, EV.o_gt, EV.o_ge, EV.o_eq, EV.o_ne, EV.o_tb, EV.o_ti, W_ok, W_ex, WS_ok, WS_ex, EV.s_nil, EV.s_cons, EV.s_asgN, EV.s_asgT, EV.s_par2, EV.s_par3, EV.s_set, EV.s_ex, EV.s_iff, EV.s_for, EV.s_wh, EV.s_ret, EV.s_retN, EV.s_rai, EV.rai_v, EV.s_try, EV.s_hnil, EV.s_pas, EV.s_brk, EV.s_cnt, NX_nx, NX_rt, NX_bk, NX_ct, JN_nx, JN_rt, JN_bk, JN_ct, TN_nx, TN_rt, TN_bk, TN_ct, RQ_nx, RQ_rt, EV.gc_v, EV.b_gcd, EV.b_abs, EV.b_max, EV.b_min, EV.b_int, EV.b_intb, EV.b_lens, EV.b_lent, EV.b_lenl, EV.b_isqrt, EV.b_listt, EV.b_listl, EV.t_1, EV.t_2, EV.t_3, EV.t_4, EV.ds_1, EV.ds_2, EV.ds_3, EV.ds_4, EV.l_0, EV.l_1, EV.l_2, EV.l_3, EV.l_4, EV.l_5, EV.l_6, EV.lm_2, EV.i_seq, EV.i_tup, EV.i_lst, EV.i_scr, EV.i_rng, EV.i_rngR, EV.i_rng2, List.set_cons_zero, List.set_cons_succ, List.map_cons, List.map_nil, List.cons_append, List.nil_append, List.replicate, List.length_cons, List.length_nil, List.take_length, decide_eq_true_eq, decide_eq_false_iff_not, okv, okr, oks, Bool.not_true, Bool.not_false, EV.x_t0, EV.x_t1, EV.x_t2, EV.x_l0, EV.x_l1, EV.x_l2, EV.c_20, EV.c_32, EV.isi_int_0, EV.isi_int_1, EV.isi_int_2, EV.isi_int_3, EV.isi_int_4, EV.isi_int_5, EV.isi_int_6, EV.isi_int_7, EV.isi_int_8, EV.isi_bool_0, EV.isi_bool_1, EV.isi_bool_2, EV.isi_bool_3, EV.isi_bool_4, EV.isi_bool_5, EV.isi_bool_6, EV.isi_bool_7, EV.isi_bool_8, EV.isi_str_0, EV.isi_str_1, EV.isi_str_2, EV.isi_str_3, EV.isi_str_4, EV.isi_str_5, EV.isi_str_6, EV.isi_str_7, EV.isi_str_8, EV.isi_none_0, EV.isi_none_1, EV.isi_none_2, EV.isi_none_3, EV.isi_none_4, EV.isi_none_5, EV.isi_none_6, EV.isi_none_7, EV.isi_none_8, EV.isi_tuple_0, EV.isi_tuple_1, EV.isi_tuple_2, EV.isi_tuple_3, EV.isi_tuple_4, EV.isi_tuple_5, EV.isi_tuple_6, EV.isi_tuple_7, EV.isi_tuple_8, EV.isi_list_0, EV.isi_list_1, EV.isi_list_2, EV.isi_list_3, EV.isi_list_4, EV.isi_list_5, EV.isi_list_6, EV.isi_list_7, EV.isi_list_8, EV.f_nm, EV.f_nil, EV.o_eqb, EV.o_neb, EV.o_isn, EV.o_isnn, EV.o_leq0, EV.o_lne0, EV.in_none, EV.in_int, EV.in_bool, EV.in_str, EV.in_tup, EV.in_lst, EV.td_v, SE_nx, SE_rtv, EV.sc_nil, EV.sc_none, EV.sc_v, EV.sc_r, EV.sc_s, EV.sc_x, Bool.not_eq_true', Bool.not_eq_false', EV.goB_a, EV.goB_o, EV.bo_t, EV.bo_l, EV.bo_nil, EV.bo_nm, EV.bo_tt, EV.bo_tl, EV.wipe_nil, EV.wipe_cons, Nat.reduceAdd, Nat.zero_add, Int.cast_ofNat_Int, Int.reduceEq, forall_const, not_true_eq_false, not_false_eq_true, false_implies, implies_true, and_true, true_and, decide_true, decide_false, Bool.false_eq_true, Bool.true_eq_false, eq_self, reduceCtorEq, c_is_integer_0, c_lowest_0, c_is_lowest_0, c_sum_of_two_0, c_opposite_0, c_difference_0, c_times_integer_0, c_rooted_0, c_sign_of_0, c_order_0, c_floor_of_number_0, c_check_kind_0, c_check_number_0, c_check_count_0, c_is_number_0, c_sign_0, c_sign_1, c_compared_0, c_compared_1, c_floor_of_0, c_floor_of_1, c_about_0, c_about_1, c_unit_0, c_unit_1, c_stretch_unit_0, c_stretch_unit_1, c__law_deck_0, c__law_take_0, c__law_gcd_0, c__law_num_0, c__law_plus_0, c__law_minus_0, c__law_times_0, c__law_sign_0, c__law_same_0, c__law_number_0, c__law_near_0, c__law_drawn_0, c__law_is_floor_0, c__law_right_0, c__law_units_0, mul_ok (Sz.const (p := 2) (a := 2) (by decide)) sc (by omega)]
    refine ⟨fun z3 => ?_, fun z3 => ?_⟩
    · rw [tk sm34]
      exact hQ q S4 lq (sq.mono (by omega) (by omega)) dk4 sm34
    · refine w_take dk4 (by omega) (szb (b := 2000000000000000000000000000001) (by omega) (by decide)) fun g S5 g0 g1 dk5 sm5 => ?_
      have sg' : Sn 120 1 (g - c, (0 : Int), (1 : Int)) := ⟨by show Sz 120 (g - c); exact szb (b := 3000000000000000000000000000001) (by omega) (by decide), by show Sz 120 (0 : Int); exact Sz.const (by decide), by show Sz 1 (1 : Int); exact Sz.const (by decide)⟩
      have one0 : ((g - c, (0 : Int), (1 : Int)) : Int × Int × Int).2.2 ≠ 0 := by show (1 : Int) ≠ 0; decide
      have e : ∀ S, callN G wl (k + 4) "_law_plus" [.v (T3 q), .v (T3 (g - c, 0, 1))] S = .ok (.v (T3 (sum2 q (g - c, 0, 1)))) S := fun S => e_lplus hw sq sg' lq.ne one0 (by omega) (by omega) (by omega) (by omega)
      simp only [EV.w_loc, EV.w_at0, EV.w_atS, EV.w_lit, EV.w_op, EV.w_neg, EV.w_negR, EV.w_not, EV.w_cmp, EV.w_ite, EV.w_evT, EV.w_tup, EV.w_lst, EV.w_ix, EV.w_bi, EV.w_isi, EV.w_rev, EV.w_bop, EV.w_b1, EV.w_b2, EV.w_fld, EV.w_fldR, EV.w_call, EV.w_mth, EV.w_enil, EV.w_econs, EV.w_ono, EV.w_oso, EV.w_intO, EV.w_slc, EV.w_cno, EV.w_cso, EV.w_dix, EV.o_add, EV.o_sub, EV.o_mul, EV.o_div, EV.o_mod, EV.o_lt, EV.o_le, EV.o_gt, EV.o_ge, EV.o_eq, EV.o_ne, EV.o_tb, EV.o_ti, W_ok, W_ex, WS_ok, WS_ex, EV.s_nil, EV.s_cons, EV.s_asgN, EV.s_asgT, EV.s_par2, EV.s_par3, EV.s_set, EV.s_ex, EV.s_iff, EV.s_for, EV.s_wh, EV.s_ret, EV.s_retN, EV.s_rai, EV.rai_v, EV.s_try, EV.s_hnil, EV.s_pas, EV.s_brk, EV.s_cnt, NX_nx, NX_rt, NX_bk, NX_ct, JN_nx, JN_rt, JN_bk, JN_ct, TN_nx, TN_rt, TN_bk, TN_ct, RQ_nx, RQ_rt, EV.gc_v, EV.b_gcd, EV.b_abs, EV.b_max, EV.b_min, EV.b_int, EV.b_intb, EV.b_lens, EV.b_lent, EV.b_lenl, EV.b_isqrt, EV.b_listt, EV.b_listl, EV.t_1, EV.t_2, EV.t_3, EV.t_4, EV.ds_1, EV.ds_2, EV.ds_3, EV.ds_4, EV.l_0, EV.l_1, EV.l_2, EV.l_3, EV.l_4, EV.l_5, EV.l_6, EV.lm_2, EV.i_seq, EV.i_tup, EV.i_lst, EV.i_scr, EV.i_rng, EV.i_rngR, EV.i_rng2, List.set_cons_zero, List.set_cons_succ, List.map_cons, List.map_nil, List.cons_append, List.nil_append, List.replicate, List.length_cons, List.length_nil, List.take_length, decide_eq_true_eq, decide_eq_false_iff_not, okv, okr, oks, Bool.not_true, Bool.not_false, EV.x_t0, EV.x_t1, EV.x_t2, EV.x_l0, EV.x_l1, EV.x_l2, EV.c_20, EV.c_32, EV.isi_int_0, EV.isi_int_1, EV.isi_int_2, EV.isi_int_3, EV.isi_int_4, EV.isi_int_5, EV.isi_int_6, EV.isi_int_7, EV.isi_int_8, EV.isi_bool_0, EV.isi_bool_1, EV.isi_bool_2, EV.isi_bool_3, EV.isi_bool_4, EV.isi_bool_5, EV.isi_bool_6, EV.isi_bool_7, EV.isi_bool_8, EV.isi_str_0, EV.isi_str_1, EV.isi_str_2, EV.isi_str_3, EV.isi_str_4, EV.isi_str_5, EV.isi_str_6, EV.isi_str_7, EV.isi_str_8, EV.isi_none_0, EV.isi_none_1, EV.isi_none_2, EV.isi_none_3, EV.isi_none_4, EV.isi_none_5, EV.isi_none_6, EV.isi_none_7, EV.isi_none_8, EV.isi_tuple_0, EV.isi_tuple_1, EV.isi_tuple_2, EV.isi_tuple_3, EV.isi_tuple_4, EV.isi_tuple_5, EV.isi_tuple_6, EV.isi_tuple_7, EV.isi_tuple_8, EV.isi_list_0, EV.isi_list_1, EV.isi_list_2, EV.isi_list_3, EV.isi_list_4, EV.isi_list_5, EV.isi_list_6, EV.isi_list_7, EV.isi_list_8, EV.f_nm, EV.f_nil, EV.o_eqb, EV.o_neb, EV.o_isn, EV.o_isnn, EV.o_leq0, EV.o_lne0, EV.in_none, EV.in_int, EV.in_bool, EV.in_str, EV.in_tup, EV.in_lst, EV.td_v, SE_nx, SE_rtv, EV.sc_nil, EV.sc_none, EV.sc_v, EV.sc_r, EV.sc_s, EV.sc_x, Bool.not_eq_true', Bool.not_eq_false', EV.goB_a, EV.goB_o, EV.bo_t, EV.bo_l, EV.bo_nil, EV.bo_nm, EV.bo_tt, EV.bo_tl, EV.wipe_nil, EV.wipe_cons, Nat.reduceAdd, Nat.zero_add, Int.cast_ofNat_Int, Int.reduceEq, forall_const, not_true_eq_false, not_false_eq_true, false_implies, implies_true, and_true, true_and, decide_true, decide_false, Bool.false_eq_true, Bool.true_eq_false, eq_self, reduceCtorEq, c_is_integer_0, c_lowest_0, c_is_lowest_0, c_sum_of_two_0, c_opposite_0, c_difference_0, c_times_integer_0, c_rooted_0, c_sign_of_0, c_order_0, c_floor_of_number_0, c_check_kind_0, c_check_number_0, c_check_count_0, c_is_number_0, c_sign_0, c_sign_1, c_compared_0, c_compared_1, c_floor_of_0, c_floor_of_1, c_about_0, c_about_1, c_unit_0, c_unit_1, c_stretch_unit_0, c_stretch_unit_1, c__law_deck_0, c__law_take_0, c__law_gcd_0, c__law_num_0, c__law_plus_0, c__law_minus_0, c__law_times_0, c__law_sign_0, c__law_same_0, c__law_number_0, c__law_near_0, c__law_drawn_0, c__law_is_floor_0, c__law_right_0, c__law_units_0, e]
      have sm := sm34.trans sm5
      rw [tk sm]
      exact hQ _ S5 (low_low (Int.mul_ne_zero lq.ne one0)) ((sum2_sn sq sg' lq.ne one0 (N := 4600) (by omega) (by omega)).mono (by omega) (by omega)) dk5 sm
end
end LawP

set_option Elab.async false
set_option linter.all false
set_option maxRecDepth 100000
set_option maxHeartbeats 8000000
namespace LawP
open PySem PySem.Spec PyProof.Rows L2 EV Num
section
variable {wl k : Nat} {S : Sto}
theorem rep2 {a : D} {Q : R → Sto → Prop} {E : EK} : W (opR .Mult (.v (.list [a])) (I 2) S) Q E = Q (.v (.list [a, a])) S := (l_rep ⟨by decide, by decide, by show 1 * 2 ≤ sizeLine; decide⟩).trans rfl
theorem e_is_floor (hw : Wl wl) {f w : Int} (hf : Kind f) {u : Int × Int × Int} {n m : Nat} (su : Sn n m u) (lu : IsLow u) (hn : n ≤ 100000) (hm : m ≤ 3000) (e : w = flo f u) : callN G wl (k + 4) "_law_is_floor" [I f, .v (T3 u), I w] S = .ok (B true) S := by
  apply W_eq
  rw [w_fun lk__law_is_floor rfl]
  obtain ⟨h1, h2⟩ := flo_spec hf lu.1
  have sw := flo_sz hf su lu.1
  rw [← e] at h1 h2 sw
  have s0 := wh_sn sw
  have s1 := wh_sn (sw.sum (Sz.one (n := 0)) (n := n + 8) (by omega) (by omega))
  have o0 := wh_ne (w := w)
  have o1 := wh_ne (w := w + 1)
  have e1 : ∀ S, callN G wl (k + 3) "_law_minus" [.v (T3 u), .v (T3 (w, 0, 1))] S = .ok (.v (T3 (sum2 u (opp (w, 0, 1))))) S := fun S => e_lminus hw su s0 lu.ne o0 (by omega) (by omega) (by omega) (by omega)
  have e2 : ∀ S, callN G wl (k + 3) "_law_minus" [.v (T3 u), .v (T3 (w + 1, 0, 1))] S = .ok (.v (T3 (sum2 u (opp (w + 1, 0, 1))))) S := fun S => e_lminus hw su s1 lu.ne o1 (by omega) (by omega) (by omega) (by omega)
  have g1 : ∀ S, callN G wl (k + 3) "_law_sign" [I f, .v (T3 (sum2 u (opp (w, 0, 1))))] S = .ok (I (sg3 f (u.1 - w * u.2.2, u.2.1, u.2.2))) S := fun S => by
    rw [e_lsign hf (sum2_sn su (opp_sn s0) lu.ne o0 (N := 200000) (by omega) (by omega)) (by omega), sg3_less lu.1]
  have g2 : ∀ S, callN G wl (k + 3) "_law_sign" [I f, .v (T3 (sum2 u (opp (w + 1, 0, 1))))] S = .ok (I (sg3 f (u.1 - (w + 1) * u.2.2, u.2.1, u.2.2))) S := fun S => by
    rw [e_lsign hf (sum2_sn su (opp_sn s1) lu.ne o1 (N := 200000) (by omega) (by omega)) (by omega), sg3_less lu.1]
  simp only [d__law_is_floor, EV.w_loc, EV.w_at0, EV.w_atS, EV.w_lit, EV.w_op, EV.w_neg, EV.w_negR, EV.w_not, EV.w_cmp, EV.w_ite, EV.w_evT, EV.w_tup, EV.w_lst, EV.w_ix, EV.w_bi, EV.w_isi, EV.w_rev, EV.w_bop, EV.w_b1, EV.w_b2, EV.w_fld, EV.w_fldR, EV.w_call, EV.w_mth, EV.w_enil, EV.w_econs, EV.w_ono, EV.w_oso, EV.w_intO, EV.w_slc, EV.w_cno, EV.w_cso, EV.w_dix, EV.o_add, EV.o_sub, EV.o_mul, EV.o_div, EV.o_mod, EV.o_lt, EV.o_le, EV.o_gt, EV.o_ge, EV.o_eq, EV.o_ne, EV.o_tb, EV.o_ti, W_ok, W_ex, WS_ok, WS_ex, EV.s_nil, EV.s_cons, EV.s_asgN, EV.s_asgT, EV.s_par2, EV.s_par3, EV.s_set, EV.s_ex, EV.s_iff, EV.s_for, EV.s_wh, EV.s_ret, EV.s_retN, EV.s_rai, EV.rai_v, EV.s_try, EV.s_hnil, EV.s_pas, EV.s_brk, EV.s_cnt, NX_nx, NX_rt, NX_bk, NX_ct, JN_nx, JN_rt, JN_bk, JN_ct, TN_nx, TN_rt, TN_bk, TN_ct, RQ_nx, RQ_rt, EV.gc_v, EV.b_gcd, EV.b_abs, EV.b_max, EV.b_min, EV.b_int, EV.b_intb, EV.b_lens, EV.b_lent, EV.b_lenl, EV.b_isqrt, EV.b_listt, EV.b_listl, EV.t_1, EV.t_2, EV.t_3, EV.t_4, EV.ds_1, EV.ds_2, EV.ds_3, EV.ds_4, EV.l_0, EV.l_1, EV.l_2, EV.l_3, EV.l_4, EV.l_5, EV.l_6, EV.lm_2, EV.i_seq, EV.i_tup, EV.i_lst, EV.i_scr, EV.i_rng, EV.i_rngR, EV.i_rng2, EV.i_rng2R, List.set_cons_zero, List.set_cons_succ, List.map_cons, List.map_nil, List.cons_append, List.nil_append, List.replicate, List.length_cons, List.length_nil, List.take_length, decide_eq_true_eq, decide_eq_false_iff_not, okv, okr, oks, Bool.not_true, Bool.not_false, EV.x_t0, EV.x_t1, EV.x_t2, EV.x_l0, EV.x_l1, EV.x_l2, EV.c_20, EV.c_32, EV.isi_int_0, EV.isi_int_1, EV.isi_int_2, EV.isi_int_3, EV.isi_int_4, EV.isi_int_5, EV.isi_int_6, EV.isi_int_7, EV.isi_int_8, EV.isi_bool_0, EV.isi_bool_1, EV.isi_bool_2, EV.isi_bool_3, EV.isi_bool_4, EV.isi_bool_5, EV.isi_bool_6, EV.isi_bool_7, EV.isi_bool_8, EV.isi_str_0, EV.isi_str_1, EV.isi_str_2, EV.isi_str_3, EV.isi_str_4, EV.isi_str_5, EV.isi_str_6, EV.isi_str_7, EV.isi_str_8, EV.isi_none_0, EV.isi_none_1, EV.isi_none_2, EV.isi_none_3, EV.isi_none_4, EV.isi_none_5, EV.isi_none_6, EV.isi_none_7, EV.isi_none_8, EV.isi_tuple_0, EV.isi_tuple_1, EV.isi_tuple_2, EV.isi_tuple_3, EV.isi_tuple_4, EV.isi_tuple_5, EV.isi_tuple_6, EV.isi_tuple_7, EV.isi_tuple_8, EV.isi_list_0, EV.isi_list_1, EV.isi_list_2, EV.isi_list_3, EV.isi_list_4, EV.isi_list_5, EV.isi_list_6, EV.isi_list_7, EV.isi_list_8, EV.f_nm, EV.f_nil, EV.o_eqb, EV.o_neb, EV.o_isn, EV.o_isnn, EV.o_leq0, EV.o_lne0, EV.in_none, EV.in_int, EV.in_bool, EV.in_str, EV.in_tup, EV.in_lst, EV.td_v, SE_nx, SE_rtv, EV.sc_nil, EV.sc_none, EV.sc_v, EV.sc_r, EV.sc_s, EV.sc_x, Bool.not_eq_true', Bool.not_eq_false', EV.goB_a, EV.goB_o, EV.bo_t, EV.bo_l, EV.bo_nil, EV.bo_nm, EV.bo_tt, EV.bo_tl, EV.wipe_nil, EV.wipe_cons, Nat.reduceAdd, Nat.zero_add, Int.cast_ofNat_Int, Int.reduceEq, forall_const, not_true_eq_false, not_false_eq_true, false_implies, implies_true, and_true, true_and, decide_true, decide_false, Bool.false_eq_true, Bool.true_eq_false, eq_self, reduceCtorEq, c_is_integer_0, c_lowest_0, c_is_lowest_0, c_sum_of_two_0, c_opposite_0, c_difference_0, c_times_integer_0, c_rooted_0, c_sign_of_0, c_order_0, c_floor_of_number_0, c_check_kind_0, c_check_number_0, c_check_count_0, c_is_number_0, c_sign_0, c_sign_1, c_compared_0, c_compared_1, c_floor_of_0, c_floor_of_1, c_about_0, c_about_1, c_unit_0, c_unit_1, c_stretch_unit_0, c_stretch_unit_1, c__law_deck_0, c__law_take_0, c__law_gcd_0, c__law_num_0, c__law_plus_0, c__law_minus_0, c__law_times_0, c__law_sign_0, c__law_same_0, c__law_number_0, c__law_near_0, c__law_drawn_0, c__law_is_floor_0, c__law_right_0, c__law_units_0, e1, e2, g1, g2, h1, h2]
theorem cmp3_swap {f : Int} (hf : Kind f) {p q : Int × Int × Int} (h : p.2.2 ≠ 0) (h' : q.2.2 ≠ 0) : cmp3 f q p = - cmp3 f p q := by
  unfold cmp3
  rw [sum2_opp h h', sg3_opp hf]
theorem OkD_ints {l : List D} (hl : l.length ≤ 1000) (h : ∀ d ∈ l, ∃ i, d = .int i) : OkD 1 (.list l) := ⟨hl, fun d hd => by obtain ⟨i, rfl⟩ := h d hd; trivial⟩
theorem w_lright (hw : Wl wl) {f : Int} (hf : Kind f) {j : Nat} {Q : R → Sto → Prop} {E : EK} (dk : Deck S j) (hQ : ∀ S', Deck S' j → Same S S' j → Q (B true) S') : W (callN G wl (k + 6) "_law_right" [.r j, I f] S) Q E := by
  rw [w_fun lk__law_right rfl]
  simp only [d__law_right, EV.w_loc, EV.w_at0, EV.w_atS, EV.w_lit, EV.w_op, EV.w_neg, EV.w_negR, EV.w_not, EV.w_cmp, EV.w_ite, EV.w_evT, EV.w_tup, EV.w_lst, EV.w_ix, EV.w_bi, EV.w_isi, EV.w_rev, EV.w_bop, EV.w_b1, EV.w_b2, EV.w_fld, EV.w_fldR, EV.w_call, EV.w_mth, EV.w_enil, EV.w_econs, EV.w_ono, EV.w_oso, EV.w_intO, EV.w_slc, EV.w_cno, EV.w_cso, EV.w_dix, EV.o_add, EV.o_sub, EV.o_mul, EV.o_div, EV.o_mod, EV.o_lt, EV.o_le, EV.o_gt, EV.o_ge, EV.o_eq, EV.o_ne, EV.o_tb, EV.o_ti, W_ok, W_ex, WS_ok, WS_ex, EV.s_nil, EV.s_cons, EV.s_asgN, EV.s_asgT, EV.s_par2, EV.s_par3, EV.s_set, EV.s_ex, EV.s_for, EV.s_wh, EV.s_ret, EV.s_retN, EV.s_rai, EV.rai_v, EV.s_try, EV.s_hnil, EV.s_pas, EV.s_brk, EV.s_cnt, NX_nx, NX_rt, NX_bk, NX_ct, JN_nx, JN_rt, JN_bk, JN_ct, TN_nx, TN_rt, TN_bk, TN_ct, RQ_nx, RQ_rt, EV.gc_v, EV.b_gcd, EV.b_abs, EV.b_max, EV.b_min, EV.b_int, EV.b_intb, EV.b_lens, EV.b_lent, EV.b_lenl, EV.b_isqrt, EV.b_listt, EV.b_listl, EV.t_1, EV.t_2, EV.t_3, EV.t_4, EV.ds_1, EV.ds_2, EV.ds_3, EV.ds_4, EV.l_0, EV.l_1, EV.l_2, EV.l_3, EV.l_4, EV.l_5, EV.l_6, EV.lm_2, EV.i_seq, EV.i_tup, EV.i_lst, EV.i_scr, EV.i_rng, EV.i_rngR, EV.i_rng2, EV.i_rng2R, List.set_cons_zero, List.set_cons_succ, List.map_cons, List.map_nil, List.cons_append, List.nil_append, List.replicate, List.length_cons, List.length_nil, List.take_length, decide_eq_true_eq, decide_eq_false_iff_not, okv, okr, oks, Bool.not_true, Bool.not_false, EV.x_t0, EV.x_t1, EV.x_t2, EV.x_l0, EV.x_l1, EV.x_l2, EV.c_20, EV.c_32, EV.isi_int_0, EV.isi_int_1, EV.isi_int_2, EV.isi_int_3, EV.isi_int_4, EV.isi_int_5, EV.isi_int_6, EV.isi_int_7, EV.isi_int_8, EV.isi_bool_0, EV.isi_bool_1, EV.isi_bool_2, EV.isi_bool_3, EV.isi_bool_4, EV.isi_bool_5, EV.isi_bool_6, EV.isi_bool_7, EV.isi_bool_8, EV.isi_str_0, EV.isi_str_1, EV.isi_str_2, EV.isi_str_3, EV.isi_str_4, EV.isi_str_5, EV.isi_str_6, EV.isi_str_7, EV.isi_str_8, EV.isi_none_0, EV.isi_none_1, EV.isi_none_2, EV.isi_none_3, EV.isi_none_4, EV.isi_none_5, EV.isi_none_6, EV.isi_none_7, EV.isi_none_8, EV.isi_tuple_0, EV.isi_tuple_1, EV.isi_tuple_2, EV.isi_tuple_3, EV.isi_tuple_4, EV.isi_tuple_5, EV.isi_tuple_6, EV.isi_tuple_7, EV.isi_tuple_8, EV.isi_list_0, EV.isi_list_1, EV.isi_list_2, EV.isi_list_3, EV.isi_list_4, EV.isi_list_5, EV.isi_list_6, EV.isi_list_7, EV.isi_list_8, EV.f_nm, EV.f_nil, EV.o_eqb, EV.o_neb, EV.o_isn, EV.o_isnn, EV.o_leq0, EV.o_lne0, EV.in_none, EV.in_int, EV.in_bool, EV.in_str, EV.in_tup, EV.in_lst, EV.td_v, SE_nx, SE_rtv, EV.sc_nil, EV.sc_none, EV.sc_v, EV.sc_r, EV.sc_s, EV.sc_x, Bool.not_eq_true', Bool.not_eq_false', EV.goB_a, EV.goB_o, EV.bo_t, EV.bo_l, EV.bo_nil, EV.bo_nm, EV.bo_tt, EV.bo_tl, EV.wipe_nil, EV.wipe_cons, Nat.reduceAdd, Nat.zero_add, Int.cast_ofNat_Int, Int.reduceEq, forall_const, not_true_eq_false, not_false_eq_true, false_implies, implies_true, and_true, true_and, decide_true, decide_false, Bool.false_eq_true, Bool.true_eq_false, eq_self, reduceCtorEq, c_is_integer_0, c_lowest_0, c_is_lowest_0, c_sum_of_two_0, c_opposite_0, c_difference_0, c_times_integer_0, c_rooted_0, c_sign_of_0, c_order_0, c_floor_of_number_0, c_check_kind_0, c_check_number_0, c_check_count_0, c_is_number_0, c_sign_0, c_sign_1, c_compared_0, c_compared_1, c_floor_of_0, c_floor_of_1, c_about_0, c_about_1, c_unit_0, c_unit_1, c_stretch_unit_0, c_stretch_unit_1, c__law_deck_0, c__law_take_0, c__law_gcd_0, c__law_num_0, c__law_plus_0, c__law_minus_0, c__law_times_0, c__law_sign_0, c__law_same_0, c__law_number_0, c__law_near_0, c__law_drawn_0, c__law_is_floor_0, c__law_right_0, c__law_units_0]
  refine w_drawn hw hf dk fun u S1 lu su dk1 sm1 => ?_
  (try simp only [EV.w_loc, EV.w_at0, EV.w_atS, EV.w_lit, EV.w_op, EV.w_neg, EV.w_negR, EV.w_not, EV.w_cmp, EV.w_ite, EV.w_evT, EV.w_tup, EV.w_lst, EV.w_ix, EV.w_bi, EV.w_isi, EV.w_rev, EV.w_bop, EV.w_b1, EV.w_b2, EV.w_fld, EV.w_fldR, EV.w_call, EV.w_mth, EV.w_enil, EV.w_econs, EV.w_ono, EV.w_oso, EV.w_intO, EV.w_slc, EV.w_cno, EV.w_cso, EV.w_dix, EV.o_add, EV.o_sub, EV.o_mul, EV.o_div, EV.o_mod, EV.o_lt, EV.o_le, EV.o_gt, EV.o_ge, EV.o_eq, EV.o_ne, EV.o_tb, EV.o_ti, W_ok, W_ex, WS_ok, WS_ex, EV.s_nil, EV.s_cons, EV.s_asgN, EV.s_asgT, EV.s_par2, EV.s_par3, EV.s_set, EV.s_ex, EV.s_for, EV.s_wh, EV.s_ret, EV.s_retN, EV.s_rai, EV.rai_v, EV.s_try, EV.s_hnil, EV.s_pas, EV.s_brk, EV.s_cnt, NX_nx, NX_rt, NX_bk, NX_ct, JN_nx, JN_rt, JN_bk, JN_ct, TN_nx, TN_rt, TN_bk, TN_ct, RQ_nx, RQ_rt, EV.gc_v, EV.b_gcd, EV.b_abs, EV.b_max, EV.b_min, EV.b_int, EV.b_intb, EV.b_lens, EV.b_lent, EV.b_lenl, EV.b_isqrt, EV.b_listt, EV.b_listl, EV.t_1, EV.t_2, EV.t_3, EV.t_4, EV.ds_1, EV.ds_2, EV.ds_3, EV.ds_4, EV.l_0, EV.l_1, EV.l_2, EV.l_3, EV.l_4, EV.l_5, EV.l_6, EV.lm_2, EV.i_seq, EV.i_tup, EV.i_lst, EV.i_scr, EV.i_rng, EV.i_rngR, EV.i_rng2, EV.i_rng2R, List.set_cons_zero, List.set_cons_succ, List.map_cons, List.map_nil, List.cons_append, List.nil_append, List.replicate, List.length_cons, List.length_nil, List.take_length, decide_eq_true_eq, decide_eq_false_iff_not, okv, okr, oks, Bool.not_true, Bool.not_false, EV.x_t0, EV.x_t1, EV.x_t2, EV.x_l0, EV.x_l1, EV.x_l2, EV.c_20, EV.c_32, EV.isi_int_0, EV.isi_int_1, EV.isi_int_2, EV.isi_int_3, EV.isi_int_4, EV.isi_int_5, EV.isi_int_6, EV.isi_int_7, EV.isi_int_8, EV.isi_bool_0, EV.isi_bool_1, EV.isi_bool_2, EV.isi_bool_3, EV.isi_bool_4, EV.isi_bool_5, EV.isi_bool_6, EV.isi_bool_7, EV.isi_bool_8, EV.isi_str_0, EV.isi_str_1, EV.isi_str_2, EV.isi_str_3, EV.isi_str_4, EV.isi_str_5, EV.isi_str_6, EV.isi_str_7, EV.isi_str_8, EV.isi_none_0, EV.isi_none_1, EV.isi_none_2, EV.isi_none_3, EV.isi_none_4, EV.isi_none_5, EV.isi_none_6, EV.isi_none_7, EV.isi_none_8, EV.isi_tuple_0, EV.isi_tuple_1, EV.isi_tuple_2, EV.isi_tuple_3, EV.isi_tuple_4, EV.isi_tuple_5, EV.isi_tuple_6, EV.isi_tuple_7, EV.isi_tuple_8, EV.isi_list_0, EV.isi_list_1, EV.isi_list_2, EV.isi_list_3, EV.isi_list_4, EV.isi_list_5, EV.isi_list_6, EV.isi_list_7, EV.isi_list_8, EV.f_nm, EV.f_nil, EV.o_eqb, EV.o_neb, EV.o_isn, EV.o_isnn, EV.o_leq0, EV.o_lne0, EV.in_none, EV.in_int, EV.in_bool, EV.in_str, EV.in_tup, EV.in_lst, EV.td_v, SE_nx, SE_rtv, EV.sc_nil, EV.sc_none, EV.sc_v, EV.sc_r, EV.sc_s, EV.sc_x, Bool.not_eq_true', Bool.not_eq_false', EV.goB_a, EV.goB_o, EV.bo_t, EV.bo_l, EV.bo_nil, EV.bo_nm, EV.bo_tt, EV.bo_tl, EV.wipe_nil, EV.wipe_cons, Nat.reduceAdd, Nat.zero_add, Int.cast_ofNat_Int, Int.reduceEq, forall_const, not_true_eq_false, not_false_eq_true, false_implies, implies_true, and_true, true_and, decide_true, decide_false, Bool.false_eq_true, Bool.true_eq_false, eq_self, reduceCtorEq, c_is_integer_0, c_lowest_0, c_is_lowest_0, c_sum_of_two_0, c_opposite_0, c_difference_0, c_times_integer_0, c_rooted_0, c_sign_of_0, c_order_0, c_floor_of_number_0, c_check_kind_0, c_check_number_0, c_check_count_0, c_is_number_0, c_sign_0, c_sign_1, c_compared_0, c_compared_1, c_floor_of_0, c_floor_of_1, c_about_0, c_about_1, c_unit_0, c_unit_1, c_stretch_unit_0, c_stretch_unit_1, c__law_deck_0, c__law_take_0, c__law_gcd_0, c__law_num_0, c__law_plus_0, c__law_minus_0, c__law_times_0, c__law_sign_0, c__law_same_0, c__law_number_0, c__law_near_0, c__law_drawn_0, c__law_is_floor_0, c__law_right_0, c__law_units_0])
  refine w_drawn hw hf dk1 fun v0 S2 lv0 sv0 dk2 sm2 => ?_
  (try simp only [EV.w_loc, EV.w_at0, EV.w_atS, EV.w_lit, EV.w_op, EV.w_neg, EV.w_negR, EV.w_not, EV.w_cmp, EV.w_ite, EV.w_evT, EV.w_tup, EV.w_lst, EV.w_ix, EV.w_bi, EV.w_isi, EV.w_rev, EV.w_bop, EV.w_b1, EV.w_b2, EV.w_fld, EV.w_fldR, EV.w_call, EV.w_mth, EV.w_enil, EV.w_econs, EV.w_ono, EV.w_oso, EV.w_intO, EV.w_slc, EV.w_cno, EV.w_cso, EV.w_dix, EV.o_add, EV.o_sub, EV.o_mul, EV.o_div, EV.o_mod, EV.o_lt, EV.o_le, EV.o_gt, EV.o_ge, EV.o_eq, EV.o_ne, EV.o_tb, EV.o_ti, W_ok, W_ex, WS_ok, WS_ex, EV.s_nil, EV.s_cons, EV.s_asgN, EV.s_asgT, EV.s_par2, EV.s_par3, EV.s_set, EV.s_ex, EV.s_for, EV.s_wh, EV.s_ret, EV.s_retN, EV.s_rai, EV.rai_v, EV.s_try, EV.s_hnil, EV.s_pas, EV.s_brk, EV.s_cnt, NX_nx, NX_rt, NX_bk, NX_ct, JN_nx, JN_rt, JN_bk, JN_ct, TN_nx, TN_rt, TN_bk, TN_ct, RQ_nx, RQ_rt, EV.gc_v, EV.b_gcd, EV.b_abs, EV.b_max, EV.b_min, EV.b_int, EV.b_intb, EV.b_lens, EV.b_lent, EV.b_lenl, EV.b_isqrt, EV.b_listt, EV.b_listl, EV.t_1, EV.t_2, EV.t_3, EV.t_4, EV.ds_1, EV.ds_2, EV.ds_3, EV.ds_4, EV.l_0, EV.l_1, EV.l_2, EV.l_3, EV.l_4, EV.l_5, EV.l_6, EV.lm_2, EV.i_seq, EV.i_tup, EV.i_lst, EV.i_scr, EV.i_rng, EV.i_rngR, EV.i_rng2, EV.i_rng2R, List.set_cons_zero, List.set_cons_succ, List.map_cons, List.map_nil, List.cons_append, List.nil_append, List.replicate, List.length_cons, List.length_nil, List.take_length, decide_eq_true_eq, decide_eq_false_iff_not, okv, okr, oks, Bool.not_true, Bool.not_false, EV.x_t0, EV.x_t1, EV.x_t2, EV.x_l0, EV.x_l1, EV.x_l2, EV.c_20, EV.c_32, EV.isi_int_0, EV.isi_int_1, EV.isi_int_2, EV.isi_int_3, EV.isi_int_4, EV.isi_int_5, EV.isi_int_6, EV.isi_int_7, EV.isi_int_8, EV.isi_bool_0, EV.isi_bool_1, EV.isi_bool_2, EV.isi_bool_3, EV.isi_bool_4, EV.isi_bool_5, EV.isi_bool_6, EV.isi_bool_7, EV.isi_bool_8, EV.isi_str_0, EV.isi_str_1, EV.isi_str_2, EV.isi_str_3, EV.isi_str_4, EV.isi_str_5, EV.isi_str_6, EV.isi_str_7, EV.isi_str_8, EV.isi_none_0, EV.isi_none_1, EV.isi_none_2, EV.isi_none_3, EV.isi_none_4, EV.isi_none_5, EV.isi_none_6, EV.isi_none_7, EV.isi_none_8, EV.isi_tuple_0, EV.isi_tuple_1, EV.isi_tuple_2, EV.isi_tuple_3, EV.isi_tuple_4, EV.isi_tuple_5, EV.isi_tuple_6, EV.isi_tuple_7, EV.isi_tuple_8, EV.isi_list_0, EV.isi_list_1, EV.isi_list_2, EV.isi_list_3, EV.isi_list_4, EV.isi_list_5, EV.isi_list_6, EV.isi_list_7, EV.isi_list_8, EV.f_nm, EV.f_nil, EV.o_eqb, EV.o_neb, EV.o_isn, EV.o_isnn, EV.o_leq0, EV.o_lne0, EV.in_none, EV.in_int, EV.in_bool, EV.in_str, EV.in_tup, EV.in_lst, EV.td_v, SE_nx, SE_rtv, EV.sc_nil, EV.sc_none, EV.sc_v, EV.sc_r, EV.sc_s, EV.sc_x, Bool.not_eq_true', Bool.not_eq_false', EV.goB_a, EV.goB_o, EV.bo_t, EV.bo_l, EV.bo_nil, EV.bo_nm, EV.bo_tt, EV.bo_tl, EV.wipe_nil, EV.wipe_cons, Nat.reduceAdd, Nat.zero_add, Int.cast_ofNat_Int, Int.reduceEq, forall_const, not_true_eq_false, not_false_eq_true, false_implies, implies_true, and_true, true_and, decide_true, decide_false, Bool.false_eq_true, Bool.true_eq_false, eq_self, reduceCtorEq, c_is_integer_0, c_lowest_0, c_is_lowest_0, c_sum_of_two_0, c_opposite_0, c_difference_0, c_times_integer_0, c_rooted_0, c_sign_of_0, c_order_0, c_floor_of_number_0, c_check_kind_0, c_check_number_0, c_check_count_0, c_is_number_0, c_sign_0, c_sign_1, c_compared_0, c_compared_1, c_floor_of_0, c_floor_of_1, c_about_0, c_about_1, c_unit_0, c_unit_1, c_stretch_unit_0, c_stretch_unit_1, c__law_deck_0, c__law_take_0, c__law_gcd_0, c__law_num_0, c__law_plus_0, c__law_minus_0, c__law_times_0, c__law_sign_0, c__law_same_0, c__law_number_0, c__law_near_0, c__law_drawn_0, c__law_is_floor_0, c__law_right_0, c__law_units_0])
  have sm := sm1.trans sm2
  refine nx_join (fun ρ S' => ∃ v, IsLow v ∧ Sn 4800 120 v ∧ Deck S' j ∧ Same S S' j ∧ ρ = [some (.r j), some (I f), some (.v (T3 u)), some (.v (T3 v)), none, none, none, none, none]) ?_ ?_
  · (try simp only [EV.w_loc, EV.w_at0, EV.w_atS, EV.w_lit, EV.w_op, EV.w_neg, EV.w_negR, EV.w_not, EV.w_cmp, EV.w_ite, EV.w_evT, EV.w_tup, EV.w_lst, EV.w_ix, EV.w_bi, EV.w_isi, EV.w_rev, EV.w_bop, EV.w_b1, EV.w_b2, EV.w_fld, EV.w_fldR, EV.w_call, EV.w_mth, EV.w_enil, EV.w_econs, EV.w_ono, EV.w_oso, EV.w_intO, EV.w_slc, EV.w_cno, EV.w_cso, EV.w_dix, EV.o_add, EV.o_sub, EV.o_mul, EV.o_div, EV.o_mod, EV.o_lt, EV.o_le, EV.o_gt, EV.o_ge, EV.o_eq, EV.o_ne, EV.o_tb, EV.o_ti, W_ok, W_ex, WS_ok, WS_ex, EV.s_nil, EV.s_cons, EV.s_asgN, EV.s_asgT, EV.s_par2, EV.s_par3, EV.s_set, EV.s_ex, EV.s_iff, EV.s_for, EV.s_wh, EV.s_ret, EV.s_retN, EV.s_rai, EV.rai_v, EV.s_try, EV.s_hnil, EV.s_pas, EV.s_brk, EV.s_cnt, NX_nx, NX_rt, NX_bk, NX_ct, JN_nx, JN_rt, JN_bk, JN_ct, TN_nx, TN_rt, TN_bk, TN_ct, RQ_nx, RQ_rt, EV.gc_v, EV.b_gcd, EV.b_abs, EV.b_max, EV.b_min, EV.b_int, EV.b_intb, EV.b_lens, EV.b_lent, EV.b_lenl, EV.b_isqrt, EV.b_listt, EV.b_listl, EV.t_1, EV.t_2, EV.t_3, EV.t_4, EV.ds_1, EV.ds_2, EV.ds_3, EV.ds_4, EV.l_0, EV.l_1, EV.l_2, EV.l_3, EV.l_4, EV.l_5, EV.l_6, EV.lm_2, EV.i_seq, EV.i_tup, EV.i_lst, EV.i_scr, EV.i_rng, EV.i_rngR, EV.i_rng2, EV.i_rng2R, List.set_cons_zero, List.set_cons_succ, List.map_cons, List.map_nil, List.cons_append, List.nil_append, List.replicate, List.length_cons, List.length_nil, List.take_length, decide_eq_true_eq, decide_eq_false_iff_not, okv, okr, oks, Bool.not_true, Bool.not_false, EV.x_t0, EV.x_t1, EV.x_t2, EV.x_l0, EV.x_l1, EV.x_l2, EV.c_20, EV.c_32, EV.isi_int_0, EV.isi_int_1, EV.isi_int_2, EV.isi_int_3, EV.isi_int_4, EV.isi_int_5, EV.isi_int_6, EV.isi_int_7, EV.isi_int_8, EV.isi_bool_0, EV.isi_bool_1, EV.isi_bool_2, EV.isi_bool_3, EV.isi_bool_4, EV.isi_bool_5, EV.isi_bool_6, EV.isi_bool_7, EV.isi_bool_8, EV.isi_str_0, EV.isi_str_1, EV.isi_str_2, EV.isi_str_3, EV.isi_str_4, EV.isi_str_5, EV.isi_str_6, EV.isi_str_7, EV.isi_str_8, EV.isi_none_0, EV.isi_none_1, EV.isi_none_2, EV.isi_none_3, EV.isi_none_4, EV.isi_none_5, EV.isi_none_6, EV.isi_none_7, EV.isi_none_8, EV.isi_tuple_0, EV.isi_tuple_1, EV.isi_tuple_2, EV.isi_tuple_3, EV.isi_tuple_4, EV.isi_tuple_5, EV.isi_tuple_6, EV.isi_tuple_7, EV.isi_tuple_8, EV.isi_list_0, EV.isi_list_1, EV.isi_list_2, EV.isi_list_3, EV.isi_list_4, EV.isi_list_5, EV.isi_list_6, EV.isi_list_7, EV.isi_list_8, EV.f_nm, EV.f_nil, EV.o_eqb, EV.o_neb, EV.o_isn, EV.o_isnn, EV.o_leq0, EV.o_lne0, EV.in_none, EV.in_int, EV.in_bool, EV.in_str, EV.in_tup, EV.in_lst, EV.td_v, SE_nx, SE_rtv, EV.sc_nil, EV.sc_none, EV.sc_v, EV.sc_r, EV.sc_s, EV.sc_x, Bool.not_eq_true', Bool.not_eq_false', EV.goB_a, EV.goB_o, EV.bo_t, EV.bo_l, EV.bo_nil, EV.bo_nm, EV.bo_tt, EV.bo_tl, EV.wipe_nil, EV.wipe_cons, Nat.reduceAdd, Nat.zero_add, Int.cast_ofNat_Int, Int.reduceEq, forall_const, not_true_eq_false, not_false_eq_true, false_implies, implies_true, and_true, true_and, decide_true, decide_false, Bool.false_eq_true, Bool.true_eq_false, eq_self, reduceCtorEq, c_is_integer_0, c_lowest_0, c_is_lowest_0, c_sum_of_two_0, c_opposite_0, c_difference_0, c_times_integer_0, c_rooted_0, c_sign_of_0, c_order_0, c_floor_of_number_0, c_check_kind_0, c_check_number_0, c_check_count_0, c_is_number_0, c_sign_0, c_sign_1, c_compared_0, c_compared_1, c_floor_of_0, c_floor_of_1, c_about_0, c_about_1, c_unit_0, c_unit_1, c_stretch_unit_0, c_stretch_unit_1, c__law_deck_0, c__law_take_0, c__law_gcd_0, c__law_num_0, c__law_plus_0, c__law_minus_0, c__law_times_0, c__law_sign_0, c__law_same_0, c__law_number_0, c__law_near_0, c__law_drawn_0, c__law_is_floor_0, c__law_right_0, c__law_units_0])
    refine w_take dk2 (by decide) (Sz.const (by decide)) fun t S3 t0 t1 dk3 sm3 => ?_
    (try simp only [EV.w_loc, EV.w_at0, EV.w_atS, EV.w_lit, EV.w_op, EV.w_neg, EV.w_negR, EV.w_not, EV.w_cmp, EV.w_ite, EV.w_evT, EV.w_tup, EV.w_lst, EV.w_ix, EV.w_bi, EV.w_isi, EV.w_rev, EV.w_bop, EV.w_b1, EV.w_b2, EV.w_fld, EV.w_fldR, EV.w_call, EV.w_mth, EV.w_enil, EV.w_econs, EV.w_ono, EV.w_oso, EV.w_intO, EV.w_slc, EV.w_cno, EV.w_cso, EV.w_dix, EV.o_add, EV.o_sub, EV.o_mul, EV.o_div, EV.o_mod, EV.o_lt, EV.o_le, EV.o_gt, EV.o_ge, EV.o_eq, EV.o_ne, EV.o_tb, EV.o_ti, W_ok, W_ex, WS_ok, WS_ex, EV.s_nil, EV.s_cons, EV.s_asgN, EV.s_asgT, EV.s_par2, EV.s_par3, EV.s_set, EV.s_ex, EV.s_iff, EV.s_for, EV.s_wh, EV.s_ret, EV.s_retN, EV.s_rai, EV.rai_v, EV.s_try, EV.s_hnil, EV.s_pas, EV.s_brk, EV.s_cnt, NX_nx, NX_rt, NX_bk, NX_ct, JN_nx, JN_rt, JN_bk, JN_ct, TN_nx, TN_rt, TN_bk, TN_ct, RQ_nx, RQ_rt, EV.gc_v, EV.b_gcd, EV.b_abs, EV.b_max, EV.b_min, EV.b_int, EV.b_intb, EV.b_lens, EV.b_lent, EV.b_lenl, EV.b_isqrt, EV.b_listt, EV.b_listl, EV.t_1, EV.t_2, EV.t_3, EV.t_4, EV.ds_1, EV.ds_2, EV.ds_3, EV.ds_4, EV.l_0, EV.l_1, EV.l_2, EV.l_3, EV.l_4, EV.l_5, EV.l_6, EV.lm_2, EV.i_seq, EV.i_tup, EV.i_lst, EV.i_scr, EV.i_rng, EV.i_rngR, EV.i_rng2, EV.i_rng2R, List.set_cons_zero, List.set_cons_succ, List.map_cons, List.map_nil, List.cons_append, List.nil_append, List.replicate, List.length_cons, List.length_nil, List.take_length, decide_eq_true_eq, decide_eq_false_iff_not, okv, okr, oks, Bool.not_true, Bool.not_false, EV.x_t0, EV.x_t1, EV.x_t2, EV.x_l0, EV.x_l1, EV.x_l2, EV.c_20, EV.c_32, EV.isi_int_0, EV.isi_int_1, EV.isi_int_2, EV.isi_int_3, EV.isi_int_4, EV.isi_int_5, EV.isi_int_6, EV.isi_int_7, EV.isi_int_8, EV.isi_bool_0, EV.isi_bool_1, EV.isi_bool_2, EV.isi_bool_3, EV.isi_bool_4, EV.isi_bool_5, EV.isi_bool_6, EV.isi_bool_7, EV.isi_bool_8, EV.isi_str_0, EV.isi_str_1, EV.isi_str_2, EV.isi_str_3, EV.isi_str_4, EV.isi_str_5, EV.isi_str_6, EV.isi_str_7, EV.isi_str_8, EV.isi_none_0, EV.isi_none_1, EV.isi_none_2, EV.isi_none_3, EV.isi_none_4, EV.isi_none_5, EV.isi_none_6, EV.isi_none_7, EV.isi_none_8, EV.isi_tuple_0, EV.isi_tuple_1, EV.isi_tuple_2, EV.isi_tuple_3, EV.isi_tuple_4, EV.isi_tuple_5, EV.isi_tuple_6, EV.isi_tuple_7, EV.isi_tuple_8, EV.isi_list_0, EV.isi_list_1, EV.isi_list_2, EV.isi_list_3, EV.isi_list_4, EV.isi_list_5, EV.isi_list_6, EV.isi_list_7, EV.isi_list_8, EV.f_nm, EV.f_nil, EV.o_eqb, EV.o_neb, EV.o_isn, EV.o_isnn, EV.o_leq0, EV.o_lne0, EV.in_none, EV.in_int, EV.in_bool, EV.in_str, EV.in_tup, EV.in_lst, EV.td_v, SE_nx, SE_rtv, EV.sc_nil, EV.sc_none, EV.sc_v, EV.sc_r, EV.sc_s, EV.sc_x, Bool.not_eq_true', Bool.not_eq_false', EV.goB_a, EV.goB_o, EV.bo_t, EV.bo_l, EV.bo_nil, EV.bo_nm, EV.bo_tt, EV.bo_tl, EV.wipe_nil, EV.wipe_cons, Nat.reduceAdd, Nat.zero_add, Int.cast_ofNat_Int, Int.reduceEq, forall_const, not_true_eq_false, not_false_eq_true, false_implies, implies_true, and_true, true_and, decide_true, decide_false, Bool.false_eq_true, Bool.true_eq_false, eq_self, reduceCtorEq, c_is_integer_0, c_lowest_0, c_is_lowest_0, c_sum_of_two_0, c_opposite_0, c_difference_0, c_times_integer_0, c_rooted_0, c_sign_of_0, c_order_0, c_floor_of_number_0, c_check_kind_0, c_check_number_0, c_check_count_0, c_is_number_0, c_sign_0, c_sign_1, c_compared_0, c_compared_1, c_floor_of_0, c_floor_of_1, c_about_0, c_about_1, c_unit_0, c_unit_1, c_stretch_unit_0, c_stretch_unit_1, c__law_deck_0, c__law_take_0, c__law_gcd_0, c__law_num_0, c__law_plus_0, c__law_minus_0, c__law_times_0, c__law_sign_0, c__law_same_0, c__law_number_0, c__law_near_0, c__law_drawn_0, c__law_is_floor_0, c__law_right_0, c__law_units_0])
    refine ⟨fun z => ?_, fun z => ⟨_, lv0, sv0.mono (by omega) (by omega), dk3, sm.trans sm3, rfl⟩⟩
    refine w_near hw hf dk3 fun q S4 lq sq dk4 sm4 => ?_
    have e : ∀ S, callN G wl (k + 5) "_law_plus" [.v (T3 u), .v (T3 q)] S = .ok (.v (T3 (sum2 u q))) S := fun S => e_lplus hw su sq lu.ne lq.ne (by omega) (by omega) (by omega) (by omega)
    simp only [EV.w_loc, EV.w_at0, EV.w_atS, EV.w_lit, EV.w_op, EV.w_neg, EV.w_negR, EV.w_not, EV.w_cmp, EV.w_ite, EV.w_evT, EV.w_tup, EV.w_lst, EV.w_ix, EV.w_bi, EV.w_isi, EV.w_rev, EV.w_bop, EV.w_b1, EV.w_b2, EV.w_fld, EV.w_fldR, EV.w_call, EV.w_mth, EV.w_enil, EV.w_econs, EV.w_ono, EV.w_oso, EV.w_intO, EV.w_slc, EV.w_cno, EV.w_cso, EV.w_dix, EV.o_add, EV.o_sub, EV.o_mul, EV.o_div, EV.o_mod, EV.o_lt, EV.o_le, EV.o_gt, EV.o_ge, EV.o_eq, EV.o_ne, EV.o_tb, EV.o_ti, W_ok, W_ex, WS_ok, WS_ex, EV.s_nil, EV.s_cons, EV.s_asgN, EV.s_asgT, EV.s_par2, EV.s_par3, EV.s_set, EV.s_ex, EV.s_iff, EV.s_for, EV.s_wh, EV.s_ret, EV.s_retN, EV.s_rai, EV.rai_v, EV.s_try, EV.s_hnil, EV.s_pas, EV.s_brk, EV.s_cnt, NX_nx, NX_rt, NX_bk, NX_ct, JN_nx, JN_rt, JN_bk, JN_ct, TN_nx, TN_rt, TN_bk, TN_ct, RQ_nx, RQ_rt, EV.gc_v, EV.b_gcd, EV.b_abs, EV.b_max, EV.b_min, EV.b_int, EV.b_intb, EV.b_lens, EV.b_lent, EV.b_lenl, EV.b_isqrt, EV.b_listt, EV.b_listl, EV.t_1, EV.t_2, EV.t_3, EV.t_4, EV.ds_1, EV.ds_2, EV.ds_3, EV.ds_4, EV.l_0, EV.l_1, EV.l_2, EV.l_3, EV.l_4, EV.l_5, EV.l_6, EV.lm_2, EV.i_seq, EV.i_tup, EV.i_lst, EV.i_scr, EV.i_rng, EV.i_rngR, EV.i_rng2, EV.i_rng2R, List.set_cons_zero, List.set_cons_succ, List.map_cons, List.map_nil, List.cons_append, List.nil_append, List.replicate, List.length_cons, List.length_nil, List.take_length, decide_eq_true_eq, decide_eq_false_iff_not, okv, okr, oks, Bool.not_true, Bool.not_false, EV.x_t0, EV.x_t1, EV.x_t2, EV.x_l0, EV.x_l1, EV.x_l2, EV.c_20, EV.c_32, EV.isi_int_0, EV.isi_int_1, EV.isi_int_2, EV.isi_int_3, EV.isi_int_4, EV.isi_int_5, EV.isi_int_6, EV.isi_int_7, EV.isi_int_8, EV.isi_bool_0, EV.isi_bool_1, EV.isi_bool_2, EV.isi_bool_3, EV.isi_bool_4, EV.isi_bool_5, EV.isi_bool_6, EV.isi_bool_7, EV.isi_bool_8, EV.isi_str_0, EV.isi_str_1, EV.isi_str_2, EV.isi_str_3, EV.isi_str_4, EV.isi_str_5, EV.isi_str_6, EV.isi_str_7, EV.isi_str_8, EV.isi_none_0, EV.isi_none_1, EV.isi_none_2, EV.isi_none_3, EV.isi_none_4, EV.isi_none_5, EV.isi_none_6, EV.isi_none_7, EV.isi_none_8, EV.isi_tuple_0, EV.isi_tuple_1, EV.isi_tuple_2, EV.isi_tuple_3, EV.isi_tuple_4, EV.isi_tuple_5, EV.isi_tuple_6, EV.isi_tuple_7, EV.isi_tuple_8, EV.isi_list_0, EV.isi_list_1, EV.isi_list_2, EV.isi_list_3, EV.isi_list_4, EV.isi_list_5, EV.isi_list_6, EV.isi_list_7, EV.isi_list_8, EV.f_nm, EV.f_nil, EV.o_eqb, EV.o_neb, EV.o_isn, EV.o_isnn, EV.o_leq0, EV.o_lne0, EV.in_none, EV.in_int, EV.in_bool, EV.in_str, EV.in_tup, EV.in_lst, EV.td_v, SE_nx, SE_rtv, EV.sc_nil, EV.sc_none, EV.sc_v, EV.sc_r, EV.sc_s, EV.sc_x, Bool.not_eq_true', Bool.not_eq_false', EV.goB_a, EV.goB_o, EV.bo_t, EV.bo_l, EV.bo_nil, EV.bo_nm, EV.bo_tt, EV.bo_tl, EV.wipe_nil, EV.wipe_cons, Nat.reduceAdd, Nat.zero_add, Int.cast_ofNat_Int, Int.reduceEq, forall_const, not_true_eq_false, not_false_eq_true, false_implies, implies_true, and_true, true_and, decide_true, decide_false, Bool.false_eq_true, Bool.true_eq_false, eq_self, reduceCtorEq, c_is_integer_0, c_lowest_0, c_is_lowest_0, c_sum_of_two_0, c_opposite_0, c_difference_0, c_times_integer_0, c_rooted_0, c_sign_of_0, c_order_0, c_floor_of_number_0, c_check_kind_0, c_check_number_0, c_check_count_0, c_is_number_0, c_sign_0, c_sign_1, c_compared_0, c_compared_1, c_floor_of_0, c_floor_of_1, c_about_0, c_about_1, c_unit_0, c_unit_1, c_stretch_unit_0, c_stretch_unit_1, c__law_deck_0, c__law_take_0, c__law_gcd_0, c__law_num_0, c__law_plus_0, c__law_minus_0, c__law_times_0, c__law_sign_0, c__law_same_0, c__law_number_0, c__law_near_0, c__law_drawn_0, c__law_is_floor_0, c__law_right_0, c__law_units_0, e]
    refine w_take dk4 (by decide) (Sz.const (by decide)) fun t5 S5 t50 t51 dk5 sm5 => ?_
    (try simp only [EV.w_loc, EV.w_at0, EV.w_atS, EV.w_lit, EV.w_op, EV.w_neg, EV.w_negR, EV.w_not, EV.w_cmp, EV.w_ite, EV.w_evT, EV.w_tup, EV.w_lst, EV.w_ix, EV.w_bi, EV.w_isi, EV.w_rev, EV.w_bop, EV.w_b1, EV.w_b2, EV.w_fld, EV.w_fldR, EV.w_call, EV.w_mth, EV.w_enil, EV.w_econs, EV.w_ono, EV.w_oso, EV.w_intO, EV.w_slc, EV.w_cno, EV.w_cso, EV.w_dix, EV.o_add, EV.o_sub, EV.o_mul, EV.o_div, EV.o_mod, EV.o_lt, EV.o_le, EV.o_gt, EV.o_ge, EV.o_eq, EV.o_ne, EV.o_tb, EV.o_ti, W_ok, W_ex, WS_ok, WS_ex, EV.s_nil, EV.s_cons, EV.s_asgN, EV.s_asgT, EV.s_par2, EV.s_par3, EV.s_set, EV.s_ex, EV.s_iff, EV.s_for, EV.s_wh, EV.s_ret, EV.s_retN, EV.s_rai, EV.rai_v, EV.s_try, EV.s_hnil, EV.s_pas, EV.s_brk, EV.s_cnt, NX_nx, NX_rt, NX_bk, NX_ct, JN_nx, JN_rt, JN_bk, JN_ct, TN_nx, TN_rt, TN_bk, TN_ct, RQ_nx, RQ_rt, EV.gc_v, EV.b_gcd, EV.b_abs, EV.b_max, EV.b_min, EV.b_int, EV.b_intb, EV.b_lens, EV.b_lent, EV.b_lenl, EV.b_isqrt, EV.b_listt, EV.b_listl, EV.t_1, EV.t_2, EV.t_3, EV.t_4, EV.ds_1, EV.ds_2, EV.ds_3, EV.ds_4, EV.l_0, EV.l_1, EV.l_2, EV.l_3, EV.l_4, EV.l_5, EV.l_6, EV.lm_2, EV.i_seq, EV.i_tup, EV.i_lst, EV.i_scr, EV.i_rng, EV.i_rngR, EV.i_rng2, EV.i_rng2R, List.set_cons_zero, List.set_cons_succ, List.map_cons, List.map_nil, List.cons_append, List.nil_append, List.replicate, List.length_cons, List.length_nil, List.take_length, decide_eq_true_eq, decide_eq_false_iff_not, okv, okr, oks, Bool.not_true, Bool.not_false, EV.x_t0, EV.x_t1, EV.x_t2, EV.x_l0, EV.x_l1, EV.x_l2, EV.c_20, EV.c_32, EV.isi_int_0, EV.isi_int_1, EV.isi_int_2, EV.isi_int_3, EV.isi_int_4, EV.isi_int_5, EV.isi_int_6, EV.isi_int_7, EV.isi_int_8, EV.isi_bool_0, EV.isi_bool_1, EV.isi_bool_2, EV.isi_bool_3, EV.isi_bool_4, EV.isi_bool_5, EV.isi_bool_6, EV.isi_bool_7, EV.isi_bool_8, EV.isi_str_0, EV.isi_str_1, EV.isi_str_2, EV.isi_str_3, EV.isi_str_4, EV.isi_str_5, EV.isi_str_6, EV.isi_str_7, EV.isi_str_8, EV.isi_none_0, EV.isi_none_1, EV.isi_none_2, EV.isi_none_3, EV.isi_none_4, EV.isi_none_5, EV.isi_none_6, EV.isi_none_7, EV.isi_none_8, EV.isi_tuple_0, EV.isi_tuple_1, EV.isi_tuple_2, EV.isi_tuple_3, EV.isi_tuple_4, EV.isi_tuple_5, EV.isi_tuple_6, EV.isi_tuple_7, EV.isi_tuple_8, EV.isi_list_0, EV.isi_list_1, EV.isi_list_2, EV.isi_list_3, EV.isi_list_4, EV.isi_list_5, EV.isi_list_6, EV.isi_list_7, EV.isi_list_8, EV.f_nm, EV.f_nil, EV.o_eqb, EV.o_neb, EV.o_isn, EV.o_isnn, EV.o_leq0, EV.o_lne0, EV.in_none, EV.in_int, EV.in_bool, EV.in_str, EV.in_tup, EV.in_lst, EV.td_v, SE_nx, SE_rtv, EV.sc_nil, EV.sc_none, EV.sc_v, EV.sc_r, EV.sc_s, EV.sc_x, Bool.not_eq_true', Bool.not_eq_false', EV.goB_a, EV.goB_o, EV.bo_t, EV.bo_l, EV.bo_nil, EV.bo_nm, EV.bo_tt, EV.bo_tl, EV.wipe_nil, EV.wipe_cons, Nat.reduceAdd, Nat.zero_add, Int.cast_ofNat_Int, Int.reduceEq, forall_const, not_true_eq_false, not_false_eq_true, false_implies, implies_true, and_true, true_and, decide_true, decide_false, Bool.false_eq_true, Bool.true_eq_false, eq_self, reduceCtorEq, c_is_integer_0, c_lowest_0, c_is_lowest_0, c_sum_of_two_0, c_opposite_0, c_difference_0, c_times_integer_0, c_rooted_0, c_sign_of_0, c_order_0, c_floor_of_number_0, c_check_kind_0, c_check_number_0, c_check_count_0, c_is_number_0, c_sign_0, c_sign_1, c_compared_0, c_compared_1, c_floor_of_0, c_floor_of_1, c_about_0, c_about_1, c_unit_0, c_unit_1, c_stretch_unit_0, c_stretch_unit_1, c__law_deck_0, c__law_take_0, c__law_gcd_0, c__law_num_0, c__law_plus_0, c__law_minus_0, c__law_times_0, c__law_sign_0, c__law_same_0, c__law_number_0, c__law_near_0, c__law_drawn_0, c__law_is_floor_0, c__law_right_0, c__law_units_0])
    refine x_lm t50 (by simp only [List.length_cons, List.length_nil]; omega) fun d hd => ?_
    have sm' := ((sm.trans sm3).trans sm4).trans sm5
    obtain ⟨v, rfl, lv, sv⟩ : ∃ v : Int × Int × Int, d = T3 v ∧ IsLow v ∧ Sn 4800 120 v := by
      simp only [List.mem_cons, List.mem_nil_iff, or_false] at hd
      rcases hd with rfl | rfl
      · exact ⟨u, rfl, lu, su.mono (by omega) (by omega)⟩
      · exact ⟨_, rfl, sum2_low lu lq, (sum2_sn su sq lu.ne lq.ne (N := 4799) (by omega) (by omega)).mono (by omega) (by omega)⟩
    (try simp only [EV.w_loc, EV.w_at0, EV.w_atS, EV.w_lit, EV.w_op, EV.w_neg, EV.w_negR, EV.w_not, EV.w_cmp, EV.w_ite, EV.w_evT, EV.w_tup, EV.w_lst, EV.w_ix, EV.w_bi, EV.w_isi, EV.w_rev, EV.w_bop, EV.w_b1, EV.w_b2, EV.w_fld, EV.w_fldR, EV.w_call, EV.w_mth, EV.w_enil, EV.w_econs, EV.w_ono, EV.w_oso, EV.w_intO, EV.w_slc, EV.w_cno, EV.w_cso, EV.w_dix, EV.o_add, EV.o_sub, EV.o_mul, EV.o_div, EV.o_mod, EV.o_lt, EV.o_le, EV.o_gt, EV.o_ge, EV.o_eq, EV.o_ne, EV.o_tb, EV.o_ti, W_ok, W_ex, WS_ok, WS_ex, EV.s_nil, EV.s_cons, EV.s_asgN, EV.s_asgT, EV.s_par2, EV.s_par3, EV.s_set, EV.s_ex, EV.s_iff, EV.s_for, EV.s_wh, EV.s_ret, EV.s_retN, EV.s_rai, EV.rai_v, EV.s_try, EV.s_hnil, EV.s_pas, EV.s_brk, EV.s_cnt, NX_nx, NX_rt, NX_bk, NX_ct, JN_nx, JN_rt, JN_bk, JN_ct, TN_nx, TN_rt, TN_bk, TN_ct, RQ_nx, RQ_rt, EV.gc_v, EV.b_gcd, EV.b_abs, EV.b_max, EV.b_min, EV.b_int, EV.b_intb, EV.b_lens, EV.b_lent, EV.b_lenl, EV.b_isqrt, EV.b_listt, EV.b_listl, EV.t_1, EV.t_2, EV.t_3, EV.t_4, EV.ds_1, EV.ds_2, EV.ds_3, EV.ds_4, EV.l_0, EV.l_1, EV.l_2, EV.l_3, EV.l_4, EV.l_5, EV.l_6, EV.lm_2, EV.i_seq, EV.i_tup, EV.i_lst, EV.i_scr, EV.i_rng, EV.i_rngR, EV.i_rng2, EV.i_rng2R, List.set_cons_zero, List.set_cons_succ, List.map_cons, List.map_nil, List.cons_append, List.nil_append, List.replicate, List.length_cons, List.length_nil, List.take_length, decide_eq_true_eq, decide_eq_false_iff_not, okv, okr, oks, Bool.not_true, Bool.not_false, EV.x_t0, EV.x_t1, EV.x_t2, EV.x_l0, EV.x_l1, EV.x_l2, EV.c_20, EV.c_32, EV.isi_int_0, EV.isi_int_1, EV.isi_int_2, EV.isi_int_3, EV.isi_int_4, EV.isi_int_5, EV.isi_int_6, EV.isi_int_7, EV.isi_int_8, EV.isi_bool_0, EV.isi_bool_1, EV.isi_bool_2, EV.isi_bool_3, EV.isi_bool_4, EV.isi_bool_5, EV.isi_bool_6, EV.isi_bool_7, EV.isi_bool_8, EV.isi_str_0, EV.isi_str_1, EV.isi_str_2, EV.isi_str_3, EV.isi_str_4, EV.isi_str_5, EV.isi_str_6, EV.isi_str_7, EV.isi_str_8, EV.isi_none_0, EV.isi_none_1, EV.isi_none_2, EV.isi_none_3, EV.isi_none_4, EV.isi_none_5, EV.isi_none_6, EV.isi_none_7, EV.isi_none_8, EV.isi_tuple_0, EV.isi_tuple_1, EV.isi_tuple_2, EV.isi_tuple_3, EV.isi_tuple_4, EV.isi_tuple_5, EV.isi_tuple_6, EV.isi_tuple_7, EV.isi_tuple_8, EV.isi_list_0, EV.isi_list_1, EV.isi_list_2, EV.isi_list_3, EV.isi_list_4, EV.isi_list_5, EV.isi_list_6, EV.isi_list_7, EV.isi_list_8, EV.f_nm, EV.f_nil, EV.o_eqb, EV.o_neb, EV.o_isn, EV.o_isnn, EV.o_leq0, EV.o_lne0, EV.in_none, EV.in_int, EV.in_bool, EV.in_str, EV.in_tup, EV.in_lst, EV.td_v, SE_nx, SE_rtv, EV.sc_nil, EV.sc_none, EV.sc_v, EV.sc_r, EV.sc_s, EV.sc_x, Bool.not_eq_true', Bool.not_eq_false', EV.goB_a, EV.goB_o, EV.bo_t, EV.bo_l, EV.bo_nil, EV.bo_nm, EV.bo_tt, EV.bo_tl, EV.wipe_nil, EV.wipe_cons, Nat.reduceAdd, Nat.zero_add, Int.cast_ofNat_Int, Int.reduceEq, forall_const, not_true_eq_false, not_false_eq_true, false_implies, implies_true, and_true, true_and, decide_true, decide_false, Bool.false_eq_true, Bool.true_eq_false, eq_self, reduceCtorEq, c_is_integer_0, c_lowest_0, c_is_lowest_0, c_sum_of_two_0, c_opposite_0, c_difference_0, c_times_integer_0, c_rooted_0, c_sign_of_0, c_order_0, c_floor_of_number_0, c_check_kind_0, c_check_number_0, c_check_count_0, c_is_number_0, c_sign_0, c_sign_1, c_compared_0, c_compared_1, c_floor_of_0, c_floor_of_1, c_about_0, c_about_1, c_unit_0, c_unit_1, c_stretch_unit_0, c_stretch_unit_1, c__law_deck_0, c__law_take_0, c__law_gcd_0, c__law_num_0, c__law_plus_0, c__law_minus_0, c__law_times_0, c__law_sign_0, c__law_same_0, c__law_number_0, c__law_near_0, c__law_drawn_0, c__law_is_floor_0, c__law_right_0, c__law_units_0])
    exact ⟨_, lv, sv, dk5, sm', rfl⟩
  · rintro ρ S' ⟨v, lv, sv, dk', sm', rfl⟩
    have a1 : ∀ S, callN G wl (k + 5) "sign" [I f, .v (T3 u)] S = .ok (I (sg3 f u)) S := fun S => e_sign hf su lu (by omega) (by omega)
    have a2 : ∀ S, callN G wl (k + 5) "_law_sign" [I f, .v (T3 u)] S = .ok (I (sg3 f u)) S := fun S => e_lsign hf su (by omega)
    have b1 : ∀ S, callN G wl (k + 5) "_law_minus" [.v (T3 u), .v (T3 v)] S = .ok (.v (T3 (sum2 u (opp v)))) S := fun S => e_lminus hw su sv lu.ne lv.ne (by omega) (by omega) (by omega) (by omega)
    have b2 : ∀ S, callN G wl (k + 5) "_law_sign" [I f, .v (T3 (sum2 u (opp v)))] S = .ok (I (cmp3 f u v)) S := fun S => e_lsign hf (dif_sn su sv lu.ne lv.ne) (by omega)
    have b3 : ∀ S, callN G wl (k + 5) "compared" [I f, .v (T3 u), .v (T3 v)] S = .ok (I (cmp3 f u v)) S := fun S => e_compared hf su sv lu lv (by omega) (by omega) (by omega) (by omega)
    have b4 : ∀ S, callN G wl (k + 5) "compared" [I f, .v (T3 v), .v (T3 u)] S = .ok (I (-cmp3 f u v)) S := fun S => by
      rw [← cmp3_swap hf lu.ne lv.ne]
      exact e_compared hf sv su lv lu (by omega) (by omega) (by omega) (by omega)
    have c1 : ∀ S, callN G wl (k + 5) "floor_of" [I f, .v (T3 u)] S = .ok (I (flo f u)) S := fun S => e_floor_of hf su lu (by omega) (by omega)
    have c2 : ∀ S, callN G wl (k + 5) "_law_is_floor" [I f, .v (T3 u), I (flo f u)] S = .ok (B true) S := fun S => e_is_floor hw hf su lu (by omega) (by omega) rfl
    have s1 : ∀ (a b : Int) S, callN G wl (k + 5) "_law_same" [.v (.list [.int a, .int b]), .v (.list [.int a, .int b])] S = .ok (B true) S := fun a b S => e_same (k := k + 3) 1 _ S (OkD_ints (by simp) (by simp))
    have s2 : ∀ (a b c : Int) S, callN G wl (k + 5) "_law_same" [.v (.list [.int a, .int b, .int c]), .v (.list [.int a, .int b, .int c])] S = .ok (B true) S := fun a b c S => e_same (k := k + 3) 1 _ S (OkD_ints (by simp) (by simp))
    have s3 : ∀ (a : Int) S, callN G wl (k + 5) "_law_same" [I a, I a] S = .ok (B true) S := fun a S => e_same (k := k + 4) 0 _ S trivial
    simp only [EV.w_loc, EV.w_at0, EV.w_atS, EV.w_lit, EV.w_op, EV.w_neg, EV.w_negR, EV.w_not, EV.w_cmp, EV.w_ite, EV.w_evT, EV.w_tup, EV.w_lst, EV.w_ix, EV.w_bi, EV.w_isi, EV.w_rev, EV.w_bop, EV.w_b1, EV.w_b2, EV.w_fld, EV.w_fldR, EV.w_call, EV.w_mth, EV.w_enil, EV.w_econs, EV.w_ono, EV.w_oso, EV.w_intO, EV.w_slc, EV.w_cno, EV.w_cso, EV.w_dix, EV.o_add, EV.o_sub, EV.o_mul, EV.o_div, EV.o_mod, EV.o_lt, EV.o_le, EV.o_gt, EV.o_ge, EV.o_eq, EV.o_ne, EV.o_tb, EV.o_ti, W_ok, W_ex, WS_ok, WS_ex, EV.s_nil, EV.s_cons, EV.s_asgN, EV.s_asgT, EV.s_par2, EV.s_par3, EV.s_set, EV.s_ex, EV.s_iff, EV.s_for, EV.s_wh, EV.s_ret, EV.s_retN, EV.s_rai, EV.rai_v, EV.s_try, EV.s_hnil, EV.s_pas, EV.s_brk, EV.s_cnt, NX_nx, NX_rt, NX_bk, NX_ct, JN_nx, JN_rt, JN_bk, JN_ct, TN_nx, TN_rt, TN_bk, TN_ct, RQ_nx, RQ_rt, EV.gc_v, EV.b_gcd, EV.b_abs, EV.b_max, EV.b_min, EV.b_int, EV.b_intb, EV.b_lens, EV.b_lent, EV.b_lenl, EV.b_isqrt, EV.b_listt, EV.b_listl, EV.t_1, EV.t_2, EV.t_3, EV.t_4, EV.ds_1, EV.ds_2, EV.ds_3, EV.ds_4, EV.l_0, EV.l_1, EV.l_2, EV.l_3, EV.l_4, EV.l_5, EV.l_6, EV.lm_2, EV.i_seq, EV.i_tup, EV.i_lst, EV.i_scr, EV.i_rng, EV.i_rngR, EV.i_rng2, EV.i_rng2R, List.set_cons_zero, List.set_cons_succ, List.map_cons, List.map_nil, List.cons_append, List.nil_append, List.replicate, List.length_cons, List.length_nil, List.take_length, decide_eq_true_eq, decide_eq_false_iff_not, okv, okr, oks, Bool.not_true, Bool.not_false, EV.x_t0, EV.x_t1, EV.x_t2, EV.x_l0, EV.x_l1, EV.x_l2, EV.c_20, EV.c_32, EV.isi_int_0, EV.isi_int_1, EV.isi_int_2, EV.isi_int_3, EV.isi_int_4, EV.isi_int_5, EV.isi_int_6, EV.isi_int_7, EV.isi_int_8, EV.isi_bool_0, EV.isi_bool_1, EV.isi_bool_2, EV.isi_bool_3, EV.isi_bool_4, EV.isi_bool_5, EV.isi_bool_6, EV.isi_bool_7, EV.isi_bool_8, EV.isi_str_0, EV.isi_str_1, EV.isi_str_2, EV.isi_str_3, EV.isi_str_4, EV.isi_str_5, EV.isi_str_6, EV.isi_str_7, EV.isi_str_8, EV.isi_none_0, EV.isi_none_1, EV.isi_none_2, EV.isi_none_3, EV.isi_none_4, EV.isi_none_5, EV.isi_none_6, EV.isi_none_7, EV.isi_none_8, EV.isi_tuple_0, EV.isi_tuple_1, EV.isi_tuple_2, EV.isi_tuple_3, EV.isi_tuple_4, EV.isi_tuple_5, EV.isi_tuple_6, EV.isi_tuple_7, EV.isi_tuple_8, EV.isi_list_0, EV.isi_list_1, EV.isi_list_2, EV.isi_list_3, EV.isi_list_4, EV.isi_list_5, EV.isi_list_6, EV.isi_list_7, EV.isi_list_8, EV.f_nm, EV.f_nil, EV.o_eqb, EV.o_neb, EV.o_isn, EV.o_isnn, EV.o_leq0, EV.o_lne0, EV.in_none, EV.in_int, EV.in_bool, EV.in_str, EV.in_tup, EV.in_lst, EV.td_v, SE_nx, SE_rtv, EV.sc_nil, EV.sc_none, EV.sc_v, EV.sc_r, EV.sc_s, EV.sc_x, Bool.not_eq_true', Bool.not_eq_false', EV.goB_a, EV.goB_o, EV.bo_t, EV.bo_l, EV.bo_nil, EV.bo_nm, EV.bo_tt, EV.bo_tl, EV.wipe_nil, EV.wipe_cons, Nat.reduceAdd, Nat.zero_add, Int.cast_ofNat_Int, Int.reduceEq, forall_const, not_true_eq_false, not_false_eq_true, false_implies, implies_true, and_true, true_and, decide_true, decide_false, Bool.false_eq_true, Bool.true_eq_false, eq_self, reduceCtorEq, c_is_integer_0, c_lowest_0, c_is_lowest_0, c_sum_of_two_0, c_opposite_0, c_difference_0, c_times_integer_0, c_rooted_0, c_sign_of_0, c_order_0, c_floor_of_number_0, c_check_kind_0, c_check_number_0, c_check_count_0, c_is_number_0, c_sign_0, c_sign_1, c_compared_0, c_compared_1, c_floor_of_0, c_floor_of_1, c_about_0, c_about_1, c_unit_0, c_unit_1, c_stretch_unit_0, c_stretch_unit_1, c__law_deck_0, c__law_take_0, c__law_gcd_0, c__law_num_0, c__law_plus_0, c__law_minus_0, c__law_times_0, c__law_sign_0, c__law_same_0, c__law_number_0, c__law_near_0, c__law_drawn_0, c__law_is_floor_0, c__law_right_0, c__law_units_0, a1, a2, b1, b2, b3, b4, c1, c2, s1, s2, s3, rep2]
    refine w_take dk' (by decide) (Sz.const (by decide)) fun t S3 t0 t1 dk3 sm3 => ?_
    obtain ⟨t, rfl⟩ : ∃ n : Nat, t = (n : Int) := ⟨t.toNat, by omega⟩
    (try simp only [EV.w_loc, EV.w_at0, EV.w_atS, EV.w_lit, EV.w_op, EV.w_neg, EV.w_negR, EV.w_not, EV.w_cmp, EV.w_ite, EV.w_evT, EV.w_tup, EV.w_lst, EV.w_ix, EV.w_bi, EV.w_isi, EV.w_rev, EV.w_bop, EV.w_b1, EV.w_b2, EV.w_fld, EV.w_fldR, EV.w_call, EV.w_mth, EV.w_enil, EV.w_econs, EV.w_ono, EV.w_oso, EV.w_intO, EV.w_slc, EV.w_cno, EV.w_cso, EV.w_dix, EV.o_add, EV.o_sub, EV.o_mul, EV.o_div, EV.o_mod, EV.o_lt, EV.o_le, EV.o_gt, EV.o_ge, EV.o_eq, EV.o_ne, EV.o_tb, EV.o_ti, W_ok, W_ex, WS_ok, WS_ex, EV.s_nil, EV.s_cons, EV.s_asgN, EV.s_asgT, EV.s_par2, EV.s_par3, EV.s_set, EV.s_ex, EV.s_iff, EV.s_for, EV.s_wh, EV.s_ret, EV.s_retN, EV.s_rai, EV.rai_v, EV.s_try, EV.s_hnil, EV.s_pas, EV.s_brk, EV.s_cnt, NX_nx, NX_rt, NX_bk, NX_ct, JN_nx, JN_rt, JN_bk, JN_ct, TN_nx, TN_rt, TN_bk, TN_ct, RQ_nx, RQ_rt, EV.gc_v, EV.b_gcd, EV.b_abs, EV.b_max, EV.b_min, EV.b_int, EV.b_intb, EV.b_lens, EV.b_lent, EV.b_lenl, EV.b_isqrt, EV.b_listt, EV.b_listl, EV.t_1, EV.t_2, EV.t_3, EV.t_4, EV.ds_1, EV.ds_2, EV.ds_3, EV.ds_4, EV.l_0, EV.l_1, EV.l_2, EV.l_3, EV.l_4, EV.l_5, EV.l_6, EV.lm_2, EV.i_seq, EV.i_tup, EV.i_lst, EV.i_scr, EV.i_rng, EV.i_rngR, EV.i_rng2, EV.i_rng2R, List.set_cons_zero, List.set_cons_succ, List.map_cons, List.map_nil, List.cons_append, List.nil_append, List.replicate, List.length_cons, List.length_nil, List.take_length, decide_eq_true_eq, decide_eq_false_iff_not, okv, okr, oks, Bool.not_true, Bool.not_false, EV.x_t0, EV.x_t1, EV.x_t2, EV.x_l0, EV.x_l1, EV.x_l2, EV.c_20, EV.c_32, EV.isi_int_0, EV.isi_int_1, EV.isi_int_2, EV.isi_int_3, EV.isi_int_4, EV.isi_int_5, EV.isi_int_6, EV.isi_int_7, EV.isi_int_8, EV.isi_bool_0, EV.isi_bool_1, EV.isi_bool_2, EV.isi_bool_3, EV.isi_bool_4, EV.isi_bool_5, EV.isi_bool_6, EV.isi_bool_7, EV.isi_bool_8, EV.isi_str_0, EV.isi_str_1, EV.isi_str_2, EV.isi_str_3, EV.isi_str_4, EV.isi_str_5, EV.isi_str_6, EV.isi_str_7, EV.isi_str_8, EV.isi_none_0, EV.isi_none_1, EV.isi_none_2, EV.isi_none_3, EV.isi_none_4, EV.isi_none_5, EV.isi_none_6, EV.isi_none_7, EV.isi_none_8, EV.isi_tuple_0, EV.isi_tuple_1, EV.isi_tuple_2, EV.isi_tuple_3, EV.isi_tuple_4, EV.isi_tuple_5, EV.isi_tuple_6, EV.isi_tuple_7, EV.isi_tuple_8, EV.isi_list_0, EV.isi_list_1, EV.isi_list_2, EV.isi_list_3, EV.isi_list_4, EV.isi_list_5, EV.isi_list_6, EV.isi_list_7, EV.isi_list_8, EV.f_nm, EV.f_nil, EV.o_eqb, EV.o_neb, EV.o_isn, EV.o_isnn, EV.o_leq0, EV.o_lne0, EV.in_none, EV.in_int, EV.in_bool, EV.in_str, EV.in_tup, EV.in_lst, EV.td_v, SE_nx, SE_rtv, EV.sc_nil, EV.sc_none, EV.sc_v, EV.sc_r, EV.sc_s, EV.sc_x, Bool.not_eq_true', Bool.not_eq_false', EV.goB_a, EV.goB_o, EV.bo_t, EV.bo_l, EV.bo_nil, EV.bo_nm, EV.bo_tt, EV.bo_tl, EV.wipe_nil, EV.wipe_cons, Nat.reduceAdd, Nat.zero_add, Int.cast_ofNat_Int, Int.reduceEq, forall_const, not_true_eq_false, not_false_eq_true, false_implies, implies_true, and_true, true_and, decide_true, decide_false, Bool.false_eq_true, Bool.true_eq_false, eq_self, reduceCtorEq, c_is_integer_0, c_lowest_0, c_is_lowest_0, c_sum_of_two_0, c_opposite_0, c_difference_0, c_times_integer_0, c_rooted_0, c_sign_of_0, c_order_0, c_floor_of_number_0, c_check_kind_0, c_check_number_0, c_check_count_0, c_is_number_0, c_sign_0, c_sign_1, c_compared_0, c_compared_1, c_floor_of_0, c_floor_of_1, c_about_0, c_about_1, c_unit_0, c_unit_1, c_stretch_unit_0, c_stretch_unit_1, c__law_deck_0, c__law_take_0, c__law_gcd_0, c__law_num_0, c__law_plus_0, c__law_minus_0, c__law_times_0, c__law_sign_0, c__law_same_0, c__law_number_0, c__law_near_0, c__law_drawn_0, c__law_is_floor_0, c__law_right_0, c__law_units_0])
    refine ⟨by omega, ?_⟩
    have sm'' := sm'.trans sm3
    refine f_inv (fun ds ρ S' => ∃ x, ds.length ≤ t ∧ S' = S3 ∧ ρ = [some (.r j), some (I f), some (.v (T3 u)), some (.v (T3 v)), some (I (cmp3 f u v)), some (I (flo f u)), some (I t), some (I (10 ^ (t - ds.length))), x]) ?_ ?_ _ _ _ ?_
    · rintro d ds ρ S' ⟨x, hl, rfl, rfl⟩
      refine ⟨_, rfl, ?_⟩
      simp only [List.length_cons] at hl ⊢
      simp only [EV.w_loc, EV.w_at0, EV.w_atS, EV.w_lit, EV.w_op, EV.w_neg, EV.w_negR, EV.w_not, EV.w_cmp, EV.w_ite, EV.w_evT, EV.w_tup, EV.w_lst, EV.w_ix, EV.w_bi, EV.w_isi, EV.w_rev, EV.w_bop, EV.w_b1, EV.w_b2, EV.w_fld, EV.w_fldR, EV.w_call, EV.w_mth, EV.w_enil, EV.w_econs, EV.w_ono, EV.w_oso, EV.w_intO, EV.w_slc, EV.w_cno, EV.w_cso, EV.w_dix, EV.o_add, EV.o_sub, EV.o_mul, EV.o_div, EV.o_mod, EV.o_lt, EV.o_le, EV.o_gt, EV.o_ge, EV.o_eq, EV.o_ne, EV.o_tb, EV.o_ti, W_ok, W_ex, WS_ok, WS_ex, EV.s_nil, EV.s_cons, EV.s_asgN, EV.s_asgT, EV.s_par2, EV.s_par3, EV.s_set, EV.s_ex, EV.s_iff, EV.s_for, EV.s_wh, EV.s_ret, EV.s_retN, EV.s_rai, EV.rai_v, EV.s_try, EV.s_hnil, EV.s_pas, EV.s_brk, EV.s_cnt, NX_nx, NX_rt, NX_bk, NX_ct, JN_nx, JN_rt, JN_bk, JN_ct, TN_nx, TN_rt, TN_bk, TN_ct, RQ_nx, RQ_rt, EV.gc_v, EV.b_gcd, EV.b_abs, EV.b_max, EV.b_min, EV.b_int, EV.b_intb, EV.b_lens, EV.b_lent, EV.b_lenl, EV.b_isqrt, EV.b_listt, EV.b_listl, EV.t_1, EV.t_2, EV.t_3, EV.t_4, EV.ds_1, EV.ds_2, EV.ds_3, EV.ds_4, EV.l_0, EV.l_1, EV.l_2, EV.l_3, EV.l_4, EV.l_5, EV.l_6, EV.lm_2, EV.i_seq, EV.i_tup, EV.i_lst, EV.i_scr, EV.i_rng, EV.i_rngR, EV.i_rng2, EV.i_rng2R, List.set_cons_zero, List.set_cons_succ, List.map_cons, List.map_nil, List.cons_append, List.nil_append, List.replicate, List.length_cons, List.length_nil, List.take_length, decide_eq_true_eq, decide_eq_false_iff_not, okv, okr, oks, Bool.not_true, Bool.not_false, EV.x_t0, EV.x_t1, EV.x_t2, EV.x_l0, EV.x_l1, EV.x_l2, EV.c_20, EV.c_32, EV.isi_int_0, EV.isi_int_1, EV.isi_int_2, EV.isi_int_3, EV.isi_int_4, EV.isi_int_5, EV.isi_int_6, EV.isi_int_7, EV.isi_int_8, EV.isi_bool_0, EV.isi_bool_1, EV.isi_bool_2, EV.isi_bool_3, EV.isi_bool_4, EV.isi_bool_5, EV.isi_bool_6, EV.isi_bool_7, EV.isi_bool_8, EV.isi_str_0, EV.isi_str_1, EV.isi_str_2, EV.isi_str_3, EV.isi_str_4, EV.isi_str_5, EV.isi_str_6, EV.isi_str_7, EV.isi_str_8, EV.isi_none_0, EV.isi_none_1, EV.isi_none_2, EV.isi_none_3, EV.isi_none_4, EV.isi_none_5, EV.isi_none_6, EV.isi_none_7, EV.isi_none_8, EV.isi_tuple_0, EV.isi_tuple_1, EV.isi_tuple_2, EV.isi_tuple_3, EV.isi_tuple_4, EV.isi_tuple_5, EV.isi_tuple_6, EV.isi_tuple_7, EV.isi_tuple_8, EV.isi_list_0, EV.isi_list_1, EV.isi_list_2, EV.isi_list_3, EV.isi_list_4, EV.isi_list_5, EV.isi_list_6, EV.isi_list_7, EV.isi_list_8, EV.f_nm, EV.f_nil, EV.o_eqb, EV.o_neb, EV.o_isn, EV.o_isnn, EV.o_leq0, EV.o_lne0, EV.in_none, EV.in_int, EV.in_bool, EV.in_str, EV.in_tup, EV.in_lst, EV.td_v, SE_nx, SE_rtv, EV.sc_nil, EV.sc_none, EV.sc_v, EV.sc_r, EV.sc_s, EV.sc_x, Bool.not_eq_true', Bool.not_eq_false', EV.goB_a, EV.goB_o, EV.bo_t, EV.bo_l, EV.bo_nil, EV.bo_nm, EV.bo_tt, EV.bo_tl, EV.wipe_nil, EV.wipe_cons, Nat.reduceAdd, Nat.zero_add, Int.cast_ofNat_Int, Int.reduceEq, forall_const, not_true_eq_false, not_false_eq_true, false_implies, implies_true, and_true, true_and, decide_true, decide_false, Bool.false_eq_true, Bool.true_eq_false, eq_self, reduceCtorEq, k10 (pow10_sz (show t - (ds.length + 1) ≤ 60 by omega))]
      have e : (10 : Int) * 10 ^ (t - (ds.length + 1)) = 10 ^ (t - ds.length) := by
        rw [show t - ds.length = (t - (ds.length + 1)) + 1 by omega, Int.pow_succ, Int.mul_comm]
      rw [e]
      exact ⟨_, by omega, rfl⟩
    · rintro ρ S' ⟨x, hl, rfl, rfl⟩
      have ht : t ≤ 60 := by omega
      have d1 : ∀ S, callN G wl (k + 5) "about" [I f, .v (T3 u), I t] S = .ok (I (flo f (shf u t))) S := fun S => e_about hf su lu (by omega) (by omega) ht
      have d2 : ∀ S, callN G wl (k + 5) "_law_num" [I (u.1 * 10 ^ t), I (u.2.1 * 10 ^ t), I u.2.2] S = .ok (.v (T3 (shf u t))) S := fun S => e_num hw lu.ne su.c (su.b.mul (pow10_sz ht)) (by omega) (by omega)
      have d3 : ∀ S, callN G wl (k + 5) "_law_is_floor" [I f, .v (T3 (shf u t)), I (flo f (shf u t))] S = .ok (B true) S := fun S => e_is_floor hw hf (shf_sn su lu.ne ht) (low_low lu.ne) (by omega) (by omega) rfl
      simp only [EV.w_loc, EV.w_at0, EV.w_atS, EV.w_lit, EV.w_op, EV.w_neg, EV.w_negR, EV.w_not, EV.w_cmp, EV.w_ite, EV.w_evT, EV.w_tup, EV.w_lst, EV.w_ix, EV.w_bi, EV.w_isi, EV.w_rev, EV.w_bop, EV.w_b1, EV.w_b2, EV.w_fld, EV.w_fldR, EV.w_call, EV.w_mth, EV.w_enil, EV.w_econs, EV.w_ono, EV.w_oso, EV.w_intO, EV.w_slc, EV.w_cno, EV.w_cso, EV.w_dix, EV.o_add, EV.o_sub, EV.o_mul, EV.o_div, EV.o_mod, EV.o_lt, EV.o_le, EV.o_gt, EV.o_ge, EV.o_eq, EV.o_ne, EV.o_tb, EV.o_ti, W_ok, W_ex, WS_ok, WS_ex, EV.s_nil, EV.s_cons, EV.s_asgN, EV.s_asgT, EV.s_par2, EV.s_par3, EV.s_set, EV.s_ex, EV.s_iff, EV.s_for, EV.s_wh, EV.s_ret, EV.s_retN, EV.s_rai, EV.rai_v, EV.s_try, EV.s_hnil, EV.s_pas, EV.s_brk, EV.s_cnt, NX_nx, NX_rt, NX_bk, NX_ct, JN_nx, JN_rt, JN_bk, JN_ct, TN_nx, TN_rt, TN_bk, TN_ct, RQ_nx, RQ_rt, EV.gc_v, EV.b_gcd, EV.b_abs, EV.b_max, EV.b_min, EV.b_int, EV.b_intb, EV.b_lens, EV.b_lent, EV.b_lenl, EV.b_isqrt, EV.b_listt, EV.b_listl, EV.t_1, EV.t_2, EV.t_3, EV.t_4, EV.ds_1, EV.ds_2, EV.ds_3, EV.ds_4, EV.l_0, EV.l_1, EV.l_2, EV.l_3, EV.l_4, EV.l_5, EV.l_6, EV.lm_2, EV.i_seq, EV.i_tup, EV.i_lst, EV.i_scr, EV.i_rng, EV.i_rngR, EV.i_rng2, EV.i_rng2R, List.set_cons_zero, List.set_cons_succ, List.map_cons, List.map_nil, List.cons_append, List.nil_append, List.replicate, List.length_cons, List.length_nil, List.take_length, decide_eq_true_eq, decide_eq_false_iff_not, okv, okr, oks, Bool.not_true, Bool.not_false, EV.x_t0, EV.x_t1, EV.x_t2, EV.x_l0, EV.x_l1, EV.x_l2, EV.c_20, EV.c_32, EV.isi_int_0, EV.isi_int_1, EV.isi_int_2, EV.isi_int_3, EV.isi_int_4, EV.isi_int_5, EV.isi_int_6, EV.isi_int_7, EV.isi_int_8, EV.isi_bool_0, EV.isi_bool_1, EV.isi_bool_2, EV.isi_bool_3, EV.isi_bool_4, EV.isi_bool_5, EV.isi_bool_6, EV.isi_bool_7, EV.isi_bool_8, EV.isi_str_0, EV.isi_str_1, EV.isi_str_2, EV.isi_str_3, EV.isi_str_4, EV.isi_str_5, EV.isi_str_6, EV.isi_str_7, EV.isi_str_8, EV.isi_none_0, EV.isi_none_1, EV.isi_none_2, EV.isi_none_3, EV.isi_none_4, EV.isi_none_5, EV.isi_none_6, EV.isi_none_7, EV.isi_none_8, EV.isi_tuple_0, EV.isi_tuple_1, EV.isi_tuple_2, EV.isi_tuple_3, EV.isi_tuple_4, EV.isi_tuple_5, EV.isi_tuple_6, EV.isi_tuple_7, EV.isi_tuple_8, EV.isi_list_0, EV.isi_list_1, EV.isi_list_2, EV.isi_list_3, EV.isi_list_4, EV.isi_list_5, EV.isi_list_6, EV.isi_list_7, EV.isi_list_8, EV.f_nm, EV.f_nil, EV.o_eqb, EV.o_neb, EV.o_isn, EV.o_isnn, EV.o_leq0, EV.o_lne0, EV.in_none, EV.in_int, EV.in_bool, EV.in_str, EV.in_tup, EV.in_lst, EV.td_v, SE_nx, SE_rtv, EV.sc_nil, EV.sc_none, EV.sc_v, EV.sc_r, EV.sc_s, EV.sc_x, Bool.not_eq_true', Bool.not_eq_false', EV.goB_a, EV.goB_o, EV.bo_t, EV.bo_l, EV.bo_nil, EV.bo_nm, EV.bo_tt, EV.bo_tl, EV.wipe_nil, EV.wipe_cons, Nat.reduceAdd, Nat.zero_add, Int.cast_ofNat_Int, Int.reduceEq, forall_const, not_true_eq_false, not_false_eq_true, false_implies, implies_true, and_true, true_and, decide_true, decide_false, Bool.false_eq_true, Bool.true_eq_false, eq_self, reduceCtorEq, c_is_integer_0, c_lowest_0, c_is_lowest_0, c_sum_of_two_0, c_opposite_0, c_difference_0, c_times_integer_0, c_rooted_0, c_sign_of_0, c_order_0, c_floor_of_number_0, c_check_kind_0, c_check_number_0, c_check_count_0, c_is_number_0, c_sign_0, c_sign_1, c_compared_0, c_compared_1, c_floor_of_0, c_floor_of_1, c_about_0, c_about_1, c_unit_0, c_unit_1, c_stretch_unit_0, c_stretch_unit_1, c__law_deck_0, c__law_take_0, c__law_gcd_0, c__law_num_0, c__law_plus_0, c__law_minus_0, c__law_times_0, c__law_sign_0, c__law_same_0, c__law_number_0, c__law_near_0, c__law_drawn_0, c__law_is_floor_0, c__law_right_0, c__law_units_0, List.length_nil, Nat.sub_zero, d1, mul_ok su.a (pow10_sz ht) (by omega), mul_ok su.b (pow10_sz ht) (by omega), d2, d3, s3]
      rw [tk sm'']
      exact hQ _ dk3 sm''
    · have e : (10 : Int) ^ (t - (rngD 0 (t : Int).toNat).length) = 1 := by
        rw [rng_len]
        simp
      rw [show (PyData.int 1) = .int (10 ^ (t - (rngD 0 (t : Int).toNat).length)) by rw [e]]
      exact ⟨_, by rw [rng_len]; omega, rfl, rfl⟩
end
end LawP

set_option Elab.async false
set_option linter.all false
set_option maxRecDepth 100000
set_option maxHeartbeats 8000000
namespace LawP
open PySem PySem.Spec PyProof.Rows L2 EV Num
section
variable {wl k : Nat} {S : Sto}
/-! ### the least units -/
abbrev O3 := Option (Int × Int × Int)
def oD : O3 → D
  | none => .none
  | some p => T3 p
theorem oD_none : oD none = .none := rfl
theorem oD_some {p : Int × Int × Int} : oD (some p) = T3 p := rfl
def smaller (f : Int) (u : Int × Int × Int) : O3 → Bool
  | none => true
  | some l => decide (cmp3 f u l < 0)
def stepU (f x y : Int) (st : O3 × O3) : O3 × O3 :=
  if ((prd f (x, y, 1) (mat f (x, y, 1))).1.natAbs = 1 ∧ (prd f (x, y, 1) (mat f (x, y, 1))).2.1 = 0) ∧ 0 < sg3 f (x - 1, y, 1) then
    (if smaller f (x, y, 1) st.1 then some (x, y, 1) else st.1, if 0 < sg3 f (mat f (x, y, 1)) ∧ smaller f (x, y, 1) st.2 = true then some (x, y, 1) else st.2)
  else st
def rows9 : List Int := (List.range 19).map fun i => (-9 : Int) + (i : Nat)
def allU (f : Int) : O3 × O3 := rows9.foldl (fun st x => rows9.foldl (fun st y => stepU f x y st) st) (none, none)
theorem all2 : allU 2 = (some (1, 1, 1), some (3, 2, 1)) := by decide +kernel
theorem all3 : allU 3 = (some (2, 1, 1), some (2, 1, 1)) := by decide +kernel
theorem all5 : allU 5 = (some (0, 1, 1), some (1, 1, 1)) := by decide +kernel
theorem all_un {f : Int} (hf : Kind f) : allU f = (some (un1 f), some (un2 f)) := by
  rcases hf with rfl | rfl | rfl
  · exact all2
  · exact all3
  · exact all5
/-- of small parts -/
def SmO (o : O3) : Prop := ∀ p, o = some p → Sn 10 1 p ∧ p.2.2 ≠ 0
theorem r99 : rngD (-9) (10 - -9 : Int).toNat = rows9.map .int := by rfl
theorem rows9_b {x : Int} (h : x ∈ rows9) : -9 ≤ x ∧ x ≤ 9 := by
  unfold rows9 at h
  obtain ⟨i, hi, rfl⟩ := List.mem_map.mp h
  have := List.mem_range.mp hi
  omega
theorem stepU_sm {f x y : Int} (hx : -9 ≤ x ∧ x ≤ 9) (hy : -9 ≤ y ∧ y ≤ 9) {st : O3 × O3} (h1 : SmO st.1) (h2 : SmO st.2) : SmO (stepU f x y st).1 ∧ SmO (stepU f x y st).2 := by
  have n : SmO (some (x, y, 1)) := fun p e => by
    cases e
    exact ⟨⟨szb (b := 9) (by simpa using hx) (by decide), szb (b := 9) (by simpa using hy) (by decide), Sz.one⟩, by show (1 : Int) ≠ 0; decide⟩
  unfold stepU
  split
  · constructor
    · show SmO (if _ then _ else _)
      split
      · exact n
      · exact h1
    · show SmO (if _ then _ else _)
      split
      · exact n
      · exact h2
  · exact ⟨h1, h2⟩
theorem e_units (hw : Wl wl) {f : Int} (hf : Kind f) : callN G wl (k + 4) "_law_units" [I f] S = .ok (.v (.list [T3 (un1 f), T3 (un2 f)])) S := by
  apply W_eq
  rw [w_fun lk__law_units rfl]
  simp only [d__law_units, EV.w_loc, EV.w_at0, EV.w_atS, EV.w_lit, EV.w_op, EV.w_neg, EV.w_negR, EV.w_not, EV.w_cmp, EV.w_ite, EV.w_evT, EV.w_tup, EV.w_lst, EV.w_ix, EV.w_bi, EV.w_isi, EV.w_rev, EV.w_bop, EV.w_b1, EV.w_b2, EV.w_fld, EV.w_fldR, EV.w_call, EV.w_mth, EV.w_enil, EV.w_econs, EV.w_ono, EV.w_oso, EV.w_intO, EV.w_slc, EV.w_cno, EV.w_cso, EV.w_dix, EV.o_add, EV.o_sub, EV.o_mul, EV.o_div, EV.o_mod, EV.o_lt, EV.o_le, EV.o_gt, EV.o_ge, EV.o_eq, EV.o_ne, EV.o_tb, EV.o_ti, W_ok, W_ex, WS_ok, WS_ex, EV.s_nil, EV.s_cons, EV.s_asgN, EV.s_asgT, EV.s_par2, EV.s_par3, EV.s_set, EV.s_ex, EV.s_iff, EV.s_for, EV.s_wh, EV.s_ret, EV.s_retN, EV.s_rai, EV.rai_v, EV.s_try, EV.s_hnil, EV.s_pas, EV.s_brk, EV.s_cnt, NX_nx, NX_rt, NX_bk, NX_ct, JN_nx, JN_rt, JN_bk, JN_ct, TN_nx, TN_rt, TN_bk, TN_ct, RQ_nx, RQ_rt, EV.gc_v, EV.b_gcd, EV.b_abs, EV.b_max, EV.b_min, EV.b_int, EV.b_intb, EV.b_lens, EV.b_lent, EV.b_lenl, EV.b_isqrt, EV.b_listt, EV.b_listl, EV.t_1, EV.t_2, EV.t_3, EV.t_4, EV.ds_1, EV.ds_2, EV.ds_3, EV.ds_4, EV.l_0, EV.l_1, EV.l_2, EV.l_3, EV.l_4, EV.l_5, EV.l_6, EV.lm_2, EV.i_seq, EV.i_tup, EV.i_lst, EV.i_scr, EV.i_rng, EV.i_rngR, EV.i_rng2, EV.i_rng2R, List.set_cons_zero, List.set_cons_succ, List.map_cons, List.map_nil, List.cons_append, List.nil_append, List.replicate, List.length_cons, List.length_nil, List.take_length, decide_eq_true_eq, decide_eq_false_iff_not, okv, okr, oks, Bool.not_true, Bool.not_false, EV.x_t0, EV.x_t1, EV.x_t2, EV.x_l0, EV.x_l1, EV.x_l2, EV.c_20, EV.c_32, EV.isi_int_0, EV.isi_int_1, EV.isi_int_2, EV.isi_int_3, EV.isi_int_4, EV.isi_int_5, EV.isi_int_6, EV.isi_int_7, EV.isi_int_8, EV.isi_bool_0, EV.isi_bool_1, EV.isi_bool_2, EV.isi_bool_3, EV.isi_bool_4, EV.isi_bool_5, EV.isi_bool_6, EV.isi_bool_7, EV.isi_bool_8, EV.isi_str_0, EV.isi_str_1, EV.isi_str_2, EV.isi_str_3, EV.isi_str_4, EV.isi_str_5, EV.isi_str_6, EV.isi_str_7, EV.isi_str_8, EV.isi_none_0, EV.isi_none_1, EV.isi_none_2, EV.isi_none_3, EV.isi_none_4, EV.isi_none_5, EV.isi_none_6, EV.isi_none_7, EV.isi_none_8, EV.isi_tuple_0, EV.isi_tuple_1, EV.isi_tuple_2, EV.isi_tuple_3, EV.isi_tuple_4, EV.isi_tuple_5, EV.isi_tuple_6, EV.isi_tuple_7, EV.isi_tuple_8, EV.isi_list_0, EV.isi_list_1, EV.isi_list_2, EV.isi_list_3, EV.isi_list_4, EV.isi_list_5, EV.isi_list_6, EV.isi_list_7, EV.isi_list_8, EV.f_nm, EV.f_nil, EV.o_eqb, EV.o_neb, EV.o_isn, EV.o_isnn, EV.o_leq0, EV.o_lne0, EV.in_none, EV.in_int, EV.in_bool, EV.in_str, EV.in_tup, EV.in_lst, EV.td_v, SE_nx, SE_rtv, EV.sc_nil, EV.sc_none, EV.sc_v, EV.sc_r, EV.sc_s, EV.sc_x, Bool.not_eq_true', Bool.not_eq_false', EV.goB_a, EV.goB_o, EV.bo_t, EV.bo_l, EV.bo_nil, EV.bo_nm, EV.bo_tt, EV.bo_tl, EV.wipe_nil, EV.wipe_cons, Nat.reduceAdd, Nat.zero_add, Int.cast_ofNat_Int, Int.reduceEq, forall_const, not_true_eq_false, not_false_eq_true, false_implies, implies_true, and_true, true_and, decide_true, decide_false, Bool.false_eq_true, Bool.true_eq_false, eq_self, reduceCtorEq, c_is_integer_0, c_lowest_0, c_is_lowest_0, c_sum_of_two_0, c_opposite_0, c_difference_0, c_times_integer_0, c_rooted_0, c_sign_of_0, c_order_0, c_floor_of_number_0, c_check_kind_0, c_check_number_0, c_check_count_0, c_is_number_0, c_sign_0, c_sign_1, c_compared_0, c_compared_1, c_floor_of_0, c_floor_of_1, c_about_0, c_about_1, c_unit_0, c_unit_1, c_stretch_unit_0, c_stretch_unit_1, c__law_deck_0, c__law_take_0, c__law_gcd_0, c__law_num_0, c__law_plus_0, c__law_minus_0, c__law_times_0, c__law_sign_0, c__law_same_0, c__law_number_0, c__law_near_0, c__law_drawn_0, c__law_is_floor_0, c__law_right_0, c__law_units_0, r99]
  refine ⟨by decide, ?_⟩
  refine f_inv (fun ds ρ S' => ∃ (xs : List Int) (st : O3 × O3) (a b c d e : Option R), (∀ x ∈ xs, x ∈ rows9) ∧ ds = xs.map .int ∧ S' = S ∧ SmO st.1 ∧ SmO st.2 ∧ xs.foldl (fun st x => rows9.foldl (fun st y => stepU f x y st) st) st = allU f ∧
    ρ = [some (I f), some (.v (oD st.1)), some (.v (oD st.2)), a, b, c, d, e]) ?_ ?_ _ _ _ ?_
  · rintro d0 ds ρ S' ⟨xs, st, a, b, c, d, e, hx, hds, rfl, s1, s2, hf', rfl⟩
    cases xs with
    | nil => cases hds
    | cons x xs =>
      simp only [List.map_cons, List.cons.injEq] at hds
      obtain ⟨rfl, rfl⟩ := hds
      have bx := rows9_b (hx x (List.mem_cons_self ..))
      refine ⟨_, rfl, ?_⟩
      simp only [EV.w_loc, EV.w_at0, EV.w_atS, EV.w_lit, EV.w_op, EV.w_neg, EV.w_negR, EV.w_not, EV.w_cmp, EV.w_ite, EV.w_evT, EV.w_tup, EV.w_lst, EV.w_ix, EV.w_bi, EV.w_isi, EV.w_rev, EV.w_bop, EV.w_b1, EV.w_b2, EV.w_fld, EV.w_fldR, EV.w_call, EV.w_mth, EV.w_enil, EV.w_econs, EV.w_ono, EV.w_oso, EV.w_intO, EV.w_slc, EV.w_cno, EV.w_cso, EV.w_dix, EV.o_add, EV.o_sub, EV.o_mul, EV.o_div, EV.o_mod, EV.o_lt, EV.o_le, EV.o_gt, EV.o_ge, EV.o_eq, EV.o_ne, EV.o_tb, EV.o_ti, W_ok, W_ex, WS_ok, WS_ex, EV.s_nil, EV.s_cons, EV.s_asgN, EV.s_asgT, EV.s_par2, EV.s_par3, EV.s_set, EV.s_ex, EV.s_iff, EV.s_for, EV.s_wh, EV.s_ret, EV.s_retN, EV.s_rai, EV.rai_v, EV.s_try, EV.s_hnil, EV.s_pas, EV.s_brk, EV.s_cnt, NX_nx, NX_rt, NX_bk, NX_ct, JN_nx, JN_rt, JN_bk, JN_ct, TN_nx, TN_rt, TN_bk, TN_ct, RQ_nx, RQ_rt, EV.gc_v, EV.b_gcd, EV.b_abs, EV.b_max, EV.b_min, EV.b_int, EV.b_intb, EV.b_lens, EV.b_lent, EV.b_lenl, EV.b_isqrt, EV.b_listt, EV.b_listl, EV.t_1, EV.t_2, EV.t_3, EV.t_4, EV.ds_1, EV.ds_2, EV.ds_3, EV.ds_4, EV.l_0, EV.l_1, EV.l_2, EV.l_3, EV.l_4, EV.l_5, EV.l_6, EV.lm_2, EV.i_seq, EV.i_tup, EV.i_lst, EV.i_scr, EV.i_rng, EV.i_rngR, EV.i_rng2, EV.i_rng2R, List.set_cons_zero, List.set_cons_succ, List.map_cons, List.map_nil, List.cons_append, List.nil_append, List.replicate, List.length_cons, List.length_nil, List.take_length, decide_eq_true_eq, decide_eq_false_iff_not, okv, okr, oks, Bool.not_true, Bool.not_false, EV.x_t0, EV.x_t1, EV.x_t2, EV.x_l0, EV.x_l1, EV.x_l2, EV.c_20, EV.c_32, EV.isi_int_0, EV.isi_int_1, EV.isi_int_2, EV.isi_int_3, EV.isi_int_4, EV.isi_int_5, EV.isi_int_6, EV.isi_int_7, EV.isi_int_8, EV.isi_bool_0, EV.isi_bool_1, EV.isi_bool_2, EV.isi_bool_3, EV.isi_bool_4, EV.isi_bool_5, EV.isi_bool_6, EV.isi_bool_7, EV.isi_bool_8, EV.isi_str_0, EV.isi_str_1, EV.isi_str_2, EV.isi_str_3, EV.isi_str_4, EV.isi_str_5, EV.isi_str_6, EV.isi_str_7, EV.isi_str_8, EV.isi_none_0, EV.isi_none_1, EV.isi_none_2, EV.isi_none_3, EV.isi_none_4, EV.isi_none_5, EV.isi_none_6, EV.isi_none_7, EV.isi_none_8, EV.isi_tuple_0, EV.isi_tuple_1, EV.isi_tuple_2, EV.isi_tuple_3, EV.isi_tuple_4, EV.isi_tuple_5, EV.isi_tuple_6, EV.isi_tuple_7, EV.isi_tuple_8, EV.isi_list_0, EV.isi_list_1, EV.isi_list_2, EV.isi_list_3, EV.isi_list_4, EV.isi_list_5, EV.isi_list_6, EV.isi_list_7, EV.isi_list_8, EV.f_nm, EV.f_nil, EV.o_eqb, EV.o_neb, EV.o_isn, EV.o_isnn, EV.o_leq0, EV.o_lne0, EV.in_none, EV.in_int, EV.in_bool, EV.in_str, EV.in_tup, EV.in_lst, EV.td_v, SE_nx, SE_rtv, EV.sc_nil, EV.sc_none, EV.sc_v, EV.sc_r, EV.sc_s, EV.sc_x, Bool.not_eq_true', Bool.not_eq_false', EV.goB_a, EV.goB_o, EV.bo_t, EV.bo_l, EV.bo_nil, EV.bo_nm, EV.bo_tt, EV.bo_tl, EV.wipe_nil, EV.wipe_cons, Nat.reduceAdd, Nat.zero_add, Int.cast_ofNat_Int, Int.reduceEq, forall_const, not_true_eq_false, not_false_eq_true, false_implies, implies_true, and_true, true_and, decide_true, decide_false, Bool.false_eq_true, Bool.true_eq_false, eq_self, reduceCtorEq, c_is_integer_0, c_lowest_0, c_is_lowest_0, c_sum_of_two_0, c_opposite_0, c_difference_0, c_times_integer_0, c_rooted_0, c_sign_of_0, c_order_0, c_floor_of_number_0, c_check_kind_0, c_check_number_0, c_check_count_0, c_is_number_0, c_sign_0, c_sign_1, c_compared_0, c_compared_1, c_floor_of_0, c_floor_of_1, c_about_0, c_about_1, c_unit_0, c_unit_1, c_stretch_unit_0, c_stretch_unit_1, c__law_deck_0, c__law_take_0, c__law_gcd_0, c__law_num_0, c__law_plus_0, c__law_minus_0, c__law_times_0, c__law_sign_0, c__law_same_0, c__law_number_0, c__law_near_0, c__law_drawn_0, c__law_is_floor_0, c__law_right_0, c__law_units_0, r99]
      refine ⟨by decide, ?_⟩
      simp only [List.foldl_cons] at hf'
      refine f_inv (fun ds ρ S'' => ∃ (ys : List Int) (st' : O3 × O3) (b c d e : Option R), (∀ y ∈ ys, y ∈ rows9) ∧ ds = ys.map .int ∧ S'' = S' ∧ SmO st'.1 ∧ SmO st'.2 ∧ ys.foldl (fun st y => stepU f x y st) st' = rows9.foldl (fun st y => stepU f x y st) st ∧
        ρ = [some (I f), some (.v (oD st'.1)), some (.v (oD st'.2)), some (I x), b, c, d, e]) ?_ ?_ _ _ _ ?_
      · rintro d1 ds ρ S'' ⟨ys, st', b, c, d, e, hy, hds, rfl, s1', s2', hf2, rfl⟩
        cases ys with
        | nil => cases hds
        | cons y ys =>
          simp only [List.map_cons, List.cons.injEq] at hds
          obtain ⟨rfl, rfl⟩ := hds
          have by' := rows9_b (hy y (List.mem_cons_self ..))
          refine ⟨_, rfl, ?_⟩
          simp only [List.foldl_cons] at hf2
          have su : Sn 5 1 (x, y, (1 : Int)) := ⟨szb (b := 9) (by simpa using bx) (by decide), szb (b := 9) (by simpa using by') (by decide), Sz.one⟩
          have su1 : Sn 5 1 (x - 1, y, (1 : Int)) := ⟨by show Sz 5 (x - 1); exact szb (b := 10) (by omega) (by decide), szb (b := 9) (by simpa using by') (by decide), Sz.one⟩
          have u0 : ((x, y, (1 : Int)) : Int × Int × Int).2.2 ≠ 0 := by show (1 : Int) ≠ 0; decide
          have sv := mat_sn (f := f) su
          have v0 : (mat f (x, y, 1)).2.2 ≠ 0 := by rw [mat_c]; exact u0
          have sp := prd_sn hf su sv u0 v0
          obtain ⟨o1, o2⟩ := st'
          have fin : ∀ (st2 : O3 × O3), st2 = stepU f x y (o1, o2) → ∃ (ys_1 : List Int) (st'_1 : O3 × O3) (b c d e : Option R), (∀ y ∈ ys_1, y ∈ rows9) ∧ ys.map PyData.int = ys_1.map .int ∧ SmO st'_1.1 ∧ SmO st'_1.2 ∧ ys_1.foldl (fun st y => stepU f x y st) st'_1 = rows9.foldl (fun st y => stepU f x y st) st ∧
              [some (I f), some (.v (oD st2.1)), some (.v (oD st2.2)), some (I x), some (I y), some (.v (T3 (x, y, 1))), some (.v (T3 (mat f (x, y, 1)))), some (.v (T3 (prd f (x, y, 1) (mat f (x, y, 1)))))] = [some (I f), some (.v (oD st'_1.1)), some (.v (oD st'_1.2)), some (I x), b, c, d, e] := by
            rintro st2 rfl
            have ss := stepU_sm (f := f) bx by' s1' s2'
            exact ⟨ys, _, _, _, _, _, fun y h => hy y (List.mem_cons_of_mem _ h), rfl, ss.1, ss.2, hf2, rfl⟩
          rw [EV.s_cons]
          refine nx_join (fun ρ S' => S' = S'' ∧ ρ = [some (I f), some (.v (oD o1)), some (.v (oD o2)), some (I x), some (I y), some (.v (T3 (x, y, 1))), some (.v (T3 (mat f (x, y, 1)))), e]) ?_ ?_
          · simp only [EV.w_loc, EV.w_at0, EV.w_atS, EV.w_lit, EV.w_op, EV.w_neg, EV.w_negR, EV.w_not, EV.w_cmp, EV.w_ite, EV.w_evT, EV.w_tup, EV.w_lst, EV.w_ix, EV.w_bi, EV.w_isi, EV.w_rev, EV.w_bop, EV.w_b1, EV.w_b2, EV.w_fld, EV.w_fldR, EV.w_call, EV.w_mth, EV.w_enil, EV.w_econs, EV.w_ono, EV.w_oso, EV.w_intO, EV.w_slc, EV.w_cno, EV.w_cso, EV.w_dix, EV.o_add, EV.o_sub, EV.o_mul, EV.o_div, EV.o_mod, EV.o_lt, EV.o_le, EV.o_gt, EV.o_ge, EV.o_eq, EV.o_ne, EV.o_tb, EV.o_ti, W_ok, W_ex, WS_ok, WS_ex, EV.s_nil, EV.s_cons, EV.s_asgN, EV.s_asgT, EV.s_par2, EV.s_par3, EV.s_set, EV.s_ex, EV.s_iff, EV.s_for, EV.s_wh, EV.s_ret, EV.s_retN, EV.s_rai, EV.rai_v, EV.s_try, EV.s_hnil, EV.s_pas, EV.s_brk, EV.s_cnt, NX_nx, NX_rt, NX_bk, NX_ct, JN_nx, JN_rt, JN_bk, JN_ct, TN_nx, TN_rt, TN_bk, TN_ct, RQ_nx, RQ_rt, EV.gc_v, EV.b_gcd, EV.b_abs, EV.b_max, EV.b_min, EV.b_int, EV.b_intb, EV.b_lens, EV.b_lent, EV.b_lenl, EV.b_isqrt, EV.b_listt, EV.b_listl, EV.t_1, EV.t_2, EV.t_3, EV.t_4, EV.ds_1, EV.ds_2, EV.ds_3, EV.ds_4, EV.l_0, EV.l_1, EV.l_2, EV.l_3, EV.l_4, EV.l_5, EV.l_6, EV.lm_2, EV.i_seq, EV.i_tup, EV.i_lst, EV.i_scr, EV.i_rng, EV.i_rngR, EV.i_rng2, EV.i_rng2R, List.set_cons_zero, List.set_cons_succ, List.map_cons, List.map_nil, List.cons_append, List.nil_append, List.replicate, List.length_cons, List.length_nil, List.take_length, decide_eq_true_eq, decide_eq_false_iff_not, okv, okr, oks, Bool.not_true, Bool.not_false, EV.x_t0, EV.x_t1, EV.x_t2, EV.x_l0, EV.x_l1, EV.x_l2, EV.c_20, EV.c_32, EV.isi_int_0, EV.isi_int_1, EV.isi_int_2, EV.isi_int_3, EV.isi_int_4, EV.isi_int_5, EV.isi_int_6, EV.isi_int_7, EV.isi_int_8, EV.isi_bool_0, EV.isi_bool_1, EV.isi_bool_2, EV.isi_bool_3, EV.isi_bool_4, EV.isi_bool_5, EV.isi_bool_6, EV.isi_bool_7, EV.isi_bool_8, EV.isi_str_0, EV.isi_str_1, EV.isi_str_2, EV.isi_str_3, EV.isi_str_4, EV.isi_str_5, EV.isi_str_6, EV.isi_str_7, EV.isi_str_8, EV.isi_none_0, EV.isi_none_1, EV.isi_none_2, EV.isi_none_3, EV.isi_none_4, EV.isi_none_5, EV.isi_none_6, EV.isi_none_7, EV.isi_none_8, EV.isi_tuple_0, EV.isi_tuple_1, EV.isi_tuple_2, EV.isi_tuple_3, EV.isi_tuple_4, EV.isi_tuple_5, EV.isi_tuple_6, EV.isi_tuple_7, EV.isi_tuple_8, EV.isi_list_0, EV.isi_list_1, EV.isi_list_2, EV.isi_list_3, EV.isi_list_4, EV.isi_list_5, EV.isi_list_6, EV.isi_list_7, EV.isi_list_8, EV.f_nm, EV.f_nil, EV.o_eqb, EV.o_neb, EV.o_isn, EV.o_isnn, EV.o_leq0, EV.o_lne0, EV.in_none, EV.in_int, EV.in_bool, EV.in_str, EV.in_tup, EV.in_lst, EV.td_v, SE_nx, SE_rtv, EV.sc_nil, EV.sc_none, EV.sc_v, EV.sc_r, EV.sc_s, EV.sc_x, Bool.not_eq_true', Bool.not_eq_false', EV.goB_a, EV.goB_o, EV.bo_t, EV.bo_l, EV.bo_nil, EV.bo_nm, EV.bo_tt, EV.bo_tl, EV.wipe_nil, EV.wipe_cons, Nat.reduceAdd, Nat.zero_add, Int.cast_ofNat_Int, Int.reduceEq, forall_const, not_true_eq_false, not_false_eq_true, false_implies, implies_true, and_true, true_and, decide_true, decide_false, Bool.false_eq_true, Bool.true_eq_false, eq_self, reduceCtorEq, mat]
            exact ⟨fun h5 => by simp only [if_pos h5], fun h5 => by simp only [if_neg h5]⟩
          · rintro ρ S3 ⟨rfl, rfl⟩
            have a1 : ∀ S, callN G wl (k + 3) "_law_times" [I f, .v (T3 (x, y, 1)), .v (T3 (mat f (x, y, 1)))] S = .ok (.v (T3 (prd f (x, y, 1) (mat f (x, y, 1))))) S := fun S => e_ltimes hw hf su sv u0 v0 (by omega) (by omega) (by omega) (by omega)
            have a2 : ∀ S, callN G wl (k + 3) "_law_sign" [I f, .v (T3 (x - 1, y, 1))] S = .ok (I (sg3 f (x - 1, y, 1))) S := fun S => e_lsign hf su1 (by omega)
            have a3 : ∀ S, callN G wl (k + 3) "_law_sign" [I f, .v (T3 (mat f (x, y, 1)))] S = .ok (I (sg3 f (mat f (x, y, 1)))) S := fun S => e_lsign hf sv (by omega)
            have b1 : ∀ l : Int × Int × Int, Sn 10 1 l ∧ l.2.2 ≠ 0 → ∀ S, callN G wl (k + 3) "_law_minus" [.v (T3 (x, y, 1)), .v (T3 l)] S = .ok (.v (T3 (sum2 (x, y, 1) (opp l)))) S := fun l h S => e_lminus hw su h.1 u0 h.2 (by omega) (by omega) (by omega) (by omega)
            have b2 : ∀ l : Int × Int × Int, Sn 10 1 l ∧ l.2.2 ≠ 0 → ∀ S, callN G wl (k + 3) "_law_sign" [I f, .v (T3 (sum2 (x, y, 1) (opp l)))] S = .ok (I (cmp3 f (x, y, 1) l)) S := fun l h S => e_lsign hf (dif_sn su h.1 u0 h.2) (by omega)
            have ab : ∀ z : Int, (if z < 0 then -z else z) = 1 ↔ z.natAbs = 1 := fun z => by split <;> omega
            cases o1 with
            | none =>
              cases o2 with
              | none =>
                simp only [EV.w_loc, EV.w_at0, EV.w_atS, EV.w_lit, EV.w_op, EV.w_neg, EV.w_negR, EV.w_not, EV.w_cmp, EV.w_ite, EV.w_evT, EV.w_tup, EV.w_lst, EV.w_ix, EV.w_bi, EV.w_isi, EV.w_rev, EV.w_bop, EV.w_b1, EV.w_b2, EV.w_fld, EV.w_fldR, EV.w_call, EV.w_mth, EV.w_enil, EV.w_econs, EV.w_ono, EV.w_oso, EV.w_intO, EV.w_slc, EV.w_cno, EV.w_cso, EV.w_dix, EV.o_add, EV.o_sub, EV.o_mul, EV.o_div, EV.o_mod, EV.o_lt, EV.o_le, EV.o_gt, EV.o_ge, EV.o_eq, EV.o_ne, EV.o_tb, EV.o_ti, W_ok, W_ex, WS_ok, WS_ex, EV.s_nil, EV.s_cons, EV.s_asgN, EV.s_asgT, EV.s_par2, EV.s_par3, EV.s_set, EV.s_ex, EV.s_iff, EV.s_for, EV.s_wh, EV.s_ret, EV.s_retN, EV.s_rai, EV.rai_v, EV.s_try, EV.s_hnil, EV.s_pas, EV.s_brk, EV.s_cnt, NX_nx, NX_rt, NX_bk, NX_ct, JN_nx, JN_rt, JN_bk, JN_ct, TN_nx, TN_rt, TN_bk, TN_ct, RQ_nx, RQ_rt, EV.gc_v, EV.b_gcd, EV.b_abs, EV.b_max, EV.b_min, EV.b_int, EV.b_intb, EV.b_lens, EV.b_lent, EV.b_lenl, EV.b_isqrt, EV.b_listt, EV.b_listl, EV.t_1, EV.t_2, EV.t_3, EV.t_4, EV.ds_1, EV.ds_2, EV.ds_3, EV.ds_4, EV.l_0, EV.l_1, EV.l_2, EV.l_3, EV.l_4, EV.l_5, EV.l_6, EV.lm_2, EV.i_seq, EV.i_tup, EV.i_lst, EV.i_scr, EV.i_rng, EV.i_rngR, EV.i_rng2, EV.i_rng2R, List.set_cons_zero, List.set_cons_succ, List.map_cons, List.map_nil, List.cons_append, List.nil_append, List.replicate, List.length_cons, List.length_nil, List.take_length, decide_eq_true_eq, decide_eq_false_iff_not, okv, okr, oks, Bool.not_true, Bool.not_false, EV.x_t0, EV.x_t1, EV.x_t2, EV.x_l0, EV.x_l1, EV.x_l2, EV.c_20, EV.c_32, EV.isi_int_0, EV.isi_int_1, EV.isi_int_2, EV.isi_int_3, EV.isi_int_4, EV.isi_int_5, EV.isi_int_6, EV.isi_int_7, EV.isi_int_8, EV.isi_bool_0, EV.isi_bool_1, EV.isi_bool_2, EV.isi_bool_3, EV.isi_bool_4, EV.isi_bool_5, EV.isi_bool_6, EV.isi_bool_7, EV.isi_bool_8, EV.isi_str_0, EV.isi_str_1, EV.isi_str_2, EV.isi_str_3, EV.isi_str_4, EV.isi_str_5, EV.isi_str_6, EV.isi_str_7, EV.isi_str_8, EV.isi_none_0, EV.isi_none_1, EV.isi_none_2, EV.isi_none_3, EV.isi_none_4, EV.isi_none_5, EV.isi_none_6, EV.isi_none_7, EV.isi_none_8, EV.isi_tuple_0, EV.isi_tuple_1, EV.isi_tuple_2, EV.isi_tuple_3, EV.isi_tuple_4, EV.isi_tuple_5, EV.isi_tuple_6, EV.isi_tuple_7, EV.isi_tuple_8, EV.isi_list_0, EV.isi_list_1, EV.isi_list_2, EV.isi_list_3, EV.isi_list_4, EV.isi_list_5, EV.isi_list_6, EV.isi_list_7, EV.isi_list_8, EV.f_nm, EV.f_nil, EV.o_eqb, EV.o_neb, EV.o_isn, EV.o_isnn, EV.o_leq0, EV.o_lne0, EV.in_none, EV.in_int, EV.in_bool, EV.in_str, EV.in_tup, EV.in_lst, EV.td_v, SE_nx, SE_rtv, EV.sc_nil, EV.sc_none, EV.sc_v, EV.sc_r, EV.sc_s, EV.sc_x, Bool.not_eq_true', Bool.not_eq_false', EV.goB_a, EV.goB_o, EV.bo_t, EV.bo_l, EV.bo_nil, EV.bo_nm, EV.bo_tt, EV.bo_tl, EV.wipe_nil, EV.wipe_cons, Nat.reduceAdd, Nat.zero_add, Int.cast_ofNat_Int, Int.reduceEq, forall_const, not_true_eq_false, not_false_eq_true, false_implies, implies_true, and_true, true_and, decide_true, decide_false, Bool.false_eq_true, Bool.true_eq_false, eq_self, reduceCtorEq, c_is_integer_0, c_lowest_0, c_is_lowest_0, c_sum_of_two_0, c_opposite_0, c_difference_0, c_times_integer_0, c_rooted_0, c_sign_of_0, c_order_0, c_floor_of_number_0, c_check_kind_0, c_check_number_0, c_check_count_0, c_is_number_0, c_sign_0, c_sign_1, c_compared_0, c_compared_1, c_floor_of_0, c_floor_of_1, c_about_0, c_about_1, c_unit_0, c_unit_1, c_stretch_unit_0, c_stretch_unit_1, c__law_deck_0, c__law_take_0, c__law_gcd_0, c__law_num_0, c__law_plus_0, c__law_minus_0, c__law_times_0, c__law_sign_0, c__law_same_0, c__law_number_0, c__law_near_0, c__law_drawn_0, c__law_is_floor_0, c__law_right_0, c__law_units_0, oD_none, oD_some, a1, a2, a3, ab]
                repeat' (first | intro _ | apply And.intro)
                all_goals first | contradiction | exact fin (some (x, y, 1), some (x, y, 1)) (by simp [stepU, smaller, *]) | exact fin (some (x, y, 1), none) (by simp [stepU, smaller, *]) | exact fin (none, some (x, y, 1)) (by simp [stepU, smaller, *]) | exact fin (none, none) (by simp [stepU, smaller, *])
              | some h =>
                have c1 := b1 h (s2' h rfl)
                have c2 := b2 h (s2' h rfl)
                simp only [EV.w_loc, EV.w_at0, EV.w_atS, EV.w_lit, EV.w_op, EV.w_neg, EV.w_negR, EV.w_not, EV.w_cmp, EV.w_ite, EV.w_evT, EV.w_tup, EV.w_lst, EV.w_ix, EV.w_bi, EV.w_isi, EV.w_rev, EV.w_bop, EV.w_b1, EV.w_b2, EV.w_fld, EV.w_fldR, EV.w_call, EV.w_mth, EV.w_enil, EV.w_econs, EV.w_ono, EV.w_oso, EV.w_intO, EV.w_slc, EV.w_cno, EV.w_cso, EV.w_dix, EV.o_add, EV.o_sub, EV.o_mul, EV.o_div, EV.o_mod, EV.o_lt, EV.o_le, EV.o_gt, EV.o_ge, EV.o_eq, EV.o_ne, EV.o_tb, EV.o_ti, W_ok, W_ex, WS_ok, WS_ex, EV.s_nil, EV.s_cons, EV.s_asgN, EV.s_asgT, EV.s_par2, EV.s_par3, EV.s_set, EV.s_ex, EV.s_iff, EV.s_for, EV.s_wh, EV.s_ret, EV.s_retN, EV.s_rai, EV.rai_v, EV.s_try, EV.s_hnil, EV.s_pas, EV.s_brk, EV.s_cnt, NX_nx, NX_rt, NX_bk, NX_ct, JN_nx, JN_rt, JN_bk, JN_ct, TN_nx, TN_rt, TN_bk, TN_ct, RQ_nx, RQ_rt, EV.gc_v, EV.b_gcd, EV.b_abs, EV.b_max, EV.b_min, EV.b_int, EV.b_intb, EV.b_lens, EV.b_lent, EV.b_lenl, EV.b_isqrt, EV.b_listt, EV.b_listl, EV.t_1, EV.t_2, EV.t_3, EV.t_4, EV.ds_1, EV.ds_2, EV.ds_3, EV.ds_4, EV.l_0, EV.l_1, EV.l_2, EV.l_3, EV.l_4, EV.l_5, EV.l_6, EV.lm_2, EV.i_seq, EV.i_tup, EV.i_lst, EV.i_scr, EV.i_rng, EV.i_rngR, EV.i_rng2, EV.i_rng2R, List.set_cons_zero, List.set_cons_succ, List.map_cons, List.map_nil, List.cons_append, List.nil_append, List.replicate, List.length_cons, List.length_nil, List.take_length, decide_eq_true_eq, decide_eq_false_iff_not, okv, okr, oks, Bool.not_true, Bool.not_false, EV.x_t0, EV.x_t1, EV.x_t2, EV.x_l0, EV.x_l1, EV.x_l2, EV.c_20, EV.c_32, EV.isi_int_0, EV.isi_int_1, EV.isi_int_2, EV.isi_int_3, EV.isi_int_4, EV.isi_int_5, EV.isi_int_6, EV.isi_int_7, EV.isi_int_8, EV.isi_bool_0, EV.isi_bool_1, EV.isi_bool_2, EV.isi_bool_3, EV.isi_bool_4, EV.isi_bool_5, EV.isi_bool_6, EV.isi_bool_7, EV.isi_bool_8, EV.isi_str_0, EV.isi_str_1, EV.isi_str_2, EV.isi_str_3, EV.isi_str_4, EV.isi_str_5, EV.isi_str_6, EV.isi_str_7, EV.isi_str_8, EV.isi_none_0, EV.isi_none_1, EV.isi_none_2, EV.isi_none_3, EV.isi_none_4, EV.isi_none_5, EV.isi_none_6, EV.isi_none_7, EV.isi_none_8, EV.isi_tuple_0, EV.isi_tuple_1, EV.isi_tuple_2, EV.isi_tuple_3, EV.isi_tuple_4, EV.isi_tuple_5, EV.isi_tuple_6, EV.isi_tuple_7, EV.isi_tuple_8, EV.isi_list_0, EV.isi_list_1, EV.isi_list_2, EV.isi_list_3, EV.isi_list_4, EV.isi_list_5, EV.isi_list_6, EV.isi_list_7, EV.isi_list_8, EV.f_nm, EV.f_nil, EV.o_eqb, EV.o_neb, EV.o_isn, EV.o_isnn, EV.o_leq0, EV.o_lne0, EV.in_none, EV.in_int, EV.in_bool, EV.in_str, EV.in_tup, EV.in_lst, EV.td_v, SE_nx, SE_rtv, EV.sc_nil, EV.sc_none, EV.sc_v, EV.sc_r, EV.sc_s, EV.sc_x, Bool.not_eq_true', Bool.not_eq_false', EV.goB_a, EV.goB_o, EV.bo_t, EV.bo_l, EV.bo_nil, EV.bo_nm, EV.bo_tt, EV.bo_tl, EV.wipe_nil, EV.wipe_cons, Nat.reduceAdd, Nat.zero_add, Int.cast_ofNat_Int, Int.reduceEq, forall_const, not_true_eq_false, not_false_eq_true, false_implies, implies_true, and_true, true_and, decide_true, decide_false, Bool.false_eq_true, Bool.true_eq_false, eq_self, reduceCtorEq, c_is_integer_0, c_lowest_0, c_is_lowest_0, c_sum_of_two_0, c_opposite_0, c_difference_0, c_times_integer_0, c_rooted_0, c_sign_of_0, c_order_0, c_floor_of_number_0, c_check_kind_0, c_check_number_0, c_check_count_0, c_is_number_0, c_sign_0, c_sign_1, c_compared_0, c_compared_1, c_floor_of_0, c_floor_of_1, c_about_0, c_about_1, c_unit_0, c_unit_1, c_stretch_unit_0, c_stretch_unit_1, c__law_deck_0, c__law_take_0, c__law_gcd_0, c__law_num_0, c__law_plus_0, c__law_minus_0, c__law_times_0, c__law_sign_0, c__law_same_0, c__law_number_0, c__law_near_0, c__law_drawn_0, c__law_is_floor_0, c__law_right_0, c__law_units_0, oD_none, oD_some, a1, a2, a3, ab, c1, c2]
                repeat' (first | intro _ | apply And.intro)
                all_goals first | contradiction | exact fin (some (x, y, 1), some (x, y, 1)) (by simp [stepU, smaller, *]) | exact fin (some (x, y, 1), some h) (by simp [stepU, smaller, *]) | exact fin (none, some (x, y, 1)) (by simp [stepU, smaller, *]) | exact fin (none, some h) (by simp [stepU, smaller, *])
            | some l =>
              have d1 := b1 l (s1' l rfl)
              have d2 := b2 l (s1' l rfl)
              cases o2 with
              | none =>
                simp only [EV.w_loc, EV.w_at0, EV.w_atS, EV.w_lit, EV.w_op, EV.w_neg, EV.w_negR, EV.w_not, EV.w_cmp, EV.w_ite, EV.w_evT, EV.w_tup, EV.w_lst, EV.w_ix, EV.w_bi, EV.w_isi, EV.w_rev, EV.w_bop, EV.w_b1, EV.w_b2, EV.w_fld, EV.w_fldR, EV.w_call, EV.w_mth, EV.w_enil, EV.w_econs, EV.w_ono, EV.w_oso, EV.w_intO, EV.w_slc, EV.w_cno, EV.w_cso, EV.w_dix, EV.o_add, EV.o_sub, EV.o_mul, EV.o_div, EV.o_mod, EV.o_lt, EV.o_le, EV.o_gt, EV.o_ge, EV.o_eq, EV.o_ne, EV.o_tb, EV.o_ti, W_ok, W_ex, WS_ok, WS_ex, EV.s_nil, EV.s_cons, EV.s_asgN, EV.s_asgT, EV.s_par2, EV.s_par3, EV.s_set, EV.s_ex, EV.s_iff, EV.s_for, EV.s_wh, EV.s_ret, EV.s_retN, EV.s_rai, EV.rai_v, EV.s_try, EV.s_hnil, EV.s_pas, EV.s_brk, EV.s_cnt, NX_nx, NX_rt, NX_bk, NX_ct, JN_nx, JN_rt, JN_bk, JN_ct, TN_nx, TN_rt, TN_bk, TN_ct, RQ_nx, RQ_rt, EV.gc_v, EV.b_gcd, EV.b_abs, EV.b_max, EV.b_min, EV.b_int, EV.b_intb, EV.b_lens, EV.b_lent, EV.b_lenl, EV.b_isqrt, EV.b_listt, EV.b_listl, EV.t_1, EV.t_2, EV.t_3, EV.t_4, EV.ds_1, EV.ds_2, EV.ds_3, EV.ds_4, EV.l_0, EV.l_1, EV.l_2, EV.l_3, EV.l_4, EV.l_5, EV.l_6, EV.lm_2, EV.i_seq, EV.i_tup, EV.i_lst, EV.i_scr, EV.i_rng, EV.i_rngR, EV.i_rng2, EV.i_rng2R, List.set_cons_zero, List.set_cons_succ, List.map_cons, List.map_nil, List.cons_append, List.nil_append, List.replicate, List.length_cons, List.length_nil, List.take_length, decide_eq_true_eq, decide_eq_false_iff_not, okv, okr, oks, Bool.not_true, Bool.not_false, EV.x_t0, EV.x_t1, EV.x_t2, EV.x_l0, EV.x_l1, EV.x_l2, EV.c_20, EV.c_32, EV.isi_int_0, EV.isi_int_1, EV.isi_int_2, EV.isi_int_3, EV.isi_int_4, EV.isi_int_5, EV.isi_int_6, EV.isi_int_7, EV.isi_int_8, EV.isi_bool_0, EV.isi_bool_1, EV.isi_bool_2, EV.isi_bool_3, EV.isi_bool_4, EV.isi_bool_5, EV.isi_bool_6, EV.isi_bool_7, EV.isi_bool_8, EV.isi_str_0, EV.isi_str_1, EV.isi_str_2, EV.isi_str_3, EV.isi_str_4, EV.isi_str_5, EV.isi_str_6, EV.isi_str_7, EV.isi_str_8, EV.isi_none_0, EV.isi_none_1, EV.isi_none_2, EV.isi_none_3, EV.isi_none_4, EV.isi_none_5, EV.isi_none_6, EV.isi_none_7, EV.isi_none_8, EV.isi_tuple_0, EV.isi_tuple_1, EV.isi_tuple_2, EV.isi_tuple_3, EV.isi_tuple_4, EV.isi_tuple_5, EV.isi_tuple_6, EV.isi_tuple_7, EV.isi_tuple_8, EV.isi_list_0, EV.isi_list_1, EV.isi_list_2, EV.isi_list_3, EV.isi_list_4, EV.isi_list_5, EV.isi_list_6, EV.isi_list_7, EV.isi_list_8, EV.f_nm, EV.f_nil, EV.o_eqb, EV.o_neb, EV.o_isn, EV.o_isnn, EV.o_leq0, EV.o_lne0, EV.in_none, EV.in_int, EV.in_bool, EV.in_str, EV.in_tup, EV.in_lst, EV.td_v, SE_nx, SE_rtv, EV.sc_nil, EV.sc_none, EV.sc_v, EV.sc_r, EV.sc_s, EV.sc_x, Bool.not_eq_true', Bool.not_eq_false', EV.goB_a, EV.goB_o, EV.bo_t, EV.bo_l, EV.bo_nil, EV.bo_nm, EV.bo_tt, EV.bo_tl, EV.wipe_nil, EV.wipe_cons, Nat.reduceAdd, Nat.zero_add, Int.cast_ofNat_Int, Int.reduceEq, forall_const, not_true_eq_false, not_false_eq_true, false_implies, implies_true, and_true, true_and, decide_true, decide_false, Bool.false_eq_true, Bool.true_eq_false, eq_self, reduceCtorEq, c_is_integer_0, c_lowest_0, c_is_lowest_0, c_sum_of_two_0, c_opposite_0, c_difference_0, c_times_integer_0, c_rooted_0, c_sign_of_0, c_order_0, c_floor_of_number_0, c_check_kind_0, c_check_number_0, c_check_count_0, c_is_number_0, c_sign_0, c_sign_1, c_compared_0, c_compared_1, c_floor_of_0, c_floor_of_1, c_about_0, c_about_1, c_unit_0, c_unit_1, c_stretch_unit_0, c_stretch_unit_1, c__law_deck_0, c__law_take_0, c__law_gcd_0, c__law_num_0, c__law_plus_0, c__law_minus_0, c__law_times_0, c__law_sign_0, c__law_same_0, c__law_number_0, c__law_near_0, c__law_drawn_0, c__law_is_floor_0, c__law_right_0, c__law_units_0, oD_none, oD_some, a1, a2, a3, ab, d1, d2]
                repeat' (first | intro _ | apply And.intro)
                all_goals first | contradiction | exact fin (some (x, y, 1), some (x, y, 1)) (by simp [stepU, smaller, *]) | exact fin (some (x, y, 1), none) (by simp [stepU, smaller, *]) | exact fin (some l, some (x, y, 1)) (by simp [stepU, smaller, *]) | exact fin (some l, none) (by simp [stepU, smaller, *])
              | some h =>
                have c1 := b1 h (s2' h rfl)
                have c2 := b2 h (s2' h rfl)
                simp only [EV.w_loc, EV.w_at0, EV.w_atS, EV.w_lit, EV.w_op, EV.w_neg, EV.w_negR, EV.w_not, EV.w_cmp, EV.w_ite, EV.w_evT, EV.w_tup, EV.w_lst, EV.w_ix, EV.w_bi, EV.w_isi, EV.w_rev, EV.w_bop, EV.w_b1, EV.w_b2, EV.w_fld, EV.w_fldR, EV.w_call, EV.w_mth, EV.w_enil, EV.w_econs, EV.w_ono, EV.w_oso, EV.w_intO, EV.w_slc, EV.w_cno, EV.w_cso, EV.w_dix, EV.o_add, EV.o_sub, EV.o_mul, EV.o_div, EV.o_mod, EV.o_lt, EV.o_le, EV.o_gt, EV.o_ge, EV.o_eq, EV.o_ne, EV.o_tb, EV.o_ti, W_ok, W_ex, WS_ok, WS_ex, EV.s_nil, EV.s_cons, EV.s_asgN, EV.s_asgT, EV.s_par2, EV.s_par3, EV.s_set, EV.s_ex, EV.s_iff, EV.s_for, EV.s_wh, EV.s_ret, EV.s_retN, EV.s_rai, EV.rai_v, EV.s_try, EV.s_hnil, EV.s_pas, EV.s_brk, EV.s_cnt, NX_nx, NX_rt, NX_bk, NX_ct, JN_nx, JN_rt, JN_bk, JN_ct, TN_nx, TN_rt, TN_bk, TN_ct, RQ_nx, RQ_rt, EV.gc_v, EV.b_gcd, EV.b_abs, EV.b_max, EV.b_min, EV.b_int, EV.b_intb, EV.b_lens, EV.b_lent, EV.b_lenl, EV.b_isqrt, EV.b_listt, EV.b_listl, EV.t_1, EV.t_2, EV.t_3, EV.t_4, EV.ds_1, EV.ds_2, EV.ds_3, EV.ds_4, EV.l_0, EV.l_1, EV.l_2, EV.l_3, EV.l_4, EV.l_5, EV.l_6, EV.lm_2, EV.i_seq, EV.i_tup, EV.i_lst, EV.i_scr, EV.i_rng, EV.i_rngR, EV.i_rng2, EV.i_rng2R, List.set_cons_zero, List.set_cons_succ, List.map_cons, List.map_nil, List.cons_append, List.nil_append, List.replicate, List.length_cons, List.length_nil, List.take_length, decide_eq_true_eq, decide_eq_false_iff_not, okv, okr, oks, Bool.not_true, Bool.not_false, EV.x_t0, EV.x_t1, EV.x_t2, EV.x_l0, EV.x_l1, EV.x_l2, EV.c_20, EV.c_32, EV.isi_int_0, EV.isi_int_1, EV.isi_int_2, EV.isi_int_3, EV.isi_int_4, EV.isi_int_5, EV.isi_int_6, EV.isi_int_7, EV.isi_int_8, EV.isi_bool_0, EV.isi_bool_1, EV.isi_bool_2, EV.isi_bool_3, EV.isi_bool_4, EV.isi_bool_5, EV.isi_bool_6, EV.isi_bool_7, EV.isi_bool_8, EV.isi_str_0, EV.isi_str_1, EV.isi_str_2, EV.isi_str_3, EV.isi_str_4, EV.isi_str_5, EV.isi_str_6, EV.isi_str_7, EV.isi_str_8, EV.isi_none_0, EV.isi_none_1, EV.isi_none_2, EV.isi_none_3, EV.isi_none_4, EV.isi_none_5, EV.isi_none_6, EV.isi_none_7, EV.isi_none_8, EV.isi_tuple_0, EV.isi_tuple_1, EV.isi_tuple_2, EV.isi_tuple_3, EV.isi_tuple_4, EV.isi_tuple_5, EV.isi_tuple_6, EV.isi_tuple_7, EV.isi_tuple_8, EV.isi_list_0, EV.isi_list_1, EV.isi_list_2, EV.isi_list_3, EV.isi_list_4, EV.isi_list_5, EV.isi_list_6, EV.isi_list_7, EV.isi_list_8, EV.f_nm, EV.f_nil, EV.o_eqb, EV.o_neb, EV.o_isn, EV.o_isnn, EV.o_leq0, EV.o_lne0, EV.in_none, EV.in_int, EV.in_bool, EV.in_str, EV.in_tup, EV.in_lst, EV.td_v, SE_nx, SE_rtv, EV.sc_nil, EV.sc_none, EV.sc_v, EV.sc_r, EV.sc_s, EV.sc_x, Bool.not_eq_true', Bool.not_eq_false', EV.goB_a, EV.goB_o, EV.bo_t, EV.bo_l, EV.bo_nil, EV.bo_nm, EV.bo_tt, EV.bo_tl, EV.wipe_nil, EV.wipe_cons, Nat.reduceAdd, Nat.zero_add, Int.cast_ofNat_Int, Int.reduceEq, forall_const, not_true_eq_false, not_false_eq_true, false_implies, implies_true, and_true, true_and, decide_true, decide_false, Bool.false_eq_true, Bool.true_eq_false, eq_self, reduceCtorEq, c_is_integer_0, c_lowest_0, c_is_lowest_0, c_sum_of_two_0, c_opposite_0, c_difference_0, c_times_integer_0, c_rooted_0, c_sign_of_0, c_order_0, c_floor_of_number_0, c_check_kind_0, c_check_number_0, c_check_count_0, c_is_number_0, c_sign_0, c_sign_1, c_compared_0, c_compared_1, c_floor_of_0, c_floor_of_1, c_about_0, c_about_1, c_unit_0, c_unit_1, c_stretch_unit_0, c_stretch_unit_1, c__law_deck_0, c__law_take_0, c__law_gcd_0, c__law_num_0, c__law_plus_0, c__law_minus_0, c__law_times_0, c__law_sign_0, c__law_same_0, c__law_number_0, c__law_near_0, c__law_drawn_0, c__law_is_floor_0, c__law_right_0, c__law_units_0, oD_none, oD_some, a1, a2, a3, ab, c1, c2, d1, d2]
                repeat' (first | intro _ | apply And.intro)
                all_goals first | contradiction | exact fin (some (x, y, 1), some (x, y, 1)) (by simp [stepU, smaller, *]) | exact fin (some (x, y, 1), some h) (by simp [stepU, smaller, *]) | exact fin (some l, some (x, y, 1)) (by simp [stepU, smaller, *]) | exact fin (some l, some h) (by simp [stepU, smaller, *])
      · rintro ρ S'' ⟨ys, st', b, c, d, e, hy, hds, rfl, s1', s2', hf2, rfl⟩
        cases ys with
        | cons y ys => cases hds
        | nil =>
          simp only [List.foldl_nil] at hf2
          refine ⟨xs, st', _, _, _, _, _, fun x h => hx x (List.mem_cons_of_mem _ h), rfl, rfl, s1', s2', ?_, rfl⟩
          rw [hf2]
          exact hf'
      · exact ⟨rows9, st, _, _, _, _, fun y h => h, rfl, rfl, s1, s2, rfl, rfl⟩
  · rintro ρ S' ⟨xs, st, a, b, c, d, e, hx, hds, rfl, s1, s2, hf', rfl⟩
    cases xs with
    | cons y ys => cases hds
    | nil =>
      simp only [List.foldl_nil] at hf'
      subst hf'
      simp only [EV.w_loc, EV.w_at0, EV.w_atS, EV.w_lit, EV.w_op, EV.w_neg, EV.w_negR, EV.w_not, EV.w_cmp, EV.w_ite, EV.w_evT, EV.w_tup, EV.w_lst, EV.w_ix, EV.w_bi, EV.w_isi, EV.w_rev, EV.w_bop, EV.w_b1, EV.w_b2, EV.w_fld, EV.w_fldR, EV.w_call, EV.w_mth, EV.w_enil, EV.w_econs, EV.w_ono, EV.w_oso, EV.w_intO, EV.w_slc, EV.w_cno, EV.w_cso, EV.w_dix, EV.o_add, EV.o_sub, EV.o_mul, EV.o_div, EV.o_mod, EV.o_lt, EV.o_le, EV.o_gt, EV.o_ge, EV.o_eq, EV.o_ne, EV.o_tb, EV.o_ti, W_ok, W_ex, WS_ok, WS_ex, EV.s_nil, EV.s_cons, EV.s_asgN, EV.s_asgT, EV.s_par2, EV.s_par3, EV.s_set, EV.s_ex, EV.s_iff, EV.s_for, EV.s_wh, EV.s_ret, EV.s_retN, EV.s_rai, EV.rai_v, EV.s_try, EV.s_hnil, EV.s_pas, EV.s_brk, EV.s_cnt, NX_nx, NX_rt, NX_bk, NX_ct, JN_nx, JN_rt, JN_bk, JN_ct, TN_nx, TN_rt, TN_bk, TN_ct, RQ_nx, RQ_rt, EV.gc_v, EV.b_gcd, EV.b_abs, EV.b_max, EV.b_min, EV.b_int, EV.b_intb, EV.b_lens, EV.b_lent, EV.b_lenl, EV.b_isqrt, EV.b_listt, EV.b_listl, EV.t_1, EV.t_2, EV.t_3, EV.t_4, EV.ds_1, EV.ds_2, EV.ds_3, EV.ds_4, EV.l_0, EV.l_1, EV.l_2, EV.l_3, EV.l_4, EV.l_5, EV.l_6, EV.lm_2, EV.i_seq, EV.i_tup, EV.i_lst, EV.i_scr, EV.i_rng, EV.i_rngR, EV.i_rng2, EV.i_rng2R, List.set_cons_zero, List.set_cons_succ, List.map_cons, List.map_nil, List.cons_append, List.nil_append, List.replicate, List.length_cons, List.length_nil, List.take_length, decide_eq_true_eq, decide_eq_false_iff_not, okv, okr, oks, Bool.not_true, Bool.not_false, EV.x_t0, EV.x_t1, EV.x_t2, EV.x_l0, EV.x_l1, EV.x_l2, EV.c_20, EV.c_32, EV.isi_int_0, EV.isi_int_1, EV.isi_int_2, EV.isi_int_3, EV.isi_int_4, EV.isi_int_5, EV.isi_int_6, EV.isi_int_7, EV.isi_int_8, EV.isi_bool_0, EV.isi_bool_1, EV.isi_bool_2, EV.isi_bool_3, EV.isi_bool_4, EV.isi_bool_5, EV.isi_bool_6, EV.isi_bool_7, EV.isi_bool_8, EV.isi_str_0, EV.isi_str_1, EV.isi_str_2, EV.isi_str_3, EV.isi_str_4, EV.isi_str_5, EV.isi_str_6, EV.isi_str_7, EV.isi_str_8, EV.isi_none_0, EV.isi_none_1, EV.isi_none_2, EV.isi_none_3, EV.isi_none_4, EV.isi_none_5, EV.isi_none_6, EV.isi_none_7, EV.isi_none_8, EV.isi_tuple_0, EV.isi_tuple_1, EV.isi_tuple_2, EV.isi_tuple_3, EV.isi_tuple_4, EV.isi_tuple_5, EV.isi_tuple_6, EV.isi_tuple_7, EV.isi_tuple_8, EV.isi_list_0, EV.isi_list_1, EV.isi_list_2, EV.isi_list_3, EV.isi_list_4, EV.isi_list_5, EV.isi_list_6, EV.isi_list_7, EV.isi_list_8, EV.f_nm, EV.f_nil, EV.o_eqb, EV.o_neb, EV.o_isn, EV.o_isnn, EV.o_leq0, EV.o_lne0, EV.in_none, EV.in_int, EV.in_bool, EV.in_str, EV.in_tup, EV.in_lst, EV.td_v, SE_nx, SE_rtv, EV.sc_nil, EV.sc_none, EV.sc_v, EV.sc_r, EV.sc_s, EV.sc_x, Bool.not_eq_true', Bool.not_eq_false', EV.goB_a, EV.goB_o, EV.bo_t, EV.bo_l, EV.bo_nil, EV.bo_nm, EV.bo_tt, EV.bo_tl, EV.wipe_nil, EV.wipe_cons, Nat.reduceAdd, Nat.zero_add, Int.cast_ofNat_Int, Int.reduceEq, forall_const, not_true_eq_false, not_false_eq_true, false_implies, implies_true, and_true, true_and, decide_true, decide_false, Bool.false_eq_true, Bool.true_eq_false, eq_self, reduceCtorEq, all_un hf, oD_some]
  · exact ⟨rows9, (none, none), _, _, _, _, _, fun x h => h, rfl, rfl, (fun p e => nomatch e), (fun p e => nomatch e), rfl, rfl⟩
theorem law_w (hw : Wl wl) (ns : List Int) : W (callN G wl (0 + 8 + 1) "law" [.s ns] []) (fun r _ => r = B true) (fun _ _ _ => False) := by
  rw [w_fun lk_law rfl]
  simp only [d_law, EV.w_loc, EV.w_at0, EV.w_atS, EV.w_lit, EV.w_op, EV.w_neg, EV.w_negR, EV.w_not, EV.w_cmp, EV.w_ite, EV.w_evT, EV.w_tup, EV.w_lst, EV.w_ix, EV.w_bi, EV.w_isi, EV.w_rev, EV.w_bop, EV.w_b1, EV.w_b2, EV.w_fld, EV.w_fldR, EV.w_call, EV.w_mth, EV.w_enil, EV.w_econs, EV.w_ono, EV.w_oso, EV.w_intO, EV.w_slc, EV.w_cno, EV.w_cso, EV.w_dix, EV.o_add, EV.o_sub, EV.o_mul, EV.o_div, EV.o_mod, EV.o_lt, EV.o_le, EV.o_gt, EV.o_ge, EV.o_eq, EV.o_ne, EV.o_tb, EV.o_ti, W_ok, W_ex, WS_ok, WS_ex, EV.s_nil, EV.s_cons, EV.s_asgN, EV.s_asgT, EV.s_par2, EV.s_par3, EV.s_set, EV.s_ex, EV.s_for, EV.s_wh, EV.s_ret, EV.s_retN, EV.s_rai, EV.rai_v, EV.s_try, EV.s_hnil, EV.s_pas, EV.s_brk, EV.s_cnt, NX_nx, NX_rt, NX_bk, NX_ct, JN_nx, JN_rt, JN_bk, JN_ct, TN_nx, TN_rt, TN_bk, TN_ct, RQ_nx, RQ_rt, EV.gc_v, EV.b_gcd, EV.b_abs, EV.b_max, EV.b_min, EV.b_int, EV.b_intb, EV.b_lens, EV.b_lent, EV.b_lenl, EV.b_isqrt, EV.b_listt, EV.b_listl, EV.t_1, EV.t_2, EV.t_3, EV.t_4, EV.ds_1, EV.ds_2, EV.ds_3, EV.ds_4, EV.l_0, EV.l_1, EV.l_2, EV.l_3, EV.l_4, EV.l_5, EV.l_6, EV.lm_2, EV.i_seq, EV.i_tup, EV.i_lst, EV.i_scr, EV.i_rng, EV.i_rngR, EV.i_rng2, EV.i_rng2R, List.set_cons_zero, List.set_cons_succ, List.map_cons, List.map_nil, List.cons_append, List.nil_append, List.replicate, List.length_cons, List.length_nil, List.take_length, decide_eq_true_eq, decide_eq_false_iff_not, okv, okr, oks, Bool.not_true, Bool.not_false, EV.x_t0, EV.x_t1, EV.x_t2, EV.x_l0, EV.x_l1, EV.x_l2, EV.c_20, EV.c_32, EV.isi_int_0, EV.isi_int_1, EV.isi_int_2, EV.isi_int_3, EV.isi_int_4, EV.isi_int_5, EV.isi_int_6, EV.isi_int_7, EV.isi_int_8, EV.isi_bool_0, EV.isi_bool_1, EV.isi_bool_2, EV.isi_bool_3, EV.isi_bool_4, EV.isi_bool_5, EV.isi_bool_6, EV.isi_bool_7, EV.isi_bool_8, EV.isi_str_0, EV.isi_str_1, EV.isi_str_2, EV.isi_str_3, EV.isi_str_4, EV.isi_str_5, EV.isi_str_6, EV.isi_str_7, EV.isi_str_8, EV.isi_none_0, EV.isi_none_1, EV.isi_none_2, EV.isi_none_3, EV.isi_none_4, EV.isi_none_5, EV.isi_none_6, EV.isi_none_7, EV.isi_none_8, EV.isi_tuple_0, EV.isi_tuple_1, EV.isi_tuple_2, EV.isi_tuple_3, EV.isi_tuple_4, EV.isi_tuple_5, EV.isi_tuple_6, EV.isi_tuple_7, EV.isi_tuple_8, EV.isi_list_0, EV.isi_list_1, EV.isi_list_2, EV.isi_list_3, EV.isi_list_4, EV.isi_list_5, EV.isi_list_6, EV.isi_list_7, EV.isi_list_8, EV.f_nm, EV.f_nil, EV.o_eqb, EV.o_neb, EV.o_isn, EV.o_isnn, EV.o_leq0, EV.o_lne0, EV.in_none, EV.in_int, EV.in_bool, EV.in_str, EV.in_tup, EV.in_lst, EV.td_v, SE_nx, SE_rtv, EV.sc_nil, EV.sc_none, EV.sc_v, EV.sc_r, EV.sc_s, EV.sc_x, Bool.not_eq_true', Bool.not_eq_false', EV.goB_a, EV.goB_o, EV.bo_t, EV.bo_l, EV.bo_nil, EV.bo_nm, EV.bo_tt, EV.bo_tl, EV.wipe_nil, EV.wipe_cons, Nat.reduceAdd, Nat.zero_add, Int.cast_ofNat_Int, Int.reduceEq, forall_const, not_true_eq_false, not_false_eq_true, false_implies, implies_true, and_true, true_and, decide_true, decide_false, Bool.false_eq_true, Bool.true_eq_false, eq_self, reduceCtorEq, c_is_integer_0, c_lowest_0, c_is_lowest_0, c_sum_of_two_0, c_opposite_0, c_difference_0, c_times_integer_0, c_rooted_0, c_sign_of_0, c_order_0, c_floor_of_number_0, c_check_kind_0, c_check_number_0, c_check_count_0, c_is_number_0, c_sign_0, c_sign_1, c_compared_0, c_compared_1, c_floor_of_0, c_floor_of_1, c_about_0, c_about_1, c_unit_0, c_unit_1, c_stretch_unit_0, c_stretch_unit_1, c__law_deck_0, c__law_take_0, c__law_gcd_0, c__law_num_0, c__law_plus_0, c__law_minus_0, c__law_times_0, c__law_sign_0, c__law_same_0, c__law_number_0, c__law_near_0, c__law_drawn_0, c__law_is_floor_0, c__law_right_0, c__law_units_0]
  generalize hn : (if (if 20 < (ns.length : Int) then 20 else (ns.length : Int)) > 3 then (if 20 < (ns.length : Int) then 20 else (ns.length : Int)) else 3) = n
  have b : 0 ≤ n ∧ n ≤ 20 := by
    split at hn <;> split at hn <;> omega
  refine ⟨by omega, ?_⟩
  refine f_inv (fun ds ρ S => (∀ d ∈ ds, ∃ i : Int, d = .int i ∧ 0 ≤ i ∧ i < 100) ∧ ∃ x y z, ρ = [some (.s ns), x, y, z, none]) ?_ ?_ _ _ _ ?_
  · rintro d ds ρ S ⟨hd, x, y, z, rfl⟩
    obtain ⟨i, rfl, i0, i1⟩ := hd d (List.mem_cons_self ..)
    refine ⟨_, rfl, ?_⟩
    obtain ⟨l, e, dk⟩ := e_deck (wl := wl) (k := 0 + 7) (S := S) (ns := ns) i0 i1
    simp only [EV.w_loc, EV.w_at0, EV.w_atS, EV.w_lit, EV.w_op, EV.w_neg, EV.w_negR, EV.w_not, EV.w_cmp, EV.w_ite, EV.w_evT, EV.w_tup, EV.w_lst, EV.w_ix, EV.w_bi, EV.w_isi, EV.w_rev, EV.w_bop, EV.w_b1, EV.w_b2, EV.w_fld, EV.w_fldR, EV.w_call, EV.w_mth, EV.w_enil, EV.w_econs, EV.w_ono, EV.w_oso, EV.w_intO, EV.w_slc, EV.w_cno, EV.w_cso, EV.w_dix, EV.o_add, EV.o_sub, EV.o_mul, EV.o_div, EV.o_mod, EV.o_lt, EV.o_le, EV.o_gt, EV.o_ge, EV.o_eq, EV.o_ne, EV.o_tb, EV.o_ti, W_ok, W_ex, WS_ok, WS_ex, EV.s_nil, EV.s_cons, EV.s_asgN, EV.s_asgT, EV.s_par2, EV.s_par3, EV.s_set, EV.s_ex, EV.s_iff, EV.s_for, EV.s_wh, EV.s_ret, EV.s_retN, EV.s_rai, EV.rai_v, EV.s_try, EV.s_hnil, EV.s_pas, EV.s_brk, EV.s_cnt, NX_nx, NX_rt, NX_bk, NX_ct, JN_nx, JN_rt, JN_bk, JN_ct, TN_nx, TN_rt, TN_bk, TN_ct, RQ_nx, RQ_rt, EV.gc_v, EV.b_gcd, EV.b_abs, EV.b_max, EV.b_min, EV.b_int, EV.b_intb, EV.b_lens, EV.b_lent, EV.b_lenl, EV.b_isqrt, EV.b_listt, EV.b_listl, EV.t_1, EV.t_2, EV.t_3, EV.t_4, EV.ds_1, EV.ds_2, EV.ds_3, EV.ds_4, EV.l_0, EV.l_1, EV.l_2, EV.l_3, EV.l_4, EV.l_5, EV.l_6, EV.lm_2, EV.i_seq, EV.i_tup, EV.i_lst, EV.i_scr, EV.i_rng, EV.i_rngR, EV.i_rng2, EV.i_rng2R, List.set_cons_zero, List.set_cons_succ, List.map_cons, List.map_nil, List.cons_append, List.nil_append, List.replicate, List.length_cons, List.length_nil, List.take_length, decide_eq_true_eq, decide_eq_false_iff_not, okv, okr, oks, Bool.not_true, Bool.not_false, EV.x_t0, EV.x_t1, EV.x_t2, EV.x_l0, EV.x_l1, EV.x_l2, EV.c_20, EV.c_32, EV.isi_int_0, EV.isi_int_1, EV.isi_int_2, EV.isi_int_3, EV.isi_int_4, EV.isi_int_5, EV.isi_int_6, EV.isi_int_7, EV.isi_int_8, EV.isi_bool_0, EV.isi_bool_1, EV.isi_bool_2, EV.isi_bool_3, EV.isi_bool_4, EV.isi_bool_5, EV.isi_bool_6, EV.isi_bool_7, EV.isi_bool_8, EV.isi_str_0, EV.isi_str_1, EV.isi_str_2, EV.isi_str_3, EV.isi_str_4, EV.isi_str_5, EV.isi_str_6, EV.isi_str_7, EV.isi_str_8, EV.isi_none_0, EV.isi_none_1, EV.isi_none_2, EV.isi_none_3, EV.isi_none_4, EV.isi_none_5, EV.isi_none_6, EV.isi_none_7, EV.isi_none_8, EV.isi_tuple_0, EV.isi_tuple_1, EV.isi_tuple_2, EV.isi_tuple_3, EV.isi_tuple_4, EV.isi_tuple_5, EV.isi_tuple_6, EV.isi_tuple_7, EV.isi_tuple_8, EV.isi_list_0, EV.isi_list_1, EV.isi_list_2, EV.isi_list_3, EV.isi_list_4, EV.isi_list_5, EV.isi_list_6, EV.isi_list_7, EV.isi_list_8, EV.f_nm, EV.f_nil, EV.o_eqb, EV.o_neb, EV.o_isn, EV.o_isnn, EV.o_leq0, EV.o_lne0, EV.in_none, EV.in_int, EV.in_bool, EV.in_str, EV.in_tup, EV.in_lst, EV.td_v, SE_nx, SE_rtv, EV.sc_nil, EV.sc_none, EV.sc_v, EV.sc_r, EV.sc_s, EV.sc_x, Bool.not_eq_true', Bool.not_eq_false', EV.goB_a, EV.goB_o, EV.bo_t, EV.bo_l, EV.bo_nil, EV.bo_nm, EV.bo_tt, EV.bo_tl, EV.wipe_nil, EV.wipe_cons, Nat.reduceAdd, Nat.zero_add, Int.cast_ofNat_Int, Int.reduceEq, forall_const, not_true_eq_false, not_false_eq_true, false_implies, implies_true, and_true, true_and, decide_true, decide_false, Bool.false_eq_true, Bool.true_eq_false, eq_self, reduceCtorEq, c_is_integer_0, c_lowest_0, c_is_lowest_0, c_sum_of_two_0, c_opposite_0, c_difference_0, c_times_integer_0, c_rooted_0, c_sign_of_0, c_order_0, c_floor_of_number_0, c_check_kind_0, c_check_number_0, c_check_count_0, c_is_number_0, c_sign_0, c_sign_1, c_compared_0, c_compared_1, c_floor_of_0, c_floor_of_1, c_about_0, c_about_1, c_unit_0, c_unit_1, c_stretch_unit_0, c_stretch_unit_1, c__law_deck_0, c__law_take_0, c__law_gcd_0, c__law_num_0, c__law_plus_0, c__law_minus_0, c__law_times_0, c__law_sign_0, c__law_same_0, c__law_number_0, c__law_near_0, c__law_drawn_0, c__law_is_floor_0, c__law_right_0, c__law_units_0, e]
    refine w_take dk (by decide) (Sz.const (by decide)) fun t S1 t0 t1 dk1 sm1 => ?_
    (try simp only [EV.w_loc, EV.w_at0, EV.w_atS, EV.w_lit, EV.w_op, EV.w_neg, EV.w_negR, EV.w_not, EV.w_cmp, EV.w_ite, EV.w_evT, EV.w_tup, EV.w_lst, EV.w_ix, EV.w_bi, EV.w_isi, EV.w_rev, EV.w_bop, EV.w_b1, EV.w_b2, EV.w_fld, EV.w_fldR, EV.w_call, EV.w_mth, EV.w_enil, EV.w_econs, EV.w_ono, EV.w_oso, EV.w_intO, EV.w_slc, EV.w_cno, EV.w_cso, EV.w_dix, EV.o_add, EV.o_sub, EV.o_mul, EV.o_div, EV.o_mod, EV.o_lt, EV.o_le, EV.o_gt, EV.o_ge, EV.o_eq, EV.o_ne, EV.o_tb, EV.o_ti, W_ok, W_ex, WS_ok, WS_ex, EV.s_nil, EV.s_cons, EV.s_asgN, EV.s_asgT, EV.s_par2, EV.s_par3, EV.s_set, EV.s_ex, EV.s_iff, EV.s_for, EV.s_wh, EV.s_ret, EV.s_retN, EV.s_rai, EV.rai_v, EV.s_try, EV.s_hnil, EV.s_pas, EV.s_brk, EV.s_cnt, NX_nx, NX_rt, NX_bk, NX_ct, JN_nx, JN_rt, JN_bk, JN_ct, TN_nx, TN_rt, TN_bk, TN_ct, RQ_nx, RQ_rt, EV.gc_v, EV.b_gcd, EV.b_abs, EV.b_max, EV.b_min, EV.b_int, EV.b_intb, EV.b_lens, EV.b_lent, EV.b_lenl, EV.b_isqrt, EV.b_listt, EV.b_listl, EV.t_1, EV.t_2, EV.t_3, EV.t_4, EV.ds_1, EV.ds_2, EV.ds_3, EV.ds_4, EV.l_0, EV.l_1, EV.l_2, EV.l_3, EV.l_4, EV.l_5, EV.l_6, EV.lm_2, EV.i_seq, EV.i_tup, EV.i_lst, EV.i_scr, EV.i_rng, EV.i_rngR, EV.i_rng2, EV.i_rng2R, List.set_cons_zero, List.set_cons_succ, List.map_cons, List.map_nil, List.cons_append, List.nil_append, List.replicate, List.length_cons, List.length_nil, List.take_length, decide_eq_true_eq, decide_eq_false_iff_not, okv, okr, oks, Bool.not_true, Bool.not_false, EV.x_t0, EV.x_t1, EV.x_t2, EV.x_l0, EV.x_l1, EV.x_l2, EV.c_20, EV.c_32, EV.isi_int_0, EV.isi_int_1, EV.isi_int_2, EV.isi_int_3, EV.isi_int_4, EV.isi_int_5, EV.isi_int_6, EV.isi_int_7, EV.isi_int_8, EV.isi_bool_0, EV.isi_bool_1, EV.isi_bool_2, EV.isi_bool_3, EV.isi_bool_4, EV.isi_bool_5, EV.isi_bool_6, EV.isi_bool_7, EV.isi_bool_8, EV.isi_str_0, EV.isi_str_1, EV.isi_str_2, EV.isi_str_3, EV.isi_str_4, EV.isi_str_5, EV.isi_str_6, EV.isi_str_7, EV.isi_str_8, EV.isi_none_0, EV.isi_none_1, EV.isi_none_2, EV.isi_none_3, EV.isi_none_4, EV.isi_none_5, EV.isi_none_6, EV.isi_none_7, EV.isi_none_8, EV.isi_tuple_0, EV.isi_tuple_1, EV.isi_tuple_2, EV.isi_tuple_3, EV.isi_tuple_4, EV.isi_tuple_5, EV.isi_tuple_6, EV.isi_tuple_7, EV.isi_tuple_8, EV.isi_list_0, EV.isi_list_1, EV.isi_list_2, EV.isi_list_3, EV.isi_list_4, EV.isi_list_5, EV.isi_list_6, EV.isi_list_7, EV.isi_list_8, EV.f_nm, EV.f_nil, EV.o_eqb, EV.o_neb, EV.o_isn, EV.o_isnn, EV.o_leq0, EV.o_lne0, EV.in_none, EV.in_int, EV.in_bool, EV.in_str, EV.in_tup, EV.in_lst, EV.td_v, SE_nx, SE_rtv, EV.sc_nil, EV.sc_none, EV.sc_v, EV.sc_r, EV.sc_s, EV.sc_x, Bool.not_eq_true', Bool.not_eq_false', EV.goB_a, EV.goB_o, EV.bo_t, EV.bo_l, EV.bo_nil, EV.bo_nm, EV.bo_tt, EV.bo_tl, EV.wipe_nil, EV.wipe_cons, Nat.reduceAdd, Nat.zero_add, Int.cast_ofNat_Int, Int.reduceEq, forall_const, not_true_eq_false, not_false_eq_true, false_implies, implies_true, and_true, true_and, decide_true, decide_false, Bool.false_eq_true, Bool.true_eq_false, eq_self, reduceCtorEq, c_is_integer_0, c_lowest_0, c_is_lowest_0, c_sum_of_two_0, c_opposite_0, c_difference_0, c_times_integer_0, c_rooted_0, c_sign_of_0, c_order_0, c_floor_of_number_0, c_check_kind_0, c_check_number_0, c_check_count_0, c_is_number_0, c_sign_0, c_sign_1, c_compared_0, c_compared_1, c_floor_of_0, c_floor_of_1, c_about_0, c_about_1, c_unit_0, c_unit_1, c_stretch_unit_0, c_stretch_unit_1, c__law_deck_0, c__law_take_0, c__law_gcd_0, c__law_num_0, c__law_plus_0, c__law_minus_0, c__law_times_0, c__law_sign_0, c__law_same_0, c__law_number_0, c__law_near_0, c__law_drawn_0, c__law_is_floor_0, c__law_right_0, c__law_units_0])
    refine x_lm t0 (by simp only [List.length_cons, List.length_nil]; omega) fun d hd' => ?_
    obtain ⟨f, rfl, hf⟩ : ∃ f : Int, d = .int f ∧ Kind f := by
      simp only [List.mem_cons, List.mem_nil_iff, or_false] at hd'
      rcases hd' with rfl | rfl | rfl
      · exact ⟨2, rfl, .inl rfl⟩
      · exact ⟨3, rfl, .inr (.inl rfl)⟩
      · exact ⟨5, rfl, .inr (.inr rfl)⟩
    (try simp only [EV.w_loc, EV.w_at0, EV.w_atS, EV.w_lit, EV.w_op, EV.w_neg, EV.w_negR, EV.w_not, EV.w_cmp, EV.w_ite, EV.w_evT, EV.w_tup, EV.w_lst, EV.w_ix, EV.w_bi, EV.w_isi, EV.w_rev, EV.w_bop, EV.w_b1, EV.w_b2, EV.w_fld, EV.w_fldR, EV.w_call, EV.w_mth, EV.w_enil, EV.w_econs, EV.w_ono, EV.w_oso, EV.w_intO, EV.w_slc, EV.w_cno, EV.w_cso, EV.w_dix, EV.o_add, EV.o_sub, EV.o_mul, EV.o_div, EV.o_mod, EV.o_lt, EV.o_le, EV.o_gt, EV.o_ge, EV.o_eq, EV.o_ne, EV.o_tb, EV.o_ti, W_ok, W_ex, WS_ok, WS_ex, EV.s_nil, EV.s_cons, EV.s_asgN, EV.s_asgT, EV.s_par2, EV.s_par3, EV.s_set, EV.s_ex, EV.s_iff, EV.s_for, EV.s_wh, EV.s_ret, EV.s_retN, EV.s_rai, EV.rai_v, EV.s_try, EV.s_hnil, EV.s_pas, EV.s_brk, EV.s_cnt, NX_nx, NX_rt, NX_bk, NX_ct, JN_nx, JN_rt, JN_bk, JN_ct, TN_nx, TN_rt, TN_bk, TN_ct, RQ_nx, RQ_rt, EV.gc_v, EV.b_gcd, EV.b_abs, EV.b_max, EV.b_min, EV.b_int, EV.b_intb, EV.b_lens, EV.b_lent, EV.b_lenl, EV.b_isqrt, EV.b_listt, EV.b_listl, EV.t_1, EV.t_2, EV.t_3, EV.t_4, EV.ds_1, EV.ds_2, EV.ds_3, EV.ds_4, EV.l_0, EV.l_1, EV.l_2, EV.l_3, EV.l_4, EV.l_5, EV.l_6, EV.lm_2, EV.i_seq, EV.i_tup, EV.i_lst, EV.i_scr, EV.i_rng, EV.i_rngR, EV.i_rng2, EV.i_rng2R, List.set_cons_zero, List.set_cons_succ, List.map_cons, List.map_nil, List.cons_append, List.nil_append, List.replicate, List.length_cons, List.length_nil, List.take_length, decide_eq_true_eq, decide_eq_false_iff_not, okv, okr, oks, Bool.not_true, Bool.not_false, EV.x_t0, EV.x_t1, EV.x_t2, EV.x_l0, EV.x_l1, EV.x_l2, EV.c_20, EV.c_32, EV.isi_int_0, EV.isi_int_1, EV.isi_int_2, EV.isi_int_3, EV.isi_int_4, EV.isi_int_5, EV.isi_int_6, EV.isi_int_7, EV.isi_int_8, EV.isi_bool_0, EV.isi_bool_1, EV.isi_bool_2, EV.isi_bool_3, EV.isi_bool_4, EV.isi_bool_5, EV.isi_bool_6, EV.isi_bool_7, EV.isi_bool_8, EV.isi_str_0, EV.isi_str_1, EV.isi_str_2, EV.isi_str_3, EV.isi_str_4, EV.isi_str_5, EV.isi_str_6, EV.isi_str_7, EV.isi_str_8, EV.isi_none_0, EV.isi_none_1, EV.isi_none_2, EV.isi_none_3, EV.isi_none_4, EV.isi_none_5, EV.isi_none_6, EV.isi_none_7, EV.isi_none_8, EV.isi_tuple_0, EV.isi_tuple_1, EV.isi_tuple_2, EV.isi_tuple_3, EV.isi_tuple_4, EV.isi_tuple_5, EV.isi_tuple_6, EV.isi_tuple_7, EV.isi_tuple_8, EV.isi_list_0, EV.isi_list_1, EV.isi_list_2, EV.isi_list_3, EV.isi_list_4, EV.isi_list_5, EV.isi_list_6, EV.isi_list_7, EV.isi_list_8, EV.f_nm, EV.f_nil, EV.o_eqb, EV.o_neb, EV.o_isn, EV.o_isnn, EV.o_leq0, EV.o_lne0, EV.in_none, EV.in_int, EV.in_bool, EV.in_str, EV.in_tup, EV.in_lst, EV.td_v, SE_nx, SE_rtv, EV.sc_nil, EV.sc_none, EV.sc_v, EV.sc_r, EV.sc_s, EV.sc_x, Bool.not_eq_true', Bool.not_eq_false', EV.goB_a, EV.goB_o, EV.bo_t, EV.bo_l, EV.bo_nil, EV.bo_nm, EV.bo_tt, EV.bo_tl, EV.wipe_nil, EV.wipe_cons, Nat.reduceAdd, Nat.zero_add, Int.cast_ofNat_Int, Int.reduceEq, forall_const, not_true_eq_false, not_false_eq_true, false_implies, implies_true, and_true, true_and, decide_true, decide_false, Bool.false_eq_true, Bool.true_eq_false, eq_self, reduceCtorEq, c_is_integer_0, c_lowest_0, c_is_lowest_0, c_sum_of_two_0, c_opposite_0, c_difference_0, c_times_integer_0, c_rooted_0, c_sign_of_0, c_order_0, c_floor_of_number_0, c_check_kind_0, c_check_number_0, c_check_count_0, c_is_number_0, c_sign_0, c_sign_1, c_compared_0, c_compared_1, c_floor_of_0, c_floor_of_1, c_about_0, c_about_1, c_unit_0, c_unit_1, c_stretch_unit_0, c_stretch_unit_1, c__law_deck_0, c__law_take_0, c__law_gcd_0, c__law_num_0, c__law_plus_0, c__law_minus_0, c__law_times_0, c__law_sign_0, c__law_same_0, c__law_number_0, c__law_near_0, c__law_drawn_0, c__law_is_floor_0, c__law_right_0, c__law_units_0])
    refine w_lright (k := 2) hw hf dk1 fun S2 dk2 sm2 => ?_
    (try simp only [EV.w_loc, EV.w_at0, EV.w_atS, EV.w_lit, EV.w_op, EV.w_neg, EV.w_negR, EV.w_not, EV.w_cmp, EV.w_ite, EV.w_evT, EV.w_tup, EV.w_lst, EV.w_ix, EV.w_bi, EV.w_isi, EV.w_rev, EV.w_bop, EV.w_b1, EV.w_b2, EV.w_fld, EV.w_fldR, EV.w_call, EV.w_mth, EV.w_enil, EV.w_econs, EV.w_ono, EV.w_oso, EV.w_intO, EV.w_slc, EV.w_cno, EV.w_cso, EV.w_dix, EV.o_add, EV.o_sub, EV.o_mul, EV.o_div, EV.o_mod, EV.o_lt, EV.o_le, EV.o_gt, EV.o_ge, EV.o_eq, EV.o_ne, EV.o_tb, EV.o_ti, W_ok, W_ex, WS_ok, WS_ex, EV.s_nil, EV.s_cons, EV.s_asgN, EV.s_asgT, EV.s_par2, EV.s_par3, EV.s_set, EV.s_ex, EV.s_iff, EV.s_for, EV.s_wh, EV.s_ret, EV.s_retN, EV.s_rai, EV.rai_v, EV.s_try, EV.s_hnil, EV.s_pas, EV.s_brk, EV.s_cnt, NX_nx, NX_rt, NX_bk, NX_ct, JN_nx, JN_rt, JN_bk, JN_ct, TN_nx, TN_rt, TN_bk, TN_ct, RQ_nx, RQ_rt, EV.gc_v, EV.b_gcd, EV.b_abs, EV.b_max, EV.b_min, EV.b_int, EV.b_intb, EV.b_lens, EV.b_lent, EV.b_lenl, EV.b_isqrt, EV.b_listt, EV.b_listl, EV.t_1, EV.t_2, EV.t_3, EV.t_4, EV.ds_1, EV.ds_2, EV.ds_3, EV.ds_4, EV.l_0, EV.l_1, EV.l_2, EV.l_3, EV.l_4, EV.l_5, EV.l_6, EV.lm_2, EV.i_seq, EV.i_tup, EV.i_lst, EV.i_scr, EV.i_rng, EV.i_rngR, EV.i_rng2, EV.i_rng2R, List.set_cons_zero, List.set_cons_succ, List.map_cons, List.map_nil, List.cons_append, List.nil_append, List.replicate, List.length_cons, List.length_nil, List.take_length, decide_eq_true_eq, decide_eq_false_iff_not, okv, okr, oks, Bool.not_true, Bool.not_false, EV.x_t0, EV.x_t1, EV.x_t2, EV.x_l0, EV.x_l1, EV.x_l2, EV.c_20, EV.c_32, EV.isi_int_0, EV.isi_int_1, EV.isi_int_2, EV.isi_int_3, EV.isi_int_4, EV.isi_int_5, EV.isi_int_6, EV.isi_int_7, EV.isi_int_8, EV.isi_bool_0, EV.isi_bool_1, EV.isi_bool_2, EV.isi_bool_3, EV.isi_bool_4, EV.isi_bool_5, EV.isi_bool_6, EV.isi_bool_7, EV.isi_bool_8, EV.isi_str_0, EV.isi_str_1, EV.isi_str_2, EV.isi_str_3, EV.isi_str_4, EV.isi_str_5, EV.isi_str_6, EV.isi_str_7, EV.isi_str_8, EV.isi_none_0, EV.isi_none_1, EV.isi_none_2, EV.isi_none_3, EV.isi_none_4, EV.isi_none_5, EV.isi_none_6, EV.isi_none_7, EV.isi_none_8, EV.isi_tuple_0, EV.isi_tuple_1, EV.isi_tuple_2, EV.isi_tuple_3, EV.isi_tuple_4, EV.isi_tuple_5, EV.isi_tuple_6, EV.isi_tuple_7, EV.isi_tuple_8, EV.isi_list_0, EV.isi_list_1, EV.isi_list_2, EV.isi_list_3, EV.isi_list_4, EV.isi_list_5, EV.isi_list_6, EV.isi_list_7, EV.isi_list_8, EV.f_nm, EV.f_nil, EV.o_eqb, EV.o_neb, EV.o_isn, EV.o_isnn, EV.o_leq0, EV.o_lne0, EV.in_none, EV.in_int, EV.in_bool, EV.in_str, EV.in_tup, EV.in_lst, EV.td_v, SE_nx, SE_rtv, EV.sc_nil, EV.sc_none, EV.sc_v, EV.sc_r, EV.sc_s, EV.sc_x, Bool.not_eq_true', Bool.not_eq_false', EV.goB_a, EV.goB_o, EV.bo_t, EV.bo_l, EV.bo_nil, EV.bo_nm, EV.bo_tt, EV.bo_tl, EV.wipe_nil, EV.wipe_cons, Nat.reduceAdd, Nat.zero_add, Int.cast_ofNat_Int, Int.reduceEq, forall_const, not_true_eq_false, not_false_eq_true, false_implies, implies_true, and_true, true_and, decide_true, decide_false, Bool.false_eq_true, Bool.true_eq_false, eq_self, reduceCtorEq, c_is_integer_0, c_lowest_0, c_is_lowest_0, c_sum_of_two_0, c_opposite_0, c_difference_0, c_times_integer_0, c_rooted_0, c_sign_of_0, c_order_0, c_floor_of_number_0, c_check_kind_0, c_check_number_0, c_check_count_0, c_is_number_0, c_sign_0, c_sign_1, c_compared_0, c_compared_1, c_floor_of_0, c_floor_of_1, c_about_0, c_about_1, c_unit_0, c_unit_1, c_stretch_unit_0, c_stretch_unit_1, c__law_deck_0, c__law_take_0, c__law_gcd_0, c__law_num_0, c__law_plus_0, c__law_minus_0, c__law_times_0, c__law_sign_0, c__law_same_0, c__law_number_0, c__law_near_0, c__law_drawn_0, c__law_is_floor_0, c__law_right_0, c__law_units_0])
    refine w_lright (k := 2) hw hf dk2 fun S3 dk3 sm3 => ?_
    (try simp only [EV.w_loc, EV.w_at0, EV.w_atS, EV.w_lit, EV.w_op, EV.w_neg, EV.w_negR, EV.w_not, EV.w_cmp, EV.w_ite, EV.w_evT, EV.w_tup, EV.w_lst, EV.w_ix, EV.w_bi, EV.w_isi, EV.w_rev, EV.w_bop, EV.w_b1, EV.w_b2, EV.w_fld, EV.w_fldR, EV.w_call, EV.w_mth, EV.w_enil, EV.w_econs, EV.w_ono, EV.w_oso, EV.w_intO, EV.w_slc, EV.w_cno, EV.w_cso, EV.w_dix, EV.o_add, EV.o_sub, EV.o_mul, EV.o_div, EV.o_mod, EV.o_lt, EV.o_le, EV.o_gt, EV.o_ge, EV.o_eq, EV.o_ne, EV.o_tb, EV.o_ti, W_ok, W_ex, WS_ok, WS_ex, EV.s_nil, EV.s_cons, EV.s_asgN, EV.s_asgT, EV.s_par2, EV.s_par3, EV.s_set, EV.s_ex, EV.s_iff, EV.s_for, EV.s_wh, EV.s_ret, EV.s_retN, EV.s_rai, EV.rai_v, EV.s_try, EV.s_hnil, EV.s_pas, EV.s_brk, EV.s_cnt, NX_nx, NX_rt, NX_bk, NX_ct, JN_nx, JN_rt, JN_bk, JN_ct, TN_nx, TN_rt, TN_bk, TN_ct, RQ_nx, RQ_rt, EV.gc_v, EV.b_gcd, EV.b_abs, EV.b_max, EV.b_min, EV.b_int, EV.b_intb, EV.b_lens, EV.b_lent, EV.b_lenl, EV.b_isqrt, EV.b_listt, EV.b_listl, EV.t_1, EV.t_2, EV.t_3, EV.t_4, EV.ds_1, EV.ds_2, EV.ds_3, EV.ds_4, EV.l_0, EV.l_1, EV.l_2, EV.l_3, EV.l_4, EV.l_5, EV.l_6, EV.lm_2, EV.i_seq, EV.i_tup, EV.i_lst, EV.i_scr, EV.i_rng, EV.i_rngR, EV.i_rng2, EV.i_rng2R, List.set_cons_zero, List.set_cons_succ, List.map_cons, List.map_nil, List.cons_append, List.nil_append, List.replicate, List.length_cons, List.length_nil, List.take_length, decide_eq_true_eq, decide_eq_false_iff_not, okv, okr, oks, Bool.not_true, Bool.not_false, EV.x_t0, EV.x_t1, EV.x_t2, EV.x_l0, EV.x_l1, EV.x_l2, EV.c_20, EV.c_32, EV.isi_int_0, EV.isi_int_1, EV.isi_int_2, EV.isi_int_3, EV.isi_int_4, EV.isi_int_5, EV.isi_int_6, EV.isi_int_7, EV.isi_int_8, EV.isi_bool_0, EV.isi_bool_1, EV.isi_bool_2, EV.isi_bool_3, EV.isi_bool_4, EV.isi_bool_5, EV.isi_bool_6, EV.isi_bool_7, EV.isi_bool_8, EV.isi_str_0, EV.isi_str_1, EV.isi_str_2, EV.isi_str_3, EV.isi_str_4, EV.isi_str_5, EV.isi_str_6, EV.isi_str_7, EV.isi_str_8, EV.isi_none_0, EV.isi_none_1, EV.isi_none_2, EV.isi_none_3, EV.isi_none_4, EV.isi_none_5, EV.isi_none_6, EV.isi_none_7, EV.isi_none_8, EV.isi_tuple_0, EV.isi_tuple_1, EV.isi_tuple_2, EV.isi_tuple_3, EV.isi_tuple_4, EV.isi_tuple_5, EV.isi_tuple_6, EV.isi_tuple_7, EV.isi_tuple_8, EV.isi_list_0, EV.isi_list_1, EV.isi_list_2, EV.isi_list_3, EV.isi_list_4, EV.isi_list_5, EV.isi_list_6, EV.isi_list_7, EV.isi_list_8, EV.f_nm, EV.f_nil, EV.o_eqb, EV.o_neb, EV.o_isn, EV.o_isnn, EV.o_leq0, EV.o_lne0, EV.in_none, EV.in_int, EV.in_bool, EV.in_str, EV.in_tup, EV.in_lst, EV.td_v, SE_nx, SE_rtv, EV.sc_nil, EV.sc_none, EV.sc_v, EV.sc_r, EV.sc_s, EV.sc_x, Bool.not_eq_true', Bool.not_eq_false', EV.goB_a, EV.goB_o, EV.bo_t, EV.bo_l, EV.bo_nil, EV.bo_nm, EV.bo_tt, EV.bo_tl, EV.wipe_nil, EV.wipe_cons, Nat.reduceAdd, Nat.zero_add, Int.cast_ofNat_Int, Int.reduceEq, forall_const, not_true_eq_false, not_false_eq_true, false_implies, implies_true, and_true, true_and, decide_true, decide_false, Bool.false_eq_true, Bool.true_eq_false, eq_self, reduceCtorEq, c_is_integer_0, c_lowest_0, c_is_lowest_0, c_sum_of_two_0, c_opposite_0, c_difference_0, c_times_integer_0, c_rooted_0, c_sign_of_0, c_order_0, c_floor_of_number_0, c_check_kind_0, c_check_number_0, c_check_count_0, c_is_number_0, c_sign_0, c_sign_1, c_compared_0, c_compared_1, c_floor_of_0, c_floor_of_1, c_about_0, c_about_1, c_unit_0, c_unit_1, c_stretch_unit_0, c_stretch_unit_1, c__law_deck_0, c__law_take_0, c__law_gcd_0, c__law_num_0, c__law_plus_0, c__law_minus_0, c__law_times_0, c__law_sign_0, c__law_same_0, c__law_number_0, c__law_near_0, c__law_drawn_0, c__law_is_floor_0, c__law_right_0, c__law_units_0])
    exact ⟨fun d h => hd d (List.mem_cons_of_mem _ h), _, _, _, rfl⟩
  · rintro ρ S ⟨_, x, y, z, rfl⟩
    have e1 : ∀ f, Kind f → ∀ S, callN G wl (0 + 8) "_law_units" [I f] S = .ok (.v (.list [T3 (un1 f), T3 (un2 f)])) S := fun f hf S => e_units (k := 4) hw hf
    have e2 : ∀ f, Kind f → ∀ S, callN G wl (0 + 8) "unit" [I f] S = .ok (.v (T3 (un1 f))) S := fun f hf S => e_unit (k := 5) hf
    have e3 : ∀ f, Kind f → ∀ S, callN G wl (0 + 8) "stretch_unit" [I f] S = .ok (.v (T3 (un2 f))) S := fun f hf S => e_stretch_unit (k := 5) hf
    have e4 : ∀ f, ∀ S, callN G wl (0 + 8) "_law_same" [.v (.list [T3 (un1 f), T3 (un2 f)]), .v (.list [T3 (un1 f), T3 (un2 f)])] S = .ok (B true) S := fun f S => e_same (k := 5) 2 _ S ⟨by simp, by simp [OkD]⟩
    have h2 : Kind 2 := .inl rfl
    have h3 : Kind 3 := .inr (.inl rfl)
    have h5 : Kind 5 := .inr (.inr rfl)
    simp only [EV.w_loc, EV.w_at0, EV.w_atS, EV.w_lit, EV.w_op, EV.w_neg, EV.w_negR, EV.w_not, EV.w_cmp, EV.w_ite, EV.w_evT, EV.w_tup, EV.w_lst, EV.w_ix, EV.w_bi, EV.w_isi, EV.w_rev, EV.w_bop, EV.w_b1, EV.w_b2, EV.w_fld, EV.w_fldR, EV.w_call, EV.w_mth, EV.w_enil, EV.w_econs, EV.w_ono, EV.w_oso, EV.w_intO, EV.w_slc, EV.w_cno, EV.w_cso, EV.w_dix, EV.o_add, EV.o_sub, EV.o_mul, EV.o_div, EV.o_mod, EV.o_lt, EV.o_le, EV.o_gt, EV.o_ge, EV.o_eq, EV.o_ne, EV.o_tb, EV.o_ti, W_ok, W_ex, WS_ok, WS_ex, EV.s_nil, EV.s_cons, EV.s_asgN, EV.s_asgT, EV.s_par2, EV.s_par3, EV.s_set, EV.s_ex, EV.s_iff, EV.s_for, EV.s_wh, EV.s_ret, EV.s_retN, EV.s_rai, EV.rai_v, EV.s_try, EV.s_hnil, EV.s_pas, EV.s_brk, EV.s_cnt, NX_nx, NX_rt, NX_bk, NX_ct, JN_nx, JN_rt, JN_bk, JN_ct, TN_nx, TN_rt, TN_bk, TN_ct, RQ_nx, RQ_rt, EV.gc_v, EV.b_gcd, EV.b_abs, EV.b_max, EV.b_min, EV.b_int, EV.b_intb, EV.b_lens, EV.b_lent, EV.b_lenl, EV.b_isqrt, EV.b_listt, EV.b_listl, EV.t_1, EV.t_2, EV.t_3, EV.t_4, EV.ds_1, EV.ds_2, EV.ds_3, EV.ds_4, EV.l_0, EV.l_1, EV.l_2, EV.l_3, EV.l_4, EV.l_5, EV.l_6, EV.lm_2, EV.i_seq, EV.i_tup, EV.i_lst, EV.i_scr, EV.i_rng, EV.i_rngR, EV.i_rng2, EV.i_rng2R, List.set_cons_zero, List.set_cons_succ, List.map_cons, List.map_nil, List.cons_append, List.nil_append, List.replicate, List.length_cons, List.length_nil, List.take_length, decide_eq_true_eq, decide_eq_false_iff_not, okv, okr, oks, Bool.not_true, Bool.not_false, EV.x_t0, EV.x_t1, EV.x_t2, EV.x_l0, EV.x_l1, EV.x_l2, EV.c_20, EV.c_32, EV.isi_int_0, EV.isi_int_1, EV.isi_int_2, EV.isi_int_3, EV.isi_int_4, EV.isi_int_5, EV.isi_int_6, EV.isi_int_7, EV.isi_int_8, EV.isi_bool_0, EV.isi_bool_1, EV.isi_bool_2, EV.isi_bool_3, EV.isi_bool_4, EV.isi_bool_5, EV.isi_bool_6, EV.isi_bool_7, EV.isi_bool_8, EV.isi_str_0, EV.isi_str_1, EV.isi_str_2, EV.isi_str_3, EV.isi_str_4, EV.isi_str_5, EV.isi_str_6, EV.isi_str_7, EV.isi_str_8, EV.isi_none_0, EV.isi_none_1, EV.isi_none_2, EV.isi_none_3, EV.isi_none_4, EV.isi_none_5, EV.isi_none_6, EV.isi_none_7, EV.isi_none_8, EV.isi_tuple_0, EV.isi_tuple_1, EV.isi_tuple_2, EV.isi_tuple_3, EV.isi_tuple_4, EV.isi_tuple_5, EV.isi_tuple_6, EV.isi_tuple_7, EV.isi_tuple_8, EV.isi_list_0, EV.isi_list_1, EV.isi_list_2, EV.isi_list_3, EV.isi_list_4, EV.isi_list_5, EV.isi_list_6, EV.isi_list_7, EV.isi_list_8, EV.f_nm, EV.f_nil, EV.o_eqb, EV.o_neb, EV.o_isn, EV.o_isnn, EV.o_leq0, EV.o_lne0, EV.in_none, EV.in_int, EV.in_bool, EV.in_str, EV.in_tup, EV.in_lst, EV.td_v, SE_nx, SE_rtv, EV.sc_nil, EV.sc_none, EV.sc_v, EV.sc_r, EV.sc_s, EV.sc_x, Bool.not_eq_true', Bool.not_eq_false', EV.goB_a, EV.goB_o, EV.bo_t, EV.bo_l, EV.bo_nil, EV.bo_nm, EV.bo_tt, EV.bo_tl, EV.wipe_nil, EV.wipe_cons, Nat.reduceAdd, Nat.zero_add, Int.cast_ofNat_Int, Int.reduceEq, forall_const, not_true_eq_false, not_false_eq_true, false_implies, implies_true, and_true, true_and, decide_true, decide_false, Bool.false_eq_true, Bool.true_eq_false, eq_self, reduceCtorEq, c_is_integer_0, c_lowest_0, c_is_lowest_0, c_sum_of_two_0, c_opposite_0, c_difference_0, c_times_integer_0, c_rooted_0, c_sign_of_0, c_order_0, c_floor_of_number_0, c_check_kind_0, c_check_number_0, c_check_count_0, c_is_number_0, c_sign_0, c_sign_1, c_compared_0, c_compared_1, c_floor_of_0, c_floor_of_1, c_about_0, c_about_1, c_unit_0, c_unit_1, c_stretch_unit_0, c_stretch_unit_1, c__law_deck_0, c__law_take_0, c__law_gcd_0, c__law_num_0, c__law_plus_0, c__law_minus_0, c__law_times_0, c__law_sign_0, c__law_same_0, c__law_number_0, c__law_near_0, c__law_drawn_0, c__law_is_floor_0, c__law_right_0, c__law_units_0, e1 2 h2, e1 3 h3, e1 5 h5, e2 2 h2, e2 3 h3, e2 5 h5, e3 2 h2, e3 3 h3, e3 5 h5, e4]
  · refine ⟨fun d hd => ?_, _, _, _, rfl⟩
    unfold rngD at hd
    obtain ⟨i, hi, rfl⟩ := List.mem_map.mp hd
    have hi := List.mem_range.mp hi
    exact ⟨_, rfl, by omega, by omega⟩
def depth : Nat := 8
theorem law_true : ∀ ns : List Int, ns.length ≤ 63 → ∃ wl S', callN G wl (depth + 1) r_law.nm [.s ns] [] = .ok (.v (.bool true)) S' := fun ns _ => by
  obtain ⟨r, S', e, rfl⟩ := W_get (law_w (wl := 2 ^ bigN) ⟨Nat.le_refl _⟩ ns)
  exact ⟨2 ^ bigN, S', e⟩
end
end LawP

set_option Elab.async false
set_option linter.all false
set_option maxRecDepth 100000
set_option maxHeartbeats 0
/-! The checks of the program against the row, the run of its top (printed by wip/gen.py). -/
namespace LawP
open PySem PySem.Spec PyProof.Rows L2 EV
theorem rows_ok : rows.all (rowB G) = true := by decide +kernel
theorem kb_is_integer : KbAll r_is_integer := fun K kV doc pm an cdv ct n ks h => by
  simp only [r_is_integer, d_is_integer, List.mem_cons, List.mem_nil_iff, or_false, Prod.mk.injEq] at h
  obtain ⟨rfl, rfl⟩ := h
  exact kbn_mk fun us ws h1 h2 => match us, ws, h1, h2 with | [_], [], _, _ => by with_unfolding_all rfl
theorem kb_lowest : KbAll r_lowest := fun K kV doc pm an cdv ct n ks h => by
  simp only [r_lowest, d_lowest, List.mem_cons, List.mem_nil_iff, or_false, Prod.mk.injEq] at h
  obtain ⟨rfl, rfl⟩ := h
  exact kbn_mk fun us ws h1 h2 => match us, ws, h1, h2 with | [_, _, _], [], _, _ => by with_unfolding_all rfl
theorem kb_is_lowest : KbAll r_is_lowest := fun K kV doc pm an cdv ct n ks h => by
  simp only [r_is_lowest, d_is_lowest, List.mem_cons, List.mem_nil_iff, or_false, Prod.mk.injEq] at h
  obtain ⟨rfl, rfl⟩ := h
  exact kbn_mk fun us ws h1 h2 => match us, ws, h1, h2 with | [_], [], _, _ => by with_unfolding_all rfl
theorem kb_sum_of_two : KbAll r_sum_of_two := fun K kV doc pm an cdv ct n ks h => by
  simp only [r_sum_of_two, d_sum_of_two, List.mem_cons, List.mem_nil_iff, or_false, Prod.mk.injEq] at h
  obtain ⟨rfl, rfl⟩ := h
  exact kbn_mk fun us ws h1 h2 => match us, ws, h1, h2 with | [_, _], [], _, _ => by with_unfolding_all rfl
theorem kb_opposite : KbAll r_opposite := fun K kV doc pm an cdv ct n ks h => by
  simp only [r_opposite, d_opposite, List.mem_cons, List.mem_nil_iff, or_false, Prod.mk.injEq] at h
  obtain ⟨rfl, rfl⟩ := h
  exact kbn_mk fun us ws h1 h2 => match us, ws, h1, h2 with | [_], [], _, _ => by with_unfolding_all rfl
theorem kb_difference : KbAll r_difference := fun K kV doc pm an cdv ct n ks h => by
  simp only [r_difference, d_difference, List.mem_cons, List.mem_nil_iff, or_false, Prod.mk.injEq] at h
  obtain ⟨rfl, rfl⟩ := h
  exact kbn_mk fun us ws h1 h2 => match us, ws, h1, h2 with | [_, _], [], _, _ => by with_unfolding_all rfl
theorem kb_times_integer : KbAll r_times_integer := fun K kV doc pm an cdv ct n ks h => by
  simp only [r_times_integer, d_times_integer, List.mem_cons, List.mem_nil_iff, or_false, Prod.mk.injEq] at h
  obtain ⟨rfl, rfl⟩ := h
  exact kbn_mk fun us ws h1 h2 => match us, ws, h1, h2 with | [_, _], [], _, _ => by with_unfolding_all rfl
theorem kb_rooted : KbAll r_rooted := fun K kV doc pm an cdv ct n ks h => by
  simp only [r_rooted, d_rooted, List.mem_cons, List.mem_nil_iff, or_false, Prod.mk.injEq] at h
  obtain ⟨rfl, rfl⟩ := h
  exact kbn_mk fun us ws h1 h2 => match us, ws, h1, h2 with | [_, _], [], _, _ => by with_unfolding_all rfl
theorem kb_sign_of : KbAll r_sign_of := fun K kV doc pm an cdv ct n ks h => by
  simp only [r_sign_of, d_sign_of, List.mem_cons, List.mem_nil_iff, or_false, Prod.mk.injEq] at h
  obtain ⟨rfl, rfl⟩ := h
  exact kbn_mk fun us ws h1 h2 => match us, ws, h1, h2 with | [_, _], [], _, _ => by with_unfolding_all rfl
theorem kb_order : KbAll r_order := fun K kV doc pm an cdv ct n ks h => by
  simp only [r_order, d_order, List.mem_cons, List.mem_nil_iff, or_false, Prod.mk.injEq] at h
  obtain ⟨rfl, rfl⟩ := h
  exact kbn_mk fun us ws h1 h2 => match us, ws, h1, h2 with | [_, _, _], [], _, _ => by with_unfolding_all rfl
theorem kb_floor_of_number : KbAll r_floor_of_number := fun K kV doc pm an cdv ct n ks h => by
  simp only [r_floor_of_number, d_floor_of_number, List.mem_cons, List.mem_nil_iff, or_false, Prod.mk.injEq] at h
  obtain ⟨rfl, rfl⟩ := h
  exact kbn_mk fun us ws h1 h2 => match us, ws, h1, h2 with | [_, _], [], _, _ => by with_unfolding_all rfl
theorem kb_check_kind : KbAll r_check_kind := fun K kV doc pm an cdv ct n ks h => by
  simp only [r_check_kind, d_check_kind, List.mem_cons, List.mem_nil_iff, or_false, Prod.mk.injEq] at h
  obtain ⟨rfl, rfl⟩ := h
  exact kbn_mk fun us ws h1 h2 => match us, ws, h1, h2 with | [_], [], _, _ => by with_unfolding_all rfl
theorem kb_check_number : KbAll r_check_number := fun K kV doc pm an cdv ct n ks h => by
  simp only [r_check_number, d_check_number, List.mem_cons, List.mem_nil_iff, or_false, Prod.mk.injEq] at h
  obtain ⟨rfl, rfl⟩ := h
  exact kbn_mk fun us ws h1 h2 => match us, ws, h1, h2 with | [_], [], _, _ => by with_unfolding_all rfl
theorem kb_check_count : KbAll r_check_count := fun K kV doc pm an cdv ct n ks h => by
  simp only [r_check_count, d_check_count, List.mem_cons, List.mem_nil_iff, or_false, Prod.mk.injEq] at h
  obtain ⟨rfl, rfl⟩ := h
  exact kbn_mk fun us ws h1 h2 => match us, ws, h1, h2 with | [_], [], _, _ => by with_unfolding_all rfl
theorem kb_is_number : KbAll r_is_number := fun K kV doc pm an cdv ct n ks h => by
  simp only [r_is_number, d_is_number, List.mem_cons, List.mem_nil_iff, or_false, Prod.mk.injEq] at h
  obtain ⟨rfl, rfl⟩ := h
  exact kbn_mk fun us ws h1 h2 => match us, ws, h1, h2 with | [_], [], _, _ => by with_unfolding_all rfl
theorem kb_sign : KbAll r_sign := fun K kV doc pm an cdv ct n ks h => by
  simp only [r_sign, d_sign, List.mem_cons, List.mem_nil_iff, or_false, Prod.mk.injEq] at h
  rcases h with ⟨rfl, rfl⟩ | ⟨rfl, rfl⟩
  · exact kbn_mk fun us ws h1 h2 => match us, ws, h1, h2 with | [], [_, _], _, _ => by with_unfolding_all rfl
  · exact kbn_mk fun us ws h1 h2 => match us, ws, h1, h2 with | [_, _], [], _, _ => by with_unfolding_all rfl
theorem kb_compared : KbAll r_compared := fun K kV doc pm an cdv ct n ks h => by
  simp only [r_compared, d_compared, List.mem_cons, List.mem_nil_iff, or_false, Prod.mk.injEq] at h
  rcases h with ⟨rfl, rfl⟩ | ⟨rfl, rfl⟩
  · exact kbn_mk fun us ws h1 h2 => match us, ws, h1, h2 with | [], [_, _, _], _, _ => by with_unfolding_all rfl
  · exact kbn_mk fun us ws h1 h2 => match us, ws, h1, h2 with | [_, _, _], [], _, _ => by with_unfolding_all rfl
theorem kb_floor_of : KbAll r_floor_of := fun K kV doc pm an cdv ct n ks h => by
  simp only [r_floor_of, d_floor_of, List.mem_cons, List.mem_nil_iff, or_false, Prod.mk.injEq] at h
  rcases h with ⟨rfl, rfl⟩ | ⟨rfl, rfl⟩
  · exact kbn_mk fun us ws h1 h2 => match us, ws, h1, h2 with | [], [_, _], _, _ => by with_unfolding_all rfl
  · exact kbn_mk fun us ws h1 h2 => match us, ws, h1, h2 with | [_, _], [], _, _ => by with_unfolding_all rfl
theorem kb_about : KbAll r_about := fun K kV doc pm an cdv ct n ks h => by
  simp only [r_about, d_about, List.mem_cons, List.mem_nil_iff, or_false, Prod.mk.injEq] at h
  rcases h with ⟨rfl, rfl⟩ | ⟨rfl, rfl⟩
  · exact kbn_mk fun us ws h1 h2 => match us, ws, h1, h2 with | [], [_, _, _], _, _ => by with_unfolding_all rfl
  · exact kbn_mk fun us ws h1 h2 => match us, ws, h1, h2 with | [_, _, _], [], _, _ => by with_unfolding_all rfl
theorem kb_unit : KbAll r_unit := fun K kV doc pm an cdv ct n ks h => by
  simp only [r_unit, d_unit, List.mem_cons, List.mem_nil_iff, or_false, Prod.mk.injEq] at h
  rcases h with ⟨rfl, rfl⟩ | ⟨rfl, rfl⟩
  · exact kbn_mk fun us ws h1 h2 => match us, ws, h1, h2 with | [], [_], _, _ => by with_unfolding_all rfl
  · exact kbn_mk fun us ws h1 h2 => match us, ws, h1, h2 with | [_], [], _, _ => by with_unfolding_all rfl
theorem kb_stretch_unit : KbAll r_stretch_unit := fun K kV doc pm an cdv ct n ks h => by
  simp only [r_stretch_unit, d_stretch_unit, List.mem_cons, List.mem_nil_iff, or_false, Prod.mk.injEq] at h
  rcases h with ⟨rfl, rfl⟩ | ⟨rfl, rfl⟩
  · exact kbn_mk fun us ws h1 h2 => match us, ws, h1, h2 with | [], [_], _, _ => by with_unfolding_all rfl
  · exact kbn_mk fun us ws h1 h2 => match us, ws, h1, h2 with | [_], [], _, _ => by with_unfolding_all rfl
theorem kb__law_deck : KbAll r__law_deck := fun K kV doc pm an cdv ct n ks h => by
  simp only [r__law_deck, d__law_deck, List.mem_cons, List.mem_nil_iff, or_false, Prod.mk.injEq] at h
  obtain ⟨rfl, rfl⟩ := h
  exact kbn_mk fun us ws h1 h2 => match us, ws, h1, h2 with | [_, _], [], _, _ => by with_unfolding_all rfl
theorem kb__law_take : KbAll r__law_take := fun K kV doc pm an cdv ct n ks h => by
  simp only [r__law_take, d__law_take, List.mem_cons, List.mem_nil_iff, or_false, Prod.mk.injEq] at h
  obtain ⟨rfl, rfl⟩ := h
  exact kbn_mk fun us ws h1 h2 => match us, ws, h1, h2 with | [_, _], [], _, _ => by with_unfolding_all rfl
theorem kb__law_gcd : KbAll r__law_gcd := fun K kV doc pm an cdv ct n ks h => by
  simp only [r__law_gcd, d__law_gcd, List.mem_cons, List.mem_nil_iff, or_false, Prod.mk.injEq] at h
  obtain ⟨rfl, rfl⟩ := h
  exact kbn_mk fun us ws h1 h2 => match us, ws, h1, h2 with | [_, _], [], _, _ => by with_unfolding_all rfl
theorem kb__law_num : KbAll r__law_num := fun K kV doc pm an cdv ct n ks h => by
  simp only [r__law_num, d__law_num, List.mem_cons, List.mem_nil_iff, or_false, Prod.mk.injEq] at h
  obtain ⟨rfl, rfl⟩ := h
  exact kbn_mk fun us ws h1 h2 => match us, ws, h1, h2 with | [_, _, _], [], _, _ => by with_unfolding_all rfl
theorem kb__law_plus : KbAll r__law_plus := fun K kV doc pm an cdv ct n ks h => by
  simp only [r__law_plus, d__law_plus, List.mem_cons, List.mem_nil_iff, or_false, Prod.mk.injEq] at h
  obtain ⟨rfl, rfl⟩ := h
  exact kbn_mk fun us ws h1 h2 => match us, ws, h1, h2 with | [_, _], [], _, _ => by with_unfolding_all rfl
theorem kb__law_minus : KbAll r__law_minus := fun K kV doc pm an cdv ct n ks h => by
  simp only [r__law_minus, d__law_minus, List.mem_cons, List.mem_nil_iff, or_false, Prod.mk.injEq] at h
  obtain ⟨rfl, rfl⟩ := h
  exact kbn_mk fun us ws h1 h2 => match us, ws, h1, h2 with | [_, _], [], _, _ => by with_unfolding_all rfl
theorem kb__law_times : KbAll r__law_times := fun K kV doc pm an cdv ct n ks h => by
  simp only [r__law_times, d__law_times, List.mem_cons, List.mem_nil_iff, or_false, Prod.mk.injEq] at h
  obtain ⟨rfl, rfl⟩ := h
  exact kbn_mk fun us ws h1 h2 => match us, ws, h1, h2 with | [_, _, _], [], _, _ => by with_unfolding_all rfl
theorem kb__law_sign : KbAll r__law_sign := fun K kV doc pm an cdv ct n ks h => by
  simp only [r__law_sign, d__law_sign, List.mem_cons, List.mem_nil_iff, or_false, Prod.mk.injEq] at h
  obtain ⟨rfl, rfl⟩ := h
  exact kbn_mk fun us ws h1 h2 => match us, ws, h1, h2 with | [_, _], [], _, _ => by with_unfolding_all rfl
theorem kb__law_same : KbAll r__law_same := fun K kV doc pm an cdv ct n ks h => by
  simp only [r__law_same, d__law_same, List.mem_cons, List.mem_nil_iff, or_false, Prod.mk.injEq] at h
  obtain ⟨rfl, rfl⟩ := h
  exact kbn_mk fun us ws h1 h2 => match us, ws, h1, h2 with | [_, _], [], _, _ => by with_unfolding_all rfl
theorem kb__law_number : KbAll r__law_number := fun K kV doc pm an cdv ct n ks h => by
  simp only [r__law_number, d__law_number, List.mem_cons, List.mem_nil_iff, or_false, Prod.mk.injEq] at h
  obtain ⟨rfl, rfl⟩ := h
  exact kbn_mk fun us ws h1 h2 => match us, ws, h1, h2 with | [_], [], _, _ => by with_unfolding_all rfl
theorem kb__law_near : KbAll r__law_near := fun K kV doc pm an cdv ct n ks h => by
  simp only [r__law_near, d__law_near, List.mem_cons, List.mem_nil_iff, or_false, Prod.mk.injEq] at h
  obtain ⟨rfl, rfl⟩ := h
  exact kbn_mk fun us ws h1 h2 => match us, ws, h1, h2 with | [_, _], [], _, _ => by with_unfolding_all rfl
theorem kb__law_drawn : KbAll r__law_drawn := fun K kV doc pm an cdv ct n ks h => by
  simp only [r__law_drawn, d__law_drawn, List.mem_cons, List.mem_nil_iff, or_false, Prod.mk.injEq] at h
  obtain ⟨rfl, rfl⟩ := h
  exact kbn_mk fun us ws h1 h2 => match us, ws, h1, h2 with | [_, _], [], _, _ => by with_unfolding_all rfl
theorem kb__law_is_floor : KbAll r__law_is_floor := fun K kV doc pm an cdv ct n ks h => by
  simp only [r__law_is_floor, d__law_is_floor, List.mem_cons, List.mem_nil_iff, or_false, Prod.mk.injEq] at h
  obtain ⟨rfl, rfl⟩ := h
  exact kbn_mk fun us ws h1 h2 => match us, ws, h1, h2 with | [_, _, _], [], _, _ => by with_unfolding_all rfl
theorem kb__law_right : KbAll r__law_right := fun K kV doc pm an cdv ct n ks h => by
  simp only [r__law_right, d__law_right, List.mem_cons, List.mem_nil_iff, or_false, Prod.mk.injEq] at h
  obtain ⟨rfl, rfl⟩ := h
  exact kbn_mk fun us ws h1 h2 => match us, ws, h1, h2 with | [_, _], [], _, _ => by with_unfolding_all rfl
theorem kb__law_units : KbAll r__law_units := fun K kV doc pm an cdv ct n ks h => by
  simp only [r__law_units, d__law_units, List.mem_cons, List.mem_nil_iff, or_false, Prod.mk.injEq] at h
  obtain ⟨rfl, rfl⟩ := h
  exact kbn_mk fun us ws h1 h2 => match us, ws, h1, h2 with | [_], [], _, _ => by with_unfolding_all rfl
theorem kb_law : KbAll r_law := fun K kV doc pm an cdv ct n ks h => by
  simp only [r_law, d_law, List.mem_cons, List.mem_nil_iff, or_false, Prod.mk.injEq] at h
  obtain ⟨rfl, rfl⟩ := h
  exact kbn_mk fun us ws h1 h2 => match us, ws, h1, h2 with | [_], [], _, _ => by with_unfolding_all rfl
theorem kb_all : ∀ r ∈ rows, KbAll r := by
  intro r h
  simp only [rows, List.mem_cons, List.mem_nil_iff, or_false] at h
  rcases h with rfl | rfl | rfl | rfl | rfl | rfl | rfl | rfl | rfl | rfl | rfl | rfl | rfl | rfl | rfl | rfl | rfl | rfl | rfl | rfl | rfl | rfl | rfl | rfl | rfl | rfl | rfl | rfl | rfl | rfl | rfl | rfl | rfl | rfl | rfl | rfl | rfl
  · exact kb_is_integer
  · exact kb_lowest
  · exact kb_is_lowest
  · exact kb_sum_of_two
  · exact kb_opposite
  · exact kb_difference
  · exact kb_times_integer
  · exact kb_rooted
  · exact kb_sign_of
  · exact kb_order
  · exact kb_floor_of_number
  · exact kb_check_kind
  · exact kb_check_number
  · exact kb_check_count
  · exact kb_is_number
  · exact kb_sign
  · exact kb_compared
  · exact kb_floor_of
  · exact kb_about
  · exact kb_unit
  · exact kb_stretch_unit
  · exact kb__law_deck
  · exact kb__law_take
  · exact kb__law_gcd
  · exact kb__law_num
  · exact kb__law_plus
  · exact kb__law_minus
  · exact kb__law_times
  · exact kb__law_sign
  · exact kb__law_same
  · exact kb__law_number
  · exact kb__law_near
  · exact kb__law_drawn
  · exact kb__law_is_floor
  · exact kb__law_right
  · exact kb__law_units
  · exact kb_law
abbrev sI : Stmt := inClass (top 2) 0
theorem init_s : InitS sI where
  body := ⟨_, _, _, _, _, _, _, _, _, _, rfl, fun env => ⟨_, rfl⟩⟩
  sc := ⟨rfl, rfl, rfl, by decide +kernel, rfl, by decide +kernel, by decide +kernel⟩
  ve := by decide +kernel
  bi := fun _ _ _ _ _ _ us hl => match us, hl with | [_, _], _ => rfl
abbrev RW : PySem.W.OpenRow := PySem.W.OpenLaw.row PySem.Challenge.rw_quasifloors_k02_whole_signs_and_floors
abbrev qv : Program := PySem.W.view RW.prog [0, 47]
def nm0 : List PySem.Str := ["__name__", "FloorError", "InvalidKind", "InvalidNumber", "KINDS", "is_integer", "lowest", "is_lowest", "sum_of_two", "opposite", "difference", "times_integer", "rooted", "sign_of", "order", "floor_of_number", "UNITS", "STRETCH_UNITS", "check_kind", "check_number", "check_count", "is_number", "sign", "compared", "floor_of", "about", "unit", "stretch_unit", "_law_deck", "_law_take"]
def nm1 : List PySem.Str := ["_law_gcd", "_law_num", "_law_plus", "_law_minus", "_law_times", "_law_sign", "_law_same", "_law_number", "_law_near", "_law_drawn", "_law_is_floor", "_law_right", "_law_units"]
def names : List PySem.Str := nm0 ++ nm1
abbrev ex : PySem.W.Frag → Bool := exB G "FloorError"
abbrev fns : List He.FnD := rows.map Rw.fn ++ [fnI "FloorError" sI]
abbrev hk : PySem.W.Hook := hookV ex fns
def ob (s : PySem.W.SharedT) : He.Al := obsV ex fns (HandSHeadRun.getT s)
theorem ob_eq (s : PySem.W.SharedT) : ob s = hk.obs s.abs := obsV_eq (HandSHeadRun.getT_eq s)
theorem runT (w : World) : HandSHeadRun.RunEqI RW qv hk ob 20000 names (wB w true) := by
  unfold HandSHeadRun.RunEqI
  kernel_rfl
theorem runF (w : World) : HandSHeadRun.RunEqI RW qv hk ob 20000 names (wB w false) := by
  unfold HandSHeadRun.RunEqI
  kernel_rfl
theorem run (w : World) : HandSHeadRun.RunEqI RW qv hk ob 20000 names w := by
  have h : ∀ b, HandSHeadRun.RunEqI RW qv hk ob 20000 names (wB w b) := fun b => by
    cases b with
    | true => exact runT w
    | false => exact runF w
  have z := h (w.params.followText "special-get-raises")
  rwa [wB_eq] at z
end LawP

set_option Elab.async false
set_option linter.all false
set_option maxRecDepth 100000
set_option maxHeartbeats 0
open PySem PySem.W PySem.Calls PyProof.Rows
theorem PySem.Challenge.cw_quasifloors_k02_whole_signs_and_floors_holds : PySem.Challenge.rw_quasifloors_k02_whole_signs_and_floors.Holds := by
  w_on; o_law
  refine HandSHeadRun.head_imp (r := OpenLaw.row PySem.Challenge.rw_quasifloors_k02_whole_signs_and_floors) (q := LawP.qv) (H := LawP.hk) (ob := LawP.ob) (M := 20000) (loose := LawP.names) (d := HandSHeadRun.topDef (OpenLaw.row PySem.Challenge.rw_quasifloors_k02_whole_signs_and_floors).prog 47) (kwd := []) LawP.ob_eq LawP.run
    (by kernel_rfl) (by kernel_rfl) (by kernel_rfl) (by rfl) (by first | assumption | decide +kernel) (by decide +kernel) ⟨rfl, rfl, rfl, rfl, rfl, by decide +kernel⟩ ?hw ?hc
  case hw => w_witness2
  case hc =>
    exact EV.walk_end (l := PySem.Challenge.rw_quasifloors_k02_whole_signs_and_floors) (G := LawP.G) (rows := LawP.rows) (sI := LawP.sI) (n := LawP.depth) (rL := LawP.r_law) rfl (by kernel_rfl) (by kernel_rfl) ⟨rfl, by decide, by decide⟩ rfl LawP.rows_ok LawP.kb_all LawP.init_s
      (by simp [LawP.rows]) rfl (by kernel_rfl) (fun _ _ _ _ _ _ _ => by with_unfolding_all rfl) LawP.law_true

