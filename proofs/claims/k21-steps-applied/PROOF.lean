import PyProof.Rows.All
import Wide.All
import OpenK.AllK
import Wide.FinOn
import HandS.ForMost
import HandS.ForExc
import HandS.Flow
import HandS.CallSlots
import HandS.TupAny
import HandS.Wide
import HandS.More
import HandS.TupMul
import HandS.Style
import HandS.IsInst
import HandS.TupLe
import HandS.Rev
import HandS.RevRange
import HandS.Zip
import HandS.Walk
import HandS.SortRule
import HandS.RevTup
import KE.KDictPairs
import HandS.Ends
import KE.GoesMore
import PyProof.EnumMake
import KE.KExcSuper
import KE.KSuper
import HandS.Nested
import HandS.ExcInit
import HandS.HotCalls
import HandS.ExcIs
import HandS.ExcField
import KE.KExcIs
import PySem.Challenge.RW_bytescribe_k21_steps_applied
set_option Elab.async false
set_option linter.all false
set_option maxRecDepth 100000
set_option autoImplicit false
/-! Kc: a small functional reading of Python over data. Values are data (tuples are data, too); lists and instances stand in a store. -/
namespace Kc
open PySem PySem.Spec PyProof.Rows L2

/-- data: a caught exception; none, a truth value, a number, a text, a tuple, a list that is only read, a tuple that dict() may read, the object at a place of the store -/
inductive D where
  | non | bl (b : Bool) | int (i : Int) | str (x : Str) | tup (ds : List D) | rol (ds : List D) | ptp (ds : List D) | obj (l : Nat)
  | err (a dx : Addr) (c : Nat) (fs : List (Str × D))
/-- what stands in the store: a list; an instance of the class with a number, with its fields -/
inductive O where
  | lst (ds : List D) | ins (c : Nat) (fs : List (Str × D))
abbrev Env := List (Option D)
abbrev Sto := List O
/-- an exception: its class's number, its fields -/
structure Ex where
  c : Nat
  fs : List (Str × D)
inductive R (α : Type) where
  | ok (a : α) (s : Sto) | exc (x : Ex) (s : Sto) | bad
def R.bind {α β : Type} (r : R α) (k : α → Sto → R β) : R β := match r with
  | .ok a s => k a s
  | .exc x s => .exc x s
  | .bad => .bad

/-! ### how data stand in the heap -/
def SqF (K : PySem.W.Frag) (H : Hp) (a : Addr) (xs : List V) : Prop :=
  (∃ o, H a = some (.frz o (.lst xs))) ∨
    ∃ (o : Obj) (its : Array Value) (n : Nat), K.lookup a = some o ∧ o.cls = .type "list" ∧ o.dict = none ∧ o.data = .seq its n ∧ its.size ≤ sizeLine ∧ Vals xs its.toList
theorem SqF.sq {K : PySem.W.Frag} {H : Hp} {a : Addr} {xs : List V} (h : SqF K H a xs) : SqL K H a xs := by
  rcases h with ⟨o, h⟩ | h
  · exact .inl (.inr ⟨o, h⟩)
  · exact .inr h
section
variable (K : PySem.W.Frag)
mutual
inductive RD (H : Hp) (m : List Addr) : D → V → Prop
  | non : RD H m .non .non
  | bl {b : Bool} : RD H m (.bl b) (.bl b)
  | int {i : Int} : RD H m (.int i) (.int i)
  | str {x : Str} : RD H m (.str x) (.str x)
  | tup {a : Addr} {xs : List V} {ds : List D} : SqT K H a xs → RDs H m ds xs → RD H m (.tup ds) (.ref a)
  | rol {a : Addr} {xs : List V} {ds : List D} : SqF K H a xs → RDs H m ds xs → RD H m (.rol ds) (.ref a)
  | ptp {a : Addr} {o : Obj} {xs : List V} {ds : List D} : H a = some (.frz o (.tup xs)) → o.dict = none → RDs H m ds xs → RD H m (.ptp ds) (.ref a)
  | obj {l : Nat} {a : Addr} : m[l]? = some a → RD H m (.obj l) (.ref a)
  | err {a dx : Addr} {c : Nat} {fs : List (Str × D)} {gs : List (Str × V)} : H dx = some (.xd gs) → RF H m fs gs → RD H m (.err a dx c fs) (.ref a)
inductive RDs (H : Hp) (m : List Addr) : List D → List V → Prop
  | nil : RDs H m [] []
  | cons {d : D} {v : V} {ds : List D} {vs : List V} : RD H m d v → RDs H m ds vs → RDs H m (d :: ds) (v :: vs)
inductive RF (H : Hp) (m : List Addr) : List (Str × D) → List (Str × V) → Prop
  | nil : RF H m [] []
  | cons {f : Str} {d : D} {v : V} {ds : List (Str × D)} {vs : List (Str × V)} : RD H m d v → RF H m ds vs → RF H m ((f, d) :: ds) ((f, v) :: vs)
end
end
/-- heaps grow as far as data ask: tuples and what is frozen stand; the store's places stay -/
structure Gv (H : Hp) (m : List Addr) (H' : Hp) (m' : List Addr) : Prop where
  tup : ∀ a xs, H a = some (.tup xs) → H' a = some (.tup xs)
  frz : ∀ a o u, H a = some (.frz o u) → H' a = some (.frz o u)
  xd : ∀ a gs, H a = some (.xd gs) → H' a = some (.xd gs)
  pre : ∃ r, m' = m ++ r
/-- heaps grow: also what is no object of the store stands, new places are fresh -/
structure Gw (H : Hp) (m : List Addr) (H' : Hp) (m' : List Addr) : Prop where
  tup : ∀ a xs, H a = some (.tup xs) → H' a = some (.tup xs)
  frz : ∀ a o u, H a = some (.frz o u) → H' a = some (.frz o u)
  xd : ∀ a gs, H a = some (.xd gs) → H' a = some (.xd gs)
  pre : ∃ r, m' = m ++ r
  oth : ∀ a o, H a = some o → a ∉ m → H' a = some o
  new : ∀ a, a ∈ m' → a ∈ m ∨ H a = none
theorem Gw.v {H H' : Hp} {m m' : List Addr} (g : Gw H m H' m') : Gv H m H' m' := ⟨g.tup, g.frz, g.xd, g.pre⟩
section
variable {K : PySem.W.Frag} {H H' H'' : Hp} {m m' m'' : List Addr}
theorem Gw.refl : Gw H m H m := ⟨fun _ _ h => h, fun _ _ _ h => h, fun _ _ h => h, ⟨[], by simp⟩, fun _ _ h _ => h, fun _ h => .inl h⟩
theorem Gw.trans (a : Gw H m H' m') (b : Gw H' m' H'' m'') : Gw H m H'' m'' where
  tup := fun x xs h => b.tup x xs (a.tup x xs h)
  frz := fun x o u h => b.frz x o u (a.frz x o u h)
  xd := fun x gs h => b.xd x gs (a.xd x gs h)
  pre := by
    obtain ⟨r, h⟩ := a.pre
    obtain ⟨r', h'⟩ := b.pre
    exact ⟨r ++ r', by rw [h', h, List.append_assoc]⟩
  oth := fun x o h hn => b.oth x o (a.oth x o h hn) fun hm => by
    rcases a.new x hm with h1 | h1
    · exact hn h1
    · rw [h] at h1; cases h1
  new := fun x h => by
    rcases b.new x h with h1 | h1
    · exact a.new x h1
    · cases e : H x with
      | none => exact .inr rfl
      | some o =>
        by_cases hm : x ∈ m
        · exact .inl hm
        · rw [a.oth x o e hm] at h1; cases h1
theorem Gv.get (g : Gv H m H' m') {l : Nat} {a : Addr} (h : m[l]? = some a) : m'[l]? = some a := by
  obtain ⟨r, e⟩ := g.pre
  rw [e, List.getElem?_append_left (List.getElem?_eq_some_iff.mp h).1]
  exact h
theorem SqT.gv (g : Gv H m H' m') {a : Addr} {xs : List V} (h : SqT K H a xs) : SqT K H' a xs := by
  rcases h with (h | ⟨o, h⟩) | h
  · exact .inl (.inl (g.tup _ _ h))
  · exact .inl (.inr ⟨o, g.frz _ _ _ h⟩)
  · exact .inr h
theorem SqF.gv (g : Gv H m H' m') {a : Addr} {xs : List V} (h : SqF K H a xs) : SqF K H' a xs := by
  rcases h with ⟨o, h⟩ | h
  · exact .inl ⟨o, g.frz _ _ _ h⟩
  · exact .inr h
mutual
theorem RD.gv (g : Gv H m H' m') : ∀ {d : D} {v : V}, RD K H m d v → RD K H' m' d v
  | _, _, .non => .non
  | _, _, .bl => .bl
  | _, _, .int => .int
  | _, _, .str => .str
  | _, _, .tup h r => .tup (SqT.gv g h) (RDs.gv g r)
  | _, _, .rol h r => .rol (SqF.gv g h) (RDs.gv g r)
  | _, _, .ptp h n r => .ptp (g.frz _ _ _ h) n (RDs.gv g r)
  | _, _, .obj h => .obj (g.get h)
  | _, _, .err h r => .err (g.xd _ _ h) (RF.gv g r)
theorem RDs.gv (g : Gv H m H' m') : ∀ {ds : List D} {vs : List V}, RDs K H m ds vs → RDs K H' m' ds vs
  | _, _, .nil => .nil
  | _, _, .cons h r => .cons (RD.gv g h) (RDs.gv g r)
theorem RF.gv (g : Gv H m H' m') : ∀ {ds : List (Str × D)} {vs : List (Str × V)}, RF K H m ds vs → RF K H' m' ds vs
  | _, _, .nil => .nil
  | _, _, .cons h r => .cons (RD.gv g h) (RF.gv g r)
end
theorem Gw.get (g : Gw H m H' m') {l : Nat} {a : Addr} (h : m[l]? = some a) : m'[l]? = some a := g.v.get h
theorem SqT.gw (g : Gw H m H' m') {a : Addr} {xs : List V} (h : SqT K H a xs) : SqT K H' a xs := SqT.gv g.v h
theorem SqF.gw (g : Gw H m H' m') {a : Addr} {xs : List V} (h : SqF K H a xs) : SqF K H' a xs := SqF.gv g.v h
theorem RD.gw (g : Gw H m H' m') {d : D} {v : V} (h : RD K H m d v) : RD K H' m' d v := RD.gv g.v h
theorem RDs.gw (g : Gw H m H' m') {ds : List D} {vs : List V} (h : RDs K H m ds vs) : RDs K H' m' ds vs := RDs.gv g.v h
theorem RF.gw (g : Gw H m H' m') {ds : List (Str × D)} {vs : List (Str × V)} (h : RF K H m ds vs) : RF K H' m' ds vs := RF.gv g.v h
theorem RDs.len : ∀ {ds : List D} {vs : List V}, RDs K H m ds vs → vs.length = ds.length
  | _, _, .nil => rfl
  | _, _, .cons _ r => by simp [RDs.len r]
theorem RDs.get : ∀ {ds : List D} {vs : List V} {i : Nat} {d : D}, RDs K H m ds vs → ds[i]? = some d → ∃ v, vs[i]? = some v ∧ RD K H m d v
  | _, _, _, _, .nil, h => by simp at h
  | _, _, 0, _, .cons h _, e => by simp at e; subst e; exact ⟨_, rfl, h⟩
  | _, _, i + 1, _, .cons _ r, e => by
    obtain ⟨v, h1, h2⟩ := RDs.get (i := i) r (by simpa using e)
    exact ⟨v, by simpa using h1, h2⟩
theorem RDs.append : ∀ {ds es : List D} {vs us : List V}, RDs K H m ds vs → RDs K H m es us → RDs K H m (ds ++ es) (vs ++ us)
  | _, _, _, _, .nil, s => s
  | _, _, _, _, .cons h r, s => .cons h (RDs.append r s)
theorem RDs.take : ∀ {ds : List D} {vs : List V} (n : Nat), RDs K H m ds vs → RDs K H m (ds.take n) (vs.take n)
  | _, _, 0, _ => .nil
  | _, _, _ + 1, .nil => .nil
  | _, _, n + 1, .cons h r => .cons h (RDs.take n r)
theorem RDs.drop : ∀ {ds : List D} {vs : List V} (n : Nat), RDs K H m ds vs → RDs K H m (ds.drop n) (vs.drop n)
  | _, _, 0, r => r
  | _, _, _ + 1, .nil => .nil
  | _, _, n + 1, .cons _ r => RDs.drop n r
theorem RDs.set {d : D} {v : V} (h : RD K H m d v) : ∀ {ds : List D} {vs : List V} (i : Nat), RDs K H m ds vs → RDs K H m (ds.set i d) (vs.set i v)
  | _, _, _, .nil => .nil
  | _, _, 0, .cons _ r => .cons h r
  | _, _, i + 1, .cons q r => .cons q (RDs.set h i r)
theorem RDs.reverse {ds : List D} {vs : List V} (h : RDs K H m ds vs) : RDs K H m ds.reverse vs.reverse := by
  induction ds generalizing vs with
  | nil => cases h; exact .nil
  | cons d ds ih =>
    cases h with
    | cons h r => rw [List.reverse_cons, List.reverse_cons]; exact (ih r).append (.cons h .nil)
theorem RDs.nil_iff {ds : List D} {vs : List V} (h : RDs K H m ds vs) : vs = [] ↔ ds = [] := by
  cases h <;> simp
end

/-- the store -/
inductive RO (K : PySem.W.Frag) (cl : Nat → Addr) (H : Hp) (m : List Addr) : O → Addr → Prop
  | lst {a : Addr} {xs : List V} {ds : List D} : H a = some (.lst xs) → RDs K H m ds xs → RO K cl H m (.lst ds) a
  | ins {a dx : Addr} {c : Nat} {fs : List (Str × D)} {gs : List (Str × V)} : H a = some (.ins (cl c) dx gs) → RF K H m fs gs → RO K cl H m (.ins c fs) a
structure RS (K : PySem.W.Frag) (cl : Nat → Addr) (H : Hp) (m : List Addr) (st : Sto) : Prop where
  len : m.length = st.length
  nd : m.Nodup
  at_ : ∀ (l : Nat) (o : O) (a : Addr), st[l]? = some o → m[l]? = some a → RO K cl H m o a
/-- the frame -/
def RE (K : PySem.W.Frag) (H : Hp) (m : List Addr) (env : Env) (σ : L2.St) : Prop :=
  env.length = σ.length ∧ ∀ (i : Nat) (d : D), env[i]? = some (some d) → ∃ v, σ[i]? = some (some v) ∧ RD K H m d v
/-- an exception -/
def RX (K : PySem.W.Frag) (cl : Nat → Addr) (H : Hp) (m : List Addr) (x : Ex) (c : Value) (d : Option Addr) : Prop :=
  c = .ref (cl x.c) ∧ ∃ dd gs, d = some dd ∧ H dd = some (.xd gs) ∧ RF K H m x.fs gs
section
variable {K : PySem.W.Frag} {cl : Nat → Addr} {H H' : Hp} {m m' : List Addr} {st : Sto}
theorem RO.gw {o : O} {a : Addr} (g : Gw H m H' m') (e : H' a = H a) (h : RO K cl H m o a) : RO K cl H' m' o a := by
  cases h with
  | lst h r => exact .lst (e.trans h) (r.gw g)
  | ins h r => exact .ins (e.trans h) (r.gw g)
theorem RO.gv {o : O} {a : Addr} (g : Gv H m H' m') (e : H' a = H a) (h : RO K cl H m o a) : RO K cl H' m' o a := by
  cases h with
  | lst h r => exact .lst (e.trans h) (r.gv g)
  | ins h r => exact .ins (e.trans h) (r.gv g)
theorem RO.there {o : O} {a : Addr} (h : RO K cl H m o a) : H a ≠ none := by
  cases h with
  | lst h r => rw [h]; simp
  | ins h r => rw [h]; simp
theorem RS.get (s : RS K cl H m st) {l : Nat} {o : O} (h : st[l]? = some o) : ∃ a, m[l]? = some a ∧ RO K cl H m o a := by
  have hl : l < m.length := by rw [s.len]; exact (List.getElem?_eq_some_iff.mp h).1
  exact ⟨m[l], by simp [hl], s.at_ l o _ h (by simp [hl])⟩
theorem RS.there (s : RS K cl H m st) {a : Addr} (h : a ∈ m) : H a ≠ none := by
  obtain ⟨l, e⟩ := List.mem_iff_getElem?.mp h
  have hl : l < st.length := by rw [← s.len]; exact (List.getElem?_eq_some_iff.mp e).1
  exact (s.at_ l st[l] a (by simp [hl]) e).there
theorem RS.fresh (s : RS K cl H m st) {a : Addr} (h : H a = none) : a ∉ m := fun hm => s.there hm h
theorem RE.gw {env : Env} {σ : L2.St} (g : Gw H m H' m') (h : RE K H m env σ) : RE K H' m' env σ :=
  ⟨h.1, fun i d e => by
    obtain ⟨v, h1, h2⟩ := h.2 i d e
    exact ⟨v, h1, h2.gw g⟩⟩
theorem RE.set {env : Env} {σ : L2.St} {d : D} {v : V} (h : RE K H m env σ) (r : RD K H m d v) (i : Nat) : RE K H m (env.set i (some d)) (σ.set i (some v)) := by
  refine ⟨by simp [h.1], fun j e hj => ?_⟩
  by_cases hij : i = j
  · subst hij
    have hl : i < env.length := by
      have := (List.getElem?_eq_some_iff.mp hj).1
      simpa using this
    rw [List.getElem?_set_self hl] at hj
    cases hj
    exact ⟨v, by rw [List.getElem?_set_self (by rw [← h.1]; exact hl)], r⟩
  · rw [List.getElem?_set_ne hij] at hj
    obtain ⟨u, h1, h2⟩ := h.2 j e hj
    exact ⟨u, by rw [List.getElem?_set_ne hij]; exact h1, h2⟩
theorem RE.unset {env : Env} {σ : L2.St} (h : RE K H m env σ) (i : Nat) : RE K H m (env.set i none) (σ.set i none) := by
  refine ⟨by simp [h.1], fun j e hj => ?_⟩
  by_cases hij : i = j
  · subst hij
    have hl : i < env.length := by
      have := (List.getElem?_eq_some_iff.mp hj).1
      simpa using this
    rw [List.getElem?_set_self hl] at hj
    cases hj
  · rw [List.getElem?_set_ne hij] at hj
    obtain ⟨u, h1, h2⟩ := h.2 j e hj
    exact ⟨u, by rw [List.getElem?_set_ne hij]; exact h1, h2⟩
/-- a new object that is none of the store's -/
theorem Gw.alloc {p : Addr} {o : HO} (hp : H p = none) : Gw H m (upd H p o) m :=
  ⟨fun a xs h => by rw [upd_ne (ne_of_none h hp)]; exact h, fun a x u h => by rw [upd_ne (ne_of_none h hp)]; exact h, fun a gs h => by rw [upd_ne (ne_of_none h hp)]; exact h, ⟨[], by simp⟩,
    fun a x h _ => by rw [upd_ne (ne_of_none h hp)]; exact h, fun _ h => .inl h⟩
theorem RS.alloc {p : Addr} {o : HO} (s : RS K cl H m st) (hp : H p = none) : RS K cl (upd H p o) m st :=
  ⟨s.len, s.nd, fun l x a h1 h2 => (s.at_ l x a h1 h2).gw (Gw.alloc hp) (by
    rw [upd_ne]
    rintro rfl
    exact s.there (List.mem_of_getElem? h2) hp)⟩
/-- a heap that grows by things that are none of the store's -/
theorem RS.grow (s : RS K cl H m st) (g : Gw H m H' m) (e : ∀ a ∈ m, H' a = H a) : RS K cl H' m st :=
  ⟨s.len, s.nd, fun l x a h1 h2 => (s.at_ l x a h1 h2).gw g (e a (List.mem_of_getElem? h2))⟩
/-- a new object of the store -/
theorem Gw.push {p : Addr} {o : HO} (hp : H p = none) : Gw H m (upd H p o) (m ++ [p]) :=
  ⟨fun a xs h => by rw [upd_ne (ne_of_none h hp)]; exact h, fun a x u h => by rw [upd_ne (ne_of_none h hp)]; exact h, fun a gs h => by rw [upd_ne (ne_of_none h hp)]; exact h, ⟨[p], rfl⟩,
    fun a x h _ => by rw [upd_ne (ne_of_none h hp)]; exact h, fun a h => by
      rcases List.mem_append.mp h with h | h
      · exact .inl h
      · rw [List.mem_singleton] at h; subst h; exact .inr hp⟩
theorem RS.push {p : Addr} {o : HO} {x : O} (s : RS K cl H m st) (hp : H p = none) (r : RO K cl (upd H p o) (m ++ [p]) x p) : RS K cl (upd H p o) (m ++ [p]) (st ++ [x]) := by
  refine ⟨by simp [s.len], ?_, fun l y a h1 h2 => ?_⟩
  · rw [List.nodup_append]
    refine ⟨s.nd, by simp, fun a ha b hb => ?_⟩
    rw [List.mem_singleton] at hb
    subst hb
    rintro rfl
    exact s.fresh hp ha
  · by_cases hl : l < m.length
    · rw [List.getElem?_append_left hl] at h2
      rw [List.getElem?_append_left (by rw [← s.len]; exact hl)] at h1
      exact (s.at_ l y a h1 h2).gw (Gw.push hp) (by
        rw [upd_ne]
        rintro rfl
        exact s.there (List.mem_of_getElem? h2) hp)
    · have e : l = m.length := by
        have := (List.getElem?_eq_some_iff.mp h2).1
        simp at this
        omega
      subst e
      rw [List.getElem?_append_right (Nat.le_refl _)] at h2
      rw [s.len, List.getElem?_append_right (Nat.le_refl _)] at h1
      simp at h1 h2
      subst h1 h2
      exact r
theorem push_get {p : Addr} (s : RS K cl H m st) : (m ++ [p])[st.length]? = some p := by
  rw [← s.len, List.getElem?_append_right (Nat.le_refl _)]
  simp
/-- an object of the store is changed -/
theorem Gw.write {p : Addr} {l : Nat} {o : HO} (hp : m[l]? = some p) (ho : ∀ xs, H p ≠ some (.tup xs)) (hf : ∀ x u, H p ≠ some (.frz x u)) (hx : ∀ gs, H p ≠ some (.xd gs)) : Gw H m (upd H p o) m where
  tup := fun a xs h => by
    rw [upd_ne (fun e => ho xs (by rw [← e]; exact h))]; exact h
  frz := fun a x u h => by
    rw [upd_ne (fun e => hf x u (by rw [← e]; exact h))]; exact h
  xd := fun a gs h => by
    rw [upd_ne (fun e => hx gs (by rw [← e]; exact h))]; exact h
  pre := ⟨[], by simp⟩
  oth := fun a x h hn => by
    rw [upd_ne (fun e => hn (by rw [e]; exact List.mem_of_getElem? hp))]; exact h
  new := fun _ h => .inl h
theorem RO.mut {o : O} {a : Addr} (h : RO K cl H m o a) : (∀ xs, H a ≠ some (.tup xs)) ∧ (∀ x u, H a ≠ some (.frz x u)) ∧ ∀ gs, H a ≠ some (.xd gs) := by
  cases h with
  | lst h r =>
    rw [h]
    exact ⟨fun xs z => (by cases z), fun x u z => (by cases z), fun gs z => (by cases z)⟩
  | ins h r =>
    rw [h]
    exact ⟨fun xs z => (by cases z), fun x u z => (by cases z), fun gs z => (by cases z)⟩
theorem nd_ix {m : List Addr} (h : m.Nodup) {i j : Nat} {a : Addr} (hi : m[i]? = some a) (hj : m[j]? = some a) : i = j := by
  obtain ⟨h1, e1⟩ := List.getElem?_eq_some_iff.mp hi
  obtain ⟨h2, e2⟩ := List.getElem?_eq_some_iff.mp hj
  have p := List.pairwise_iff_getElem.mp h
  rcases Nat.lt_trichotomy i j with z | z | z
  · exact absurd (e1.trans e2.symm) (p i j h1 h2 z)
  · exact z
  · exact absurd (e2.trans e1.symm) (p j i h2 h1 z)
theorem RS.write {p : Addr} {l : Nat} {o : HO} {x y : O} (s : RS K cl H m st) (hx : st[l]? = some x) (hp : m[l]? = some p) (r : RO K cl (upd H p o) m y p) : Gw H m (upd H p o) m ∧ RS K cl (upd H p o) m (st.set l y) := by
  have rx := s.at_ l x p hx hp
  have g : Gw H m (upd H p o) m := Gw.write hp rx.mut.1 rx.mut.2.1 rx.mut.2.2
  refine ⟨g, by simp [s.len], s.nd, fun j z a h1 h2 => ?_⟩
  by_cases hj : l = j
  · subst hj
    rw [List.getElem?_set_self (List.getElem?_eq_some_iff.mp hx).1] at h1
    cases h1
    rw [hp] at h2
    cases h2
    exact r
  · rw [List.getElem?_set_ne hj] at h1
    refine (s.at_ j z a h1 h2).gw g ?_
    rw [upd_ne]
    rintro rfl
    exact hj (nd_ix s.nd hp h2)
end
end Kc

namespace Kc
open PySem PySem.Spec PyProof.Rows L2
abbrev FE := Env → Sto → R D
abbrev FB := Env → Sto → R Bool
abbrev FA := Env → Sto → R (List D)

/-- what is wanted of a result: Q of whatever stands for its value, W of an exception -/
def Snd {α β : Type} (K : PySem.W.Frag) (cl : Nat → Addr) (rel : Hp → List Addr → α → β → Prop) (r : R α) (H : Hp) (m : List Addr) (Q : β → Hp → Prop) (W : Value → Option Addr → Hp → Prop) : Prop := match r with
  | .ok d st => ∀ v H' m', Gw H m H' m' → RS K cl H' m' st → rel H' m' d v → Q v H'
  | .exc x st => ∀ c dd H' m', Gw H m H' m' → RS K cl H' m' st → RX K cl H' m' x c dd → W c dd H'
  | .bad => False
section
variable {K : PySem.W.Frag} {cl : Nat → Addr} {α β γ δ : Type} {rel : Hp → List Addr → α → β → Prop} {rel' : Hp → List Addr → γ → δ → Prop} {H H1 : Hp} {m m1 : List Addr} {W W' : Value → Option Addr → Hp → Prop}
theorem Snd.from {r : R α} {Q : β → Hp → Prop} (g : Gw H m H1 m1) (h : Snd K cl rel r H m Q W) : Snd K cl rel r H1 m1 Q W := by
  cases r with
  | ok d st => exact fun v H' m' g' s r => h v H' m' (g.trans g') s r
  | exc x st => exact fun c dd H' m' g' s r => h c dd H' m' (g.trans g') s r
  | bad => exact h
theorem Snd.imp {r : R α} {Q Q' : β → Hp → Prop} (h : Snd K cl rel r H m Q W) (hq : ∀ v H, Q v H → Q' v H) (hw : ∀ c d H, W c d H → W' c d H) : Snd K cl rel r H m Q' W' := by
  cases r with
  | ok d st => exact fun v H' m' g' s r => hq _ _ (h v H' m' g' s r)
  | exc x st => exact fun c dd H' m' g' s r => hw _ _ _ (h c dd H' m' g' s r)
  | bad => exact h
theorem snd_bind {r : R α} {k : α → Sto → R γ} {Q : β → Hp → Prop} {Q' : δ → Hp → Prop} (h : Snd K cl rel' (r.bind k) H m Q' W)
    (hk : ∀ d st v H1 m1, Gw H m H1 m1 → RS K cl H1 m1 st → rel H1 m1 d v → Snd K cl rel' (k d st) H1 m1 Q' W → Q v H1) : Snd K cl rel r H m Q W := by
  cases r with
  | ok d st => exact fun v H' m' g s r => hk d st v H' m' g s r (Snd.from g h)
  | exc x st => exact h
  | bad => exact h
theorem snd_ok {st : Sto} {d : α} {v : β} {Q : β → Hp → Prop} (h : Snd K cl rel (.ok d st) H m Q W) {H' : Hp} {m' : List Addr} (g : Gw H m H' m') (s : RS K cl H' m' st) (r : rel H' m' d v) : Q v H' := h v H' m' g s r
end
def tE (K : PySem.W.Frag) (cl : Nat → Addr) (W : WX) (f : FE) : TE := fun σ H Q => ∃ m env st, RE K H m env σ ∧ RS K cl H m st ∧ Snd K cl (RD K) (f env st) H m Q fun c d H' => W c d σ H'
def tT (K : PySem.W.Frag) (cl : Nat → Addr) (W : WX) (f : FB) : TT := fun σ H Q => ∃ m env st, RE K H m env σ ∧ RS K cl H m st ∧ Snd K cl (fun _ _ a b => a = b) (f env st) H m Q fun c d H' => W c d σ H'
def tA (K : PySem.W.Frag) (cl : Nat → Addr) (W : WX) (f : FA) : TA := fun σ H Q => ∃ m env st, RE K H m env σ ∧ RS K cl H m st ∧ Snd K cl (RDs K) (f env st) H m Q fun c d H' => W c d σ H'
/-- in the context X an expression reads as f -/
def SE (X : Cx) (cl : Nat → Addr) (W : WX) (e : Expr) (f : FE) : Prop := PE X e (tE X.K cl W f)
def ST (X : Cx) (cl : Nat → Addr) (W : WX) (e : Expr) (f : FB) : Prop := PT X e (tT X.K cl W f)
def SW (X : Cx) (cl : Nat → Addr) (W : WX) (e : Expr) (f : FB) : Prop := PW X e (tT X.K cl W f)
def SA (X : Cx) (cl : Nat → Addr) (W : WX) (es : List Expr) (f : FA) : Prop := PA X es (tA X.K cl W f)
theorem PE.imp {X : Cx} {e : Expr} {t t' : TE} (h : PE X e t) (i : ∀ σ H Q, t' σ H Q → t σ H Q) : PE X e t' := ⟨fun pins s σ H Q I q => h.run pins s σ H Q I (i σ H Q q)⟩
theorem PT.imp {X : Cx} {e : Expr} {t t' : TT} (h : PT X e t) (i : ∀ σ H Q, t' σ H Q → t σ H Q) : PT X e t' := ⟨fun pins s σ H Q I q => h.run pins s σ H Q I (i σ H Q q)⟩
theorem PW.imp {X : Cx} {e : Expr} {t t' : TT} (h : PW X e t) (i : ∀ σ H Q, t' σ H Q → t σ H Q) : PW X e t' := ⟨fun wh pins s σ H Q I q => h.run wh pins s σ H Q I (i σ H Q q)⟩
theorem PA.imp {X : Cx} {e : List Expr} {t t' : TA} (h : PA X e t) (i : ∀ σ H Q, t' σ H Q → t σ H Q) : PA X e t' := ⟨fun pos pins s σ H Q I q => h.run pos pins s σ H Q I (i σ H Q q)⟩

/-! ### the readings -/
def bVar (i : Nat) : FE := fun env st => match env[i]? with
  | some (some d) => .ok d st
  | _ => .bad
def bK (d : D) : FE := fun _ st => .ok d st
def bOp (o : D → D → Sto → R D) (f g : FE) : FE := fun env st => (f env st).bind fun x s => (g env s).bind fun y s' => o x y s'
def bUn (o : D → Sto → R D) (f : FE) : FE := fun env st => (f env st).bind fun x s => o x s
def bNil : FA := fun _ st => .ok [] st
def bCons (f : FE) (g : FA) : FA := fun env st => (f env st).bind fun x s => (g env s).bind fun xs s' => .ok (x :: xs) s'
def bTup (g : FA) : FE := fun env st => (g env st).bind fun xs s => if xs.length ≤ sizeLine then .ok (.tup xs) s else .bad
def newL (xs : List D) (s : Sto) : R D := .ok (.obj s.length) (s ++ [.lst xs])
def bLst (g : FA) : FE := fun env st => (g env st).bind fun xs s => if xs.length ≤ sizeLine then newL xs s else .bad
def bIf (c : FB) (f g : FE) : FE := fun env st => (c env st).bind fun b s => if b = true then f env s else g env s
def bAnd (f g : FB) : FB := fun env st => (f env st).bind fun b s => if b = true then g env s else .ok false s
def bOr (f g : FB) : FB := fun env st => (f env st).bind fun b s => if b = true then .ok true s else g env s
def bNot (f : FB) : FB := fun env st => (f env st).bind fun b s => .ok (!b) s
/-- a test's value -/
def bBool (f : FE) : FB := fun env st => (f env st).bind fun x s => match x with
  | .bl b => .ok b s
  | _ => .bad
def asBl (f : FB) : FE := fun env st => (f env st).bind fun b s => .ok (.bl b) s
/-- the list that a value is -/
def lstOf (st : Sto) : D → Option (List D)
  | .obj l => match st[l]? with
    | some (.lst ds) => some ds
    | _ => none
  | .rol ds => some ds
  | _ => none
def truth (st : Sto) : D → Option Bool
  | .non => some false
  | .bl b => some b
  | .int i => some (i != 0)
  | .str x => if x.length ≤ sizeLine then some ((x.length : Int) != 0) else none
  | .tup ds => some (!ds.isEmpty)
  | .ptp ds => some (!ds.isEmpty)
  | d => (lstOf st d).map fun ds => !ds.isEmpty
def bTru (f : FE) : FB := fun env st => (f env st).bind fun x s => match truth s x with
  | some b => .ok b s
  | none => .bad

section
variable {X : Cx} {cl : Nat → Addr} {W : WX} {e a b c : Expr} {es : List Expr} {f g : FE} {fa : FA} {p q r : FB} {pos : Pos}
theorem k_var {i : Nat} {x : Str} (hN : X.N[i]? = some x := by rfl) (hv : Vis X.env.scope x := by first | exact Or.inl rfl | exact Or.inr (Or.inl rfl) | exact Or.inr (Or.inr rfl)) (hd : (x == ("__debug__" : Str)) = false := by decide)
    (hcd : (x == ("__classdict__" : Str)) = false := by decide) : SE X cl W (.Name x pos) (bVar i) := by
  refine PE.imp (pe_var hN hv hd hcd) fun σ H Q ⟨m, env, st, hE, hS, h⟩ => ?_
  unfold bVar at h
  split at h
  · rename_i d hd
    obtain ⟨v, h1, h2⟩ := hE.2 i d hd
    exact ⟨v, h1, snd_ok h Gw.refl hS h2⟩
  · exact h.elim
theorem k_int {i : Int} {j : Nat} : SE X cl W (.Constant (.int i) j pos) (bK (.int i)) := PE.imp pe_int fun _ _ _ ⟨_, _, _, _, hS, h⟩ => snd_ok h Gw.refl hS .int
theorem k_str {i : Str} {j : Nat} : SE X cl W (.Constant (.str i) j pos) (bK (.str i)) := PE.imp pe_str fun _ _ _ ⟨_, _, _, _, hS, h⟩ => snd_ok h Gw.refl hS .str
theorem k_bl {i : Bool} {j : Nat} : SE X cl W (.Constant (.bool i) j pos) (bK (.bl i)) := PE.imp pe_bl fun _ _ _ ⟨_, _, _, _, hS, h⟩ => snd_ok h Gw.refl hS .bl
theorem k_non {j : Nat} : SE X cl W (.Constant .none j pos) (bK .non) := PE.imp pe_non fun _ _ _ ⟨_, _, _, _, hS, h⟩ => snd_ok h Gw.refl hS .non
theorem k_nil : SA X cl W [] bNil := PA.imp pa_nil fun _ _ _ ⟨_, _, _, _, hS, h⟩ => snd_ok h Gw.refl hS .nil
theorem k_cons (ha : SE X cl W a f) (hr : SA X cl W es fa) (hs : starEach (a :: es) X.env = (false, eval a X.env) :: starEach es X.env := by rfl) : SA X cl W (a :: es) (bCons f fa) := by
  refine PA.imp (pa_cons ha hr hs) fun σ H Q ⟨m, env, st, hE, hS, h⟩ => ?_
  exact ⟨m, env, st, hE, hS, snd_bind h fun d st1 v H1 m1 g1 s1 r1 h1 => ⟨m1, env, st1, hE.gw g1, s1, snd_bind h1 fun ds st2 vs H2 m2 g2 s2 r2 h2 => snd_ok h2 Gw.refl s2 (.cons (r1.gw g2) r2)⟩⟩
theorem k_tup {x1 : Nat} (ha : SA X cl W es fa) : SE X cl W (.Tuple es x1 pos) (bTup fa) := by
  refine PE.imp (pe_tup ha) fun σ H Q ⟨m, env, st, hE, hS, h⟩ => ?_
  refine ⟨m, env, st, hE, hS, snd_bind h fun ds st1 vs H1 m1 g1 s1 r1 h1 => ?_⟩
  by_cases hz : ds.length ≤ sizeLine
  · rw [if_pos hz] at h1
    refine ⟨by rw [r1.len]; exact hz, fun p hp => snd_ok h1 (Gw.alloc hp) (s1.alloc hp) (.tup (SqT.of upd_same) (r1.gw (Gw.alloc hp)))⟩
  · rw [if_neg hz] at h1
    exact h1.elim
theorem new_ok {K : PySem.W.Frag} {H : Hp} {m : List Addr} {st : Sto} {ds : List D} {vs : List V} {Q : VK} {Wx : Value → Option Addr → Hp → Prop} {p : Addr} (hS : RS K cl H m st) (r : RDs K H m ds vs) (h : Snd K cl (RD K) (newL ds st) H m Q Wx) (hp : H p = none) : Q (.ref p) (upd H p (.lst vs)) :=
  snd_ok h (Gw.push hp) (hS.push hp (.lst upd_same (r.gw (Gw.push hp)))) (.obj (push_get hS))
theorem k_lst (ha : SA X cl W es fa) : SE X cl W (.List es pos) (bLst fa) := by
  refine PE.imp (pe_lst ha) fun σ H Q ⟨m, env, st, hE, hS, h⟩ => ?_
  refine ⟨m, env, st, hE, hS, snd_bind h fun ds st1 vs H1 m1 g1 s1 r1 h1 => ?_⟩
  by_cases hz : ds.length ≤ sizeLine
  · rw [if_pos hz] at h1
    exact ⟨by rw [r1.len]; exact hz, fun p hp => new_ok s1 r1 h1 hp⟩
  · rw [if_neg hz] at h1
    exact h1.elim
theorem k_ife (hc : ST X cl W c p) (ha : SE X cl W a f) (hb : SE X cl W b g) : SE X cl W (.IfExp c a b pos) (bIf p f g) := by
  refine PE.imp (pe_ifExp hc ha hb) fun σ H Q ⟨m, env, st, hE, hS, h⟩ => ?_
  refine ⟨m, env, st, hE, hS, snd_bind h fun d st1 v H1 m1 g1 s1 r1 h1 => ?_⟩
  subst r1
  cases d with
  | true => exact ⟨m1, env, st1, hE.gw g1, s1, h1⟩
  | false => exact ⟨m1, env, st1, hE.gw g1, s1, h1⟩
/-! ### tests -/
theorem lst_of {K : PySem.W.Frag} {H : Hp} {m : List Addr} {st : Sto} {d : D} {v : V} {ds : List D} (hS : RS K cl H m st) (r : RD K H m d v) (h : lstOf st d = some ds) : ∃ a xs, v = .ref a ∧ SqL K H a xs ∧ RDs K H m ds xs := by
  cases r with
  | obj hl =>
    rename_i l a
    unfold lstOf at h
    dsimp only at h
    split at h
    · rename_i es he
      cases h
      have ro := hS.at_ l _ a he hl
      cases ro with
      | lst e r => exact ⟨a, _, rfl, SqL.of e, r⟩
    · cases h
  | rol hs rs =>
    cases h
    exact ⟨_, _, rfl, hs.sq, rs⟩
  | _ => cases h
theorem isEmpty_len {α β : Type} {a : List α} {b : List β} (h : a.length = b.length) : a.isEmpty = b.isEmpty := by
  cases a <;> cases b <;> simp_all
theorem truth_ok {K : PySem.W.Frag} {H : Hp} {m : List Addr} {st : Sto} {d : D} {v : V} {b : Bool} (hS : RS K cl H m st) (r : RD K H m d v) (h : truth st d = some b) : TruV K v H b := by
  cases r with
  | non => cases h; rfl
  | bl => cases h; rfl
  | int => cases h; rfl
  | str =>
    unfold truth at h
    dsimp only at h
    split at h
    · rename_i hz
      cases h
      exact ⟨hz, rfl⟩
    · cases h
  | tup hs rs =>
    cases h
    exact .inr (.inl ⟨_, hs, by rw [isEmpty_len rs.len]⟩)
  | ptp hs _ rs =>
    cases h
    exact .inr (.inl ⟨_, .inl (.inr ⟨_, hs⟩), by rw [isEmpty_len rs.len]⟩)
  | obj hl =>
    rename_i l a
    have h : (lstOf st (.obj l)).map (fun ds => !ds.isEmpty) = some b := h
    cases e : lstOf st (.obj l) with
    | none => rw [e] at h; cases h
    | some ds =>
      rw [e] at h
      cases h
      obtain ⟨a, xs, ev, hs, rs⟩ := lst_of hS (.obj hl) e
      cases ev
      exact .inl ⟨_, hs, by rw [isEmpty_len rs.len]⟩
  | rol hs rs =>
    cases h
    exact .inl ⟨_, hs.sq, by rw [isEmpty_len rs.len]⟩
  | err => cases h
theorem kt_tru (ha : SE X cl W a f) (he : ∀ whole, isTrue a X.env whole = (do let v ← whole; standAt a.pos; holding [v] (truthy v)) := by intro _; rfl) : ST X cl W a (bTru f) := by
  refine PT.imp (pt_truth ha he) fun σ H Q ⟨m, env, st, hE, hS, h⟩ => ?_
  refine ⟨m, env, st, hE, hS, snd_bind h fun d st1 v H1 m1 g1 s1 r1 h1 => ?_⟩
  cases e : truth st1 d with
  | none => simp only [e] at h1; exact h1.elim
  | some b =>
    simp only [e] at h1
    exact ⟨b, truth_ok s1 r1 e, snd_ok h1 Gw.refl s1 rfl⟩
theorem kt_not (ha : ST X cl W a p) : ST X cl W (.UnaryOp .Not a pos) (bNot p) := by
  refine PT.imp (pt_not ha) fun σ H Q ⟨m, env, st, hE, hS, h⟩ => ?_
  refine ⟨m, env, st, hE, hS, snd_bind h fun d st1 v H1 m1 g1 s1 r1 h1 => ?_⟩
  subst r1
  exact snd_ok h1 Gw.refl s1 rfl
theorem kw_pt (h : SW X cl W a p) : ST X cl W a p := PW.pt h
theorem kw_and1 (ha : ST X cl W a p) : SW X cl W (.BoolOp .And [a] pos) p := pw_and1 ha
theorem kw_or1 (ha : ST X cl W a p) : SW X cl W (.BoolOp .Or [a] pos) p := pw_or1 ha
theorem kw_and {rest : List Expr} (ha : ST X cl W a p) (hb : SW X cl W (.BoolOp .And (b :: rest) pos) q) : SW X cl W (.BoolOp .And (a :: b :: rest) pos) (bAnd p q) := by
  refine PW.imp (pw_and ha hb) fun σ H Q ⟨m, env, st, hE, hS, h⟩ => ?_
  refine ⟨m, env, st, hE, hS, snd_bind h fun d st1 v H1 m1 g1 s1 r1 h1 => ?_⟩
  subst r1
  cases d with
  | true => exact ⟨m1, env, st1, hE.gw g1, s1, h1⟩
  | false => exact snd_ok h1 Gw.refl s1 rfl
theorem kw_or {rest : List Expr} (ha : ST X cl W a p) (hb : SW X cl W (.BoolOp .Or (b :: rest) pos) q) : SW X cl W (.BoolOp .Or (a :: b :: rest) pos) (bOr p q) := by
  refine PW.imp (pw_or ha hb) fun σ H Q ⟨m, env, st, hE, hS, h⟩ => ?_
  refine ⟨m, env, st, hE, hS, snd_bind h fun d st1 v H1 m1 g1 s1 r1 h1 => ?_⟩
  subst r1
  cases d with
  | true => exact snd_ok h1 Gw.refl s1 rfl
  | false => exact ⟨m1, env, st1, hE.gw g1, s1, h1⟩
/-! ### operators -/
def OpS (X : Cx) (cl : Nat → Addr) (f : Value → Value → Sem Value) (o : D → D → Sto → R D) : Prop :=
  ∃ r : R2, OpR X f r ∧ ∀ (x y : V) (d e : D) (H : Hp) (m : List Addr) (st : Sto) (Q : VK) (Wx : Value → Option Addr → Hp → Prop), RD X.K H m d x → RD X.K H m e y → RS X.K cl H m st → Snd X.K cl (RD X.K) (o d e st) H m Q Wx → r x y H Q
def UnS (X : Cx) (cl : Nat → Addr) (f : Value → Sem Value) (o : D → Sto → R D) : Prop :=
  ∃ r : V → Hp → VK → Prop, UnR X f r ∧ ∀ (x : V) (d : D) (H : Hp) (m : List Addr) (st : Sto) (Q : VK) (Wx : Value → Option Addr → Hp → Prop), RD X.K H m d x → RS X.K cl H m st → Snd X.K cl (RD X.K) (o d st) H m Q Wx → r x H Q
theorem op_run {σ : L2.St} {H : Hp} {Q : VK} {o : D → D → Sto → R D} {rr : R2} (ho : ∀ (x y : V) (d e : D) (H : Hp) (m : List Addr) (st : Sto) (Q : VK) (Wx : Value → Option Addr → Hp → Prop), RD X.K H m d x → RD X.K H m e y → RS X.K cl H m st → Snd X.K cl (RD X.K) (o d e st) H m Q Wx → rr x y H Q)
    (h : tE X.K cl W (bOp o f g) σ H Q) : tOp rr (tE X.K cl W f) (tE X.K cl W g) σ H Q := by
  obtain ⟨m, env, st, hE, hS, h⟩ := h
  exact ⟨m, env, st, hE, hS, snd_bind h fun d st1 v H1 m1 g1 s1 r1 h1 => ⟨m1, env, st1, hE.gw g1, s1, snd_bind h1 fun d2 st2 u H2 m2 g2 s2 r2 h2 => ho _ _ _ _ _ _ _ _ _ (r1.gw g2) r2 s2 h2⟩⟩
theorem k_bin {op : Operator} {o : D → D → Sto → R D} (ho : OpS X cl (binaryOp op) o) (ha : SE X cl W a f) (hb : SE X cl W b g) : SE X cl W (.BinOp a op b pos) (bOp o f g) := by
  obtain ⟨r, hr, ho⟩ := ho
  exact PE.imp (pe_op hr ha hb) fun σ H Q h => op_run ho h
theorem k_un {op : UnaryOp} {o : D → Sto → R D} (ho : UnS X cl (unaryOp op) o) (ha : SE X cl W a f) : SE X cl W (.UnaryOp op a pos) (bUn o f) := by
  obtain ⟨r, hr, ho⟩ := ho
  refine PE.imp (pe_un hr ha) fun σ H Q ⟨m, env, st, hE, hS, h⟩ => ?_
  exact ⟨m, env, st, hE, hS, snd_bind h fun d st1 v H1 m1 g1 s1 r1 h1 => ho _ _ _ _ _ _ _ r1 s1 h1⟩
theorem k_cmp {op : CmpOp} {o : D → D → Sto → R D} (ho : OpS X cl (compareOp op) o) (ha : SE X cl W a f) (hb : SE X cl W b g) (hm : behindInMarks op b = false := by rfl) : SE X cl W (.Compare a [op] [b] pos) (bOp o f g) := by
  obtain ⟨r, hr, ho⟩ := ho
  exact PE.imp (pe_cmpR hr ha hb hm) fun σ H Q h => op_run ho h
theorem kt_cmp {op : CmpOp} {o : D → D → Sto → R D} (ho : OpS X cl (compareOp op) o) (ha : SE X cl W a f) (hb : SE X cl W b g) (hm : behindInMarks op b = false := by rfl) : ST X cl W (.Compare a [op] [b] pos) (bBool (bOp o f g)) := by
  obtain ⟨r, hr, ho⟩ := ho
  refine PT.imp (pt_cmpR hr ha hb hm) fun σ H Q ⟨m, env, st, hE, hS, h⟩ => ?_
  refine op_run ho ⟨m, env, st, hE, hS, snd_bind h fun d st1 v H1 m1 g1 s1 r1 h1 => ?_⟩
  cases r1 with
  | bl => exact ⟨_, rfl, snd_ok h1 Gw.refl s1 rfl⟩
  | _ => exact h1.elim
end
end Kc

namespace Kc
open PySem PySem.Spec PyProof.Rows L2
/-! ### what the operators give -/
def mulOk (i j : Int) : Bool := decide (i.natAbs < 2 ^ 64) || decide (j.natAbs < 2 ^ 64) || decide (i.natAbs.log2 + j.natAbs.log2 < 1000000)
def dAdd : D → D → Sto → R D
  | .int i, .int j, st => .ok (.int (i + j)) st
  | .str x, .str y, st => if x.length + y.length ≤ sizeLine then .ok (.str (x ++ y)) st else .bad
  | .tup xs, .tup ys, st => if xs.length + ys.length ≤ sizeLine then .ok (.tup (xs ++ ys)) st else .bad
  | .obj l, .obj k, st => match st[l]?, st[k]? with
    | some (.lst xs), some (.lst ys) => if xs.length + ys.length ≤ sizeLine then newL (xs ++ ys) st else .bad
    | _, _ => .bad
  | _, _, _ => .bad
def dSub : D → D → Sto → R D
  | .int i, .int j, st => .ok (.int (i - j)) st
  | _, _, _ => .bad
def rep (k : Int) (xs : List D) : List D := (List.replicate k.toNat xs).flatten
def dMul : D → D → Sto → R D
  | .int i, .int j, st => if mulOk i j = true then .ok (.int (i * j)) st else .bad
  | .obj l, .int k, st => match st[l]? with
    | some (.lst xs) => if -(2 ^ 63) ≤ k ∧ k < 2 ^ 63 ∧ xs.length * k.toNat ≤ sizeLine then newL (rep k xs) st else .bad
    | _ => .bad
  | .tup xs, .int k, st => if xs ≠ [] ∧ 2 ≤ k ∧ k ≤ 1000 ∧ xs.length ≤ 1000 then .ok (.tup (rep k xs)) st else .bad
  | _, _, _ => .bad
def dFdv : D → D → Sto → R D
  | .int i, .int j, st => if j ≠ 0 ∧ j.natAbs < 1073741824 then .ok (.int (i.fdiv j)) st else .bad
  | _, _, _ => .bad
def dMod : D → D → Sto → R D
  | .int i, .int j, st => if j ≠ 0 then .ok (.int (i.fmod j)) st else .bad
  | _, _, _ => .bad
def dPow : D → D → Sto → R D
  | .int i, .int j, st => if 0 ≤ j ∧ j ≤ 1000000 ∧ i.natAbs < 2 ^ 64 then .ok (.int (i ^ j.toNat)) st else .bad
  | _, _, _ => .bad
def dShl : D → D → Sto → R D
  | .int i, .int j, st => if 0 ≤ j ∧ j ≤ 1000000 ∧ i.natAbs < 2 ^ 64 then .ok (.int (i * 2 ^ j.toNat)) st else .bad
  | _, _, _ => .bad
def dShr : D → D → Sto → R D
  | .int i, .int j, st => if 0 ≤ j then .ok (.int (i / 2 ^ j.toNat)) st else .bad
  | _, _, _ => .bad
def dAnd : D → D → Sto → R D
  | .int i, .int j, st => .ok (.int (Builtin.bitAnd i j)) st
  | _, _, _ => .bad
def dCmp (p : Int → Int → Bool) (q : List Nat → List Nat → Bool) : D → D → Sto → R D
  | .int i, .int j, st => .ok (.bl (p i j)) st
  | .str x, .str y, st => .ok (.bl (q x.cps.toList y.cps.toList)) st
  | _, _, _ => .bad
def dLt : D → D → Sto → R D := dCmp (fun i j => decide (i < j)) fun x y => decide (x < y)
def dGt : D → D → Sto → R D := dCmp (fun i j => decide (j < i)) fun x y => decide (y < x)
def dLe : D → D → Sto → R D := dCmp (fun i j => decide (i ≤ j)) fun x y => !decide (y < x)
def dGe : D → D → Sto → R D := dCmp (fun i j => decide (j ≤ i)) fun x y => !decide (x < y)
def dNeg : D → Sto → R D
  | .int i, st => .ok (.int (-i)) st
  | _, _ => .bad
/-- == of scalars -/
def scD : D → D → Option Bool
  | .non, .non => some true
  | .int i, .int j => some (decide (i = j))
  | .bl i, .bl j => some (decide (i = j))
  | .str i, .str j => some (decide (i = j))
  | .non, .int _ => some false | .int _, .non => some false | .non, .bl _ => some false | .bl _, .non => some false | .non, .str _ => some false | .str _, .non => some false
  | .int _, .str _ => some false | .str _, .int _ => some false | .bl _, .str _ => some false | .str _, .bl _ => some false
  | _, _ => none
mutual
/-- plain data -/
def py : D → Option PyData
  | .non => some .none
  | .bl b => some (.bool b)
  | .int i => some (.int i)
  | .str x => some (.str x)
  | .tup ds => (pys ds).map .tuple
  | .rol ds => (pys ds).map .list
  | .ptp ds => (pys ds).map .tuple
  | .obj _ => none
  | .err _ _ _ _ => none
def pys : List D → Option (List PyData)
  | [] => some []
  | d :: ds => match py d, pys ds with
    | some p, some ps => some (p :: ps)
    | _, _ => none
end
/-- .. and a list of the store that holds such -/
def pySt (st : Sto) (d : D) : Option PyData := match d with
  | .obj l => match st[l]? with
    | some (.lst ds) => (pys ds).map .list
    | _ => none
  | d => py d
def eqB (st : Sto) (x y : D) : Option Bool := match scD x y with
  | some b => some b
  | none => match pySt st x, pySt st y with
    | some p, some q => if SeqAt.shaped p = true ∧ SeqAt.shaped q = true then some (PyData.eqv p q) else none
    | _, _ => none
def dEq (x y : D) (st : Sto) : R D := match eqB st x y with
  | some b => .ok (.bl b) st
  | none => .bad
def dNe (x y : D) (st : Sto) : R D := match eqB st x y with
  | some b => .ok (.bl !b) st
  | none => .bad
/-- is None, is True, is False -/
def dIs : D → D → Sto → R D
  | .non, .non, st => .ok (.bl true) st
  | _, .non, st => .ok (.bl false) st
  | .bl a, .bl b, st => .ok (.bl (decide (a = b))) st
  | _, _, _ => .bad
def dIsNot (x y : D) (st : Sto) : R D := (dIs x y st).bind fun d s => match d with
  | .bl b => .ok (.bl !b) s
  | _ => .bad
/-- flat data: none, truth values, numbers, texts -/
def flat : D → Bool
  | .non => true | .bl _ => true | .int _ => true | .str _ => true | _ => false
def eqF : D → D → Bool
  | .non, .non => true
  | .bl a, .bl b => a == b
  | .bl a, .int b => (if a then 1 else 0) == b
  | .int a, .bl b => a == (if b then 1 else 0)
  | .int a, .int b => a == b
  | .str a, .str b => a == b
  | _, _ => false
def seqOf (st : Sto) : D → Option (List D)
  | .tup ds => some ds
  | .ptp ds => some ds
  | d => lstOf st d
def dIn (neg : Bool) (x y : D) (st : Sto) : R D := match y with
  | .str z => match x with
    | .str w => if w.length = 1 then .ok (.bl (if neg then !decide (w.cps.getD 0 0 ∈ z.cps.toList) else decide (w.cps.getD 0 0 ∈ z.cps.toList))) st else .bad
    | _ => .bad
  | _ => match seqOf st y with
    | some ds => if flat x = true ∧ ds.all flat = true then .ok (.bl (if neg then !(ds.any fun d => eqF d x) else ds.any fun d => eqF d x)) st else .bad
    | none => .bad
/-- the place of an index -/
def dIx (x i : D) (st : Sto) : R D := match x, i with
  | .str z, .int i => if z.length ≤ sizeLine then (match atI z.cps.toList i with
    | some c => .ok (.str ⟨#[c]⟩) st
    | none => .bad) else .bad
  | x, .int i => match seqOf st x with
    | some ds => match atI ds i with
      | some d => .ok d st
      | none => .bad
    | none => .bad
  | _, _ => .bad

section
variable {X : Cx} {cl : Nat → Addr}
theorem ops_of {f : Value → Value → Sem Value} {o : D → D → Sto → R D} {r : R2} (h : OpR X f r)
    (k : ∀ (x y : V) (d e : D) (H : Hp) (m : List Addr) (st : Sto) (Q : VK) (Wx : Value → Option Addr → Hp → Prop), RD X.K H m d x → RD X.K H m e y → RS X.K cl H m st → Snd X.K cl (RD X.K) (o d e st) H m Q Wx → r x y H Q) : OpS X cl f o := ⟨r, h, k⟩
theorem rds_ne {K : PySem.W.Frag} {H : Hp} {m : List Addr} {ds : List D} {vs : List V} (r : RDs K H m ds vs) (h : ds ≠ []) : vs ≠ [] := fun z => h (r.nil_iff.mp z)
theorem rds_rep {K : PySem.W.Frag} {H : Hp} {m : List Addr} {ds : List D} {vs : List V} (r : RDs K H m ds vs) : ∀ n : Nat, RDs K H m (List.replicate n ds).flatten (List.replicate n vs).flatten
  | 0 => .nil
  | n + 1 => by
    rw [List.replicate_succ, List.replicate_succ, List.flatten_cons, List.flatten_cons]
    exact r.append (rds_rep r n)
theorem o_add : OpS X cl (binaryOp .Add) dAdd := by
  refine ops_of (op_add.or (op_add_str.or (op_catA.or op_cat))) fun x y d e H m st Q Wx hx hy hS h => ?_
  cases hx with
  | int => cases hy with
    | int => exact .inl ⟨_, _, rfl, rfl, snd_ok h Gw.refl hS .int⟩
    | _ => exact h.elim
  | str => cases hy with
    | str =>
      unfold dAdd at h
      dsimp only at h
      split at h
      · rename_i hz
        exact .inr (.inl ⟨_, _, rfl, rfl, hz, snd_ok h Gw.refl hS .str⟩)
      · exact h.elim
    | _ => exact h.elim
  | tup hs rs => cases hy with
    | tup ht rt =>
      unfold dAdd at h
      dsimp only at h
      split at h
      · rename_i hz
        refine .inr (.inr (.inl ⟨_, _, _, _, rfl, rfl, hs, ht, by rw [rs.len, rt.len]; exact hz, fun e => ?_, fun e e2 => ?_, fun _ _ p hp => ?_⟩))
        · subst e
          cases rs
          exact snd_ok h Gw.refl hS (.tup ht (by simpa using rt))
        · subst e2
          cases rt
          exact snd_ok h Gw.refl hS (.tup hs (by simpa using rs))
        · exact snd_ok h (Gw.alloc hp) (hS.alloc hp) (.tup (SqT.of upd_same) ((rs.append rt).gw (Gw.alloc hp)))
      · exact h.elim
    | _ => exact h.elim
  | obj hl => cases hy with
    | obj hk =>
      unfold dAdd at h
      dsimp only at h
      split at h
      · rename_i h1 h2
        split at h
        · rename_i hz
          have r1 := hS.at_ _ _ _ h1 hl
          have r2 := hS.at_ _ _ _ h2 hk
          cases r1 with
          | lst e1 r1 => cases r2 with
            | lst e2 r2 => exact .inr (.inr (.inr ⟨_, _, _, _, rfl, rfl, e1, e2, by rw [r1.len, r2.len]; exact hz, fun p hp => new_ok hS (r1.append r2) h hp⟩))
        · exact h.elim
      · exact h.elim
    | _ => exact h.elim
  | _ => cases hy <;> exact h.elim
theorem o_sub : OpS X cl (binaryOp .Sub) dSub := by
  refine ops_of op_sub fun x y d e H m st Q Wx hx hy hS h => ?_
  cases hx with
  | int => cases hy with
    | int => exact ⟨_, _, rfl, rfl, snd_ok h Gw.refl hS .int⟩
    | _ => exact h.elim
  | _ => cases hy <;> exact h.elim
theorem mul_of {i j : Int} (h : mulOk i j = true) : CMul i j ∨ CMulW i j := by
  unfold mulOk at h
  simp only [Bool.or_eq_true, decide_eq_true_eq] at h
  rcases h with (h | h) | h
  · exact .inl (.inl (by omega))
  · exact .inl (.inr (by omega))
  · exact .inr h
theorem o_mul : OpS X cl (binaryOp .Mult) dMul := by
  refine ops_of (op_mul.or (op_mulW.or (op_rep.or op_repT))) fun x y d e H m st Q Wx hx hy hS h => ?_
  cases hx with
  | int => cases hy with
    | int =>
      unfold dMul at h
      dsimp only at h
      split at h
      · rename_i hz
        rcases mul_of hz with hc | hc
        · exact .inl ⟨_, _, rfl, rfl, hc, snd_ok h Gw.refl hS .int⟩
        · exact .inr (.inl ⟨_, _, rfl, rfl, hc, snd_ok h Gw.refl hS .int⟩)
      · exact h.elim
    | _ => exact h.elim
  | obj hl => cases hy with
    | int =>
      unfold dMul at h
      dsimp only at h
      split at h
      · rename_i h1
        split at h
        · rename_i hz
          have r1 := hS.at_ _ _ _ h1 hl
          cases r1 with
          | lst e1 r1 => exact .inr (.inr (.inl ⟨_, _, _, rfl, rfl, e1, hz.1, hz.2.1, by rw [r1.len]; exact hz.2.2, fun p hp => new_ok hS (rds_rep r1 _) h hp⟩))
        · exact h.elim
      · exact h.elim
    | _ => exact h.elim
  | tup hs rs => cases hy with
    | int =>
      unfold dMul at h
      dsimp only at h
      split at h
      · rename_i hz
        exact .inr (.inr (.inr ⟨_, _, _, rfl, rfl, hs, rds_ne rs hz.1, hz.2.1, hz.2.2.1, by rw [rs.len]; exact hz.2.2.2, fun p hp => snd_ok h (Gw.alloc hp) (hS.alloc hp) (.tup (SqT.of upd_same) ((rds_rep rs _).gw (Gw.alloc hp)))⟩))
      · exact h.elim
    | _ => exact h.elim
  | _ => cases hy <;> exact h.elim
theorem o_intC {op : Operator} {C : Int → Int → Prop} [∀ i j, Decidable (C i j)] {g : Int → Int → Int} {o : D → D → Sto → R D} (hr : OpR X (binaryOp op) (rI C fun i j => .int (g i j)))
    (ho : ∀ d e st, o d e st = match d, e with
      | .int i, .int j => if C i j then .ok (.int (g i j)) st else .bad
      | _, _ => .bad) : OpS X cl (binaryOp op) o := by
  refine ops_of hr fun x y d e H m st Q Wx hx hy hS h => ?_
  rw [ho] at h
  cases hx with
  | int => cases hy with
    | int =>
      dsimp only at h
      split at h
      · rename_i hz
        exact ⟨_, _, rfl, rfl, hz, snd_ok h Gw.refl hS .int⟩
      · exact h.elim
    | _ => exact h.elim
  | _ => cases hy <;> exact h.elim
instance {i j : Int} : Decidable (CDivN i j) := inferInstanceAs (Decidable (j ≠ 0 ∧ j.natAbs < 1073741824))
instance {i j : Int} : Decidable (CPow i j) := inferInstanceAs (Decidable (0 ≤ j ∧ j ≤ 1000000 ∧ i.natAbs < 2 ^ 64))
theorem o_fdv : OpS X cl (binaryOp .FloorDiv) dFdv := o_intC op_fdivN fun d e st => by cases d <;> cases e <;> rfl
theorem o_mod : OpS X cl (binaryOp .Mod) dMod := o_intC op_modN fun d e st => by cases d <;> cases e <;> rfl
theorem o_pow : OpS X cl (binaryOp .Pow) dPow := o_intC op_pow fun d e st => by cases d <;> cases e <;> rfl
theorem o_shl : OpS X cl (binaryOp .LShift) dShl := o_intC op_shl fun d e st => by cases d <;> cases e <;> rfl
theorem o_shr : OpS X cl (binaryOp .RShift) dShr := o_intC op_shr fun d e st => by cases d <;> cases e <;> rfl
theorem o_and : OpS X cl (binaryOp .BitAnd) dAnd := by
  refine ops_of op_and fun x y d e H m st Q Wx hx hy hS h => ?_
  cases hx with
  | int => cases hy with
    | int => exact ⟨_, _, rfl, rfl, snd_ok h Gw.refl hS .int⟩
    | _ => exact h.elim
  | _ => cases hy <;> exact h.elim
theorem o_cmp {op : CmpOp} {p : Int → Int → Bool} {q : List Nat → List Nat → Bool} (h1 : OpR X (compareOp op) (rI0 fun i j => .bl (p i j)))
    (h2 : OpR X (compareOp op) fun x y H Q => ∃ i j, x = .str i ∧ y = .str j ∧ Q (.bl (q i.cps.toList j.cps.toList)) H) : OpS X cl (compareOp op) (dCmp p q) := by
  refine ops_of (h1.or h2) fun x y d e H m st Q Wx hx hy hS h => ?_
  cases hx with
  | int => cases hy with
    | int => exact .inl ⟨_, _, rfl, rfl, snd_ok h Gw.refl hS .bl⟩
    | _ => exact h.elim
  | str => cases hy with
    | str => exact .inr ⟨_, _, rfl, rfl, snd_ok h Gw.refl hS .bl⟩
    | _ => exact h.elim
  | _ => cases hy <;> exact h.elim
theorem o_lt : OpS X cl (compareOp .Lt) dLt := o_cmp op_lt op_lt_str
theorem o_gt : OpS X cl (compareOp .Gt) dGt := o_cmp op_gt op_gt_str
theorem o_le : OpS X cl (compareOp .LtE) dLe := o_cmp op_le op_le_str
theorem o_ge : OpS X cl (compareOp .GtE) dGe := o_cmp op_ge op_ge_str
theorem o_neg : UnS X cl (unaryOp .USub) dNeg := by
  refine ⟨_, un_neg, fun x d H m st Q Wx hx hS h => ?_⟩
  cases hx with
  | int => exact ⟨_, rfl, snd_ok h Gw.refl hS .int⟩
  | _ => exact h.elim
/-! ### == -/
theorem sc_ok {K : PySem.W.Frag} {H : Hp} {m : List Addr} {d e : D} {x y : V} {b : Bool} (hx : RD K H m d x) (hy : RD K H m e y) (h : scD d e = some b) : scal x y = true ∧ decide (x = y) = b := by
  cases hx <;> cases hy <;> (first | (cases h; done) | (cases h; exact ⟨rfl, by simp⟩) | (cases h; exact ⟨rfl, rfl⟩))
mutual
theorem py_dp {K : PySem.W.Frag} {H : Hp} {m : List Addr} : ∀ {d : D} {v : V} {p : PyData}, RD K H m d v → py d = some p → Dp K H v p
  | _, _, _, .non, h => by cases h; exact .non
  | _, _, _, .bl, h => by cases h; exact .bl _
  | _, _, _, .int, h => by cases h; exact .int _
  | _, _, _, .str, h => by cases h; exact .str _
  | .tup ds, _, p, .tup hs rs, h => by
    have h : (pys ds).map PyData.tuple = some p := by rw [← h]; rfl
    cases e : pys ds with
    | none => rw [e] at h; cases h
    | some ps => rw [e] at h; cases h; exact .tup hs (pys_dp rs e)
  | .rol ds, _, p, .rol hs rs, h => by
    have h : (pys ds).map PyData.list = some p := by rw [← h]; rfl
    cases e : pys ds with
    | none => rw [e] at h; cases h
    | some ps => rw [e] at h; cases h; exact .lst hs.sq (pys_dp rs e)
  | .ptp ds, _, p, .ptp hs _ rs, h => by
    have h : (pys ds).map PyData.tuple = some p := by rw [← h]; rfl
    cases e : pys ds with
    | none => rw [e] at h; cases h
    | some ps => rw [e] at h; cases h; exact .tup (.inl (.inr ⟨_, hs⟩)) (pys_dp rs e)
  | .obj _, _, _, .obj _, h => by cases h
  | .err _ _ _ _, _, _, .err _ _, h => by cases h
theorem pys_dp {K : PySem.W.Frag} {H : Hp} {m : List Addr} : ∀ {ds : List D} {vs : List V} {ps : List PyData}, RDs K H m ds vs → pys ds = some ps → DpAll K H vs ps
  | _, _, _, .nil, h => by cases h; exact .nil
  | d :: ds, _, ps, .cons hd rs, h => by
    have h : (match py d, pys ds with
      | some p, some ps => some (p :: ps)
      | _, _ => none) = some ps := by rw [← h]; rfl
    cases e1 : py d with
    | none => rw [e1] at h; cases h
    | some p =>
      cases e2 : pys ds with
      | none => rw [e1, e2] at h; cases h
      | some qs => rw [e1, e2] at h; cases h; exact .cons (py_dp hd e1) (pys_dp rs e2)
end
theorem pySt_dp {K : PySem.W.Frag} {H : Hp} {m : List Addr} {st : Sto} {d : D} {v : V} {p : PyData} (hS : RS K cl H m st) (hx : RD K H m d v) (h : pySt st d = some p) : Dp K H v p := by
  cases hx with
  | obj hl =>
    unfold pySt at h
    dsimp only at h
    split at h
    · rename_i ds e
      have ro := hS.at_ _ _ _ e hl
      cases ro with
      | lst e1 r1 =>
        cases e2 : pys ds with
        | none => rw [e2] at h; cases h
        | some ps => rw [e2] at h; cases h; exact .lst (SqL.of e1) (pys_dp r1 e2)
    · cases h
  | non => exact py_dp (m := m) .non h
  | bl => exact py_dp (m := m) .bl h
  | int => exact py_dp (m := m) .int h
  | str => exact py_dp (m := m) .str h
  | tup a b => exact py_dp (.tup a b) h
  | rol a b => exact py_dp (.rol a b) h
  | ptp a n b => exact py_dp (.ptp a n b) h
  | err => cases h
theorem o_eq (hu : X.A.units + 64 < cLine) : OpS X cl (compareOp .Eq) dEq := by
  refine ops_of (op_eq.or (op_eqD hu)) fun x y d e H m st Q Wx hx hy hS h => ?_
  unfold dEq eqB at h
  cases e1 : scD d e with
  | some b =>
    simp only [e1] at h
    obtain ⟨h1, h2⟩ := sc_ok hx hy e1
    exact .inl ⟨h1, by rw [h2]; exact snd_ok h Gw.refl hS .bl⟩
  | none =>
    simp only [e1] at h
    cases e2 : pySt st d with
    | none => simp only [e2] at h; exact h.elim
    | some p =>
      cases e3 : pySt st e with
      | none => simp only [e2, e3] at h; exact h.elim
      | some q =>
        simp only [e2, e3] at h
        by_cases hz : SeqAt.shaped p = true ∧ SeqAt.shaped q = true
        · rw [if_pos hz] at h
          exact .inr ⟨p, q, pySt_dp hS hx e2, pySt_dp hS hy e3, hz.1, hz.2, snd_ok h Gw.refl hS .bl⟩
        · rw [if_neg hz] at h
          exact h.elim
theorem o_ne (hu : X.A.units + 64 < cLine) : OpS X cl (compareOp .NotEq) dNe := by
  refine ops_of (op_ne.or (op_neD hu)) fun x y d e H m st Q Wx hx hy hS h => ?_
  unfold dNe eqB at h
  cases e1 : scD d e with
  | some b =>
    simp only [e1] at h
    obtain ⟨h1, h2⟩ := sc_ok hx hy e1
    exact .inl ⟨h1, by rw [h2]; exact snd_ok h Gw.refl hS .bl⟩
  | none =>
    simp only [e1] at h
    cases e2 : pySt st d with
    | none => simp only [e2] at h; exact h.elim
    | some p =>
      cases e3 : pySt st e with
      | none => simp only [e2, e3] at h; exact h.elim
      | some q =>
        simp only [e2, e3] at h
        by_cases hz : SeqAt.shaped p = true ∧ SeqAt.shaped q = true
        · rw [if_pos hz] at h
          exact .inr ⟨p, q, pySt_dp hS hx e2, pySt_dp hS hy e3, hz.1, hz.2, snd_ok h Gw.refl hS .bl⟩
        · rw [if_neg hz] at h
          exact h.elim
theorem o_is : OpS X cl (compareOp .Is) dIs := by
  refine ops_of (op_isN.or op_is_bl) fun x y d e H m st Q Wx hx hy hS h => ?_
  cases hy with
  | non => cases hx <;> exact .inl ⟨rfl, snd_ok h Gw.refl hS .bl⟩
  | bl => cases hx with
    | bl => exact .inr ⟨_, _, rfl, rfl, snd_ok h Gw.refl hS .bl⟩
    | _ => exact h.elim
  | _ => cases hx <;> exact h.elim
theorem o_isnot : OpS X cl (compareOp .IsNot) dIsNot := by
  refine ops_of (op_notN.or op_isnot_bl) fun x y d e H m st Q Wx hx hy hS h => ?_
  cases hy with
  | non => cases hx <;> exact .inl ⟨rfl, snd_ok h Gw.refl hS .bl⟩
  | bl => cases hx with
    | bl => exact .inr ⟨_, _, rfl, rfl, snd_ok h Gw.refl hS .bl⟩
    | _ => exact h.elim
  | _ => cases hx <;> exact h.elim
/-! ### in -/
theorem flat_ok {K : PySem.W.Frag} {H : Hp} {m : List Addr} {d : D} {v : V} (h : RD K H m d v) (f : flat d = true) : flatV v = true := by
  cases h <;> first | rfl | cases f
theorem flats_ok {K : PySem.W.Frag} {H : Hp} {m : List Addr} : ∀ {ds : List D} {vs : List V}, RDs K H m ds vs → ds.all flat = true → vs.all flatV = true
  | _, _, .nil, _ => rfl
  | d :: ds, v :: vs, .cons h r, f => by
    rw [List.all_cons, Bool.and_eq_true] at f
    rw [List.all_cons, Bool.and_eq_true]
    exact ⟨flat_ok h f.1, flats_ok r f.2⟩
theorem eqF_ok {K : PySem.W.Frag} {H : Hp} {m : List Addr} {d e : D} {v u : V} (h : RD K H m d v) (k : RD K H m e u) (f : flat d = true) (g : flat e = true) : eqV v u = eqF d e := by
  cases h <;> first
    | cases f; done
    | (cases k <;> first | (cases g; done) | rfl)
theorem inV_ok {K : PySem.W.Frag} {H : Hp} {m : List Addr} {e : D} {u : V} (k : RD K H m e u) (g : flat e = true) : ∀ {ds : List D} {vs : List V}, RDs K H m ds vs → ds.all flat = true → inV u vs = ds.any fun d => eqF d e
  | _, _, .nil, _ => rfl
  | d :: ds, v :: vs, .cons h r, f => by
    rw [List.all_cons, Bool.and_eq_true] at f
    have ih := inV_ok k g r f.2
    unfold inV at ih ⊢
    rw [List.any_cons, List.any_cons, ih, eqF_ok h k f.1 g]
theorem seq_of {K : PySem.W.Frag} {H : Hp} {m : List Addr} {st : Sto} {d : D} {v : V} {ds : List D} (hS : RS K cl H m st) (r : RD K H m d v) (h : seqOf st d = some ds) : ∃ a xs, v = .ref a ∧ (SqL K H a xs ∨ SqT K H a xs) ∧ RDs K H m ds xs := by
  cases r with
  | tup hs rs => cases h; exact ⟨_, _, rfl, .inr hs, rs⟩
  | obj hl =>
    obtain ⟨a, xs, e, hs, rs⟩ := lst_of hS (.obj hl) h
    exact ⟨a, xs, e, .inl hs, rs⟩
  | rol hs rs => cases h; exact ⟨_, _, rfl, .inl hs.sq, rs⟩
  | ptp hs _ rs => cases h; exact ⟨_, _, rfl, .inr (.inl (.inr ⟨_, hs⟩)), rs⟩
  | _ => cases h
theorem one_sign {w : Str} (h : w.length = 1) : w = ⟨#[w.cps.getD 0 0]⟩ := by
  obtain ⟨⟨l⟩⟩ := w
  have h : l.length = 1 := h
  match l, h with
  | [c], _ => rfl
theorem in_ok {K : PySem.W.Frag} {neg : Bool} {rs : R2} (hsg : ∀ (c : Nat) (z : Str) (H : Hp) (Q : VK), Q (.bl (if neg then !decide (c ∈ z.cps.toList) else decide (c ∈ z.cps.toList))) H → rs (.str ⟨#[c]⟩) (.str z) H Q)
    {x y : V} {d e : D} {H : Hp} {m : List Addr} {st : Sto} {Q : VK} {Wx : Value → Option Addr → Hp → Prop} (hx : RD K H m d x) (hy : RD K H m e y) (hS : RS K cl H m st) (h : Snd K cl (RD K) (dIn neg d e st) H m Q Wx) : rIn K neg x y H Q ∨ rs x y H Q := by
  have main : ∀ {e : D} {y : V}, RD K H m e y → (∀ z, e ≠ .str z) → Snd K cl (RD K) (match seqOf st e with
    | some ds => if flat d = true ∧ ds.all flat = true then R.ok (.bl (if neg then !(ds.any fun c => eqF c d) else ds.any fun c => eqF c d)) st else .bad
    | none => .bad) H m Q Wx → rIn K neg x y H Q := fun {e y} hy hn h => by
    cases e1 : seqOf st e with
    | none => rw [e1] at h; exact h.elim
    | some ds =>
      rw [e1] at h
      dsimp only at h
      split at h
      · rename_i hz
        obtain ⟨a, xs, ev, hs, r⟩ := seq_of hS hy e1
        subst ev
        exact ⟨a, xs, rfl, hs, flat_ok hx hz.1, flats_ok r hz.2, by rw [inV_ok hx hz.1 r hz.2]; exact snd_ok h Gw.refl hS .bl⟩
      · exact h.elim
  cases hy with
  | str =>
    cases hx with
    | str =>
      unfold dIn at h
      dsimp only at h
      split at h
      · rename_i hz
        refine .inr ?_
        have e := one_sign hz
        rw [e]
        exact hsg _ _ _ _ (snd_ok h Gw.refl hS .bl)
      · exact h.elim
    | _ => exact h.elim
  | non => exact .inl (main .non (fun z => nofun) h)
  | bl => exact .inl (main .bl (fun z => nofun) h)
  | int => exact .inl (main .int (fun z => nofun) h)
  | tup a b => exact .inl (main (.tup a b) (fun z => nofun) h)
  | rol a b => exact .inl (main (.rol a b) (fun z => nofun) h)
  | ptp a n b => exact .inl (main (.ptp a n b) (fun z => nofun) h)
  | obj a => exact .inl (main (.obj a) (fun z => nofun) h)
  | err a b => exact (show False from h).elim
theorem o_in : OpS X cl (compareOp .In) (dIn false) := ops_of (op_in_seq.or op_in_sign) fun _ _ _ _ _ _ _ _ _ hx hy hS h => in_ok (neg := false) (rs := fun x y H Q => ∃ (c : Nat) (z : Str), x = .str ⟨#[c]⟩ ∧ y = .str z ∧ Q (.bl (decide (c ∈ z.cps.toList))) H) (fun c z H Q q => ⟨c, z, rfl, rfl, q⟩) hx hy hS h
theorem o_notin : OpS X cl (compareOp .NotIn) (dIn true) := ops_of (op_notIn_seq.or op_notIn_sign) fun _ _ _ _ _ _ _ _ _ hx hy hS h => in_ok (neg := true) (rs := fun x y H Q => ∃ (c : Nat) (z : Str), x = .str ⟨#[c]⟩ ∧ y = .str z ∧ Q (.bl (!decide (c ∈ z.cps.toList))) H) (fun c z H Q q => ⟨c, z, rfl, rfl, q⟩) hx hy hS h
/-! ### x[i] -/
theorem rds_at {K : PySem.W.Frag} {H : Hp} {m : List Addr} {ds : List D} {vs : List V} {i : Int} {d : D} (r : RDs K H m ds vs) (h : atI ds i = some d) : ∃ v, atI vs i = some v ∧ RD K H m d v := by
  unfold atI at h ⊢
  rw [r.len]
  cases e : ixN ds.length i with
  | none => rw [e] at h; cases h
  | some j => rw [e] at h; exact r.get h
theorem k_ix {W : WX} {a b : Expr} {f g : FE} {pos : Pos} (ha : SE X cl W a f) (hb : SE X cl W b g) (hs : PlainIx b := by intro _ _; rfl) : SE X cl W (.Subscript a b pos) (bOp dIx f g) := by
  refine PE.imp (pe_ix ix_seq ha hb hs) fun σ H Q h => op_run (fun x y d e H m st Q Wx hx hy hS h => ?_) h
  have main : ∀ {d : D} {x : V} {i : Int}, RD X.K H m d x → (∀ z, d ≠ .str z) → Snd X.K cl (RD X.K) (match seqOf st d with
    | some ds => match atI ds i with
      | some d => R.ok d st
      | none => .bad
    | none => .bad) H m Q Wx → rIx X.K x (.int i) H Q := fun {d x i} hx hn h => by
    cases e1 : seqOf st d with
    | none => rw [e1] at h; exact h.elim
    | some ds =>
      rw [e1] at h
      dsimp only at h
      cases e2 : atI ds i with
      | none => rw [e2] at h; exact h.elim
      | some d =>
        rw [e2] at h
        obtain ⟨a, xs, ev, hs, r⟩ := seq_of hS hx e1
        subst ev
        obtain ⟨v, h1, h2⟩ := rds_at r e2
        rcases hs with hs | hs
        · exact .inl ⟨_, _, _, _, rfl, rfl, hs, h1, snd_ok h Gw.refl hS h2⟩
        · exact .inr (.inl ⟨_, _, _, _, rfl, rfl, hs, h1, snd_ok h Gw.refl hS h2⟩)
  cases hy with
  | int =>
    cases hx with
    | str =>
      unfold dIx at h
      dsimp only at h
      split at h
      · rename_i hz
        split at h
        · rename_i c hc
          exact .inr (.inr ⟨_, _, _, rfl, rfl, hz, hc, snd_ok h Gw.refl hS .str⟩)
        · exact h.elim
      · exact h.elim
    | non => exact main .non (fun z => nofun) h
    | bl => exact main .bl (fun z => nofun) h
    | int => exact main .int (fun z => nofun) h
    | tup a b => exact main (.tup a b) (fun z => nofun) h
    | rol a b => exact main (.rol a b) (fun z => nofun) h
    | ptp a n b => exact main (.ptp a n b) (fun z => nofun) h
    | obj a => exact main (.obj a) (fun z => nofun) h
    | err a b => exact (show False from h).elim
  | _ => cases hx <;> exact h.elim
end
end Kc

namespace Kc
open PySem PySem.Spec PyProof.Rows L2
/-! ### calls of defs -/
abbrev FD := List D → Sto → R D
def spOf (K : PySem.W.Frag) (cl : Nat → Addr) (n : Nat) (F : FD) : Sp := fun vs H Q E => vs.length = n ∧ ∃ m ds st, RDs K H m ds vs ∧ RS K cl H m st ∧ Snd K cl (RD K) (F ds st) H m Q fun c d H' => E c d H'
def bCall (F : FD) (g : FA) : FE := fun env st => (g env st).bind fun ds s => F ds s
/-- the module's name x is a def of n parameters that does F, at level k -/
structure Fk (P : Program) (w : World) (K : PySem.W.Frag) (mg : Str → Option Value) (base : Heap) (cl : Nat → Addr) (k : Nat) (x : Str) (n : Nat) (F : FD) : Prop where
  ar : ∀ ds st, ds.length ≠ n → F ds st = .bad
  ok : ∃ f fd ps, mg x = some (.ref f) ∧ PySem.W.keepIn K (.ref f) = true ∧ Binds K fd ps [] ∧ FnOk P w K mg base (L2.CX P w) k f fd ps (spOf K cl n F)
section
variable {X : Cx} {cl : Nat → Addr} {W : WX} {e a b c : Expr} {es : List Expr} {f g h : FE} {fa : FA} {p q r : FB} {pos : Pos}
theorem arOf {K : PySem.W.Frag} {F : FD} {n : Nat} {ds : List D} {st : Sto} {H : Hp} {m : List Addr} {Q : VK} {Wx : Value → Option Addr → Hp → Prop} (ar : ∀ ds st, ds.length ≠ n → F ds st = .bad) (h : Snd K cl (RD K) (F ds st) H m Q Wx) : ds.length = n := by
  by_cases e : ds.length = n
  · exact e
  · rw [ar ds st e] at h
    exact h.elim
theorem k_call {k n : Nat} {x : Str} {p1 : Pos} {F : FD} (F1 : Fk X.prog X.w X.K X.mg X.base cl k x n F) (hr : Room k X.A) (tk : Takes X W) (ha : SA X cl W (e :: es) fa) (hg : Gl X x := by rfl)
    (hdb : (x == ("__debug__" : Str)) = false := by decide) (he : starEach (e :: es) X.env = (false, eval e X.env) :: starEach es X.env := by rfl) (hpl : (backTo pos (starEach es X.env)).any (·.1) = false := by rfl) :
    SE X cl W (.Call (.Name x p1) (e :: es) [] pos) (bCall F fa) := by
  obtain ⟨f, fd, ps, hm, hk, hb, G⟩ := F1.ok
  refine PE.imp (pe_callSD (E := WE W) G hr hg hm hk hb .nil (fun σ => passAt tk σ) ha hdb he hpl) fun σ H Q ⟨m, env, st, hE, hS, h⟩ => ?_
  refine ⟨m, env, st, hE, hS, snd_bind h fun ds st1 vs H1 m1 g1 s1 r1 h1 => ?_⟩
  rw [List.append_nil]
  exact ⟨by rw [r1.len]; exact arOf F1.ar h1, m1, ds, st1, r1, s1, h1⟩
/-! ### chains -/
def bChain (o o' : D → D → Sto → R D) (f g h : FE) : FE := fun env st => (f env st).bind fun x s => (g env s).bind fun y s => (o x y s).bind fun z s => match z with
  | .bl true => (h env s).bind fun w s => o' y w s
  | .bl false => .ok (.bl false) s
  | _ => .bad
theorem chain_run {σ : L2.St} {H : Hp} {Q : VK} {o o' : D → D → Sto → R D} {rr rr' : R2} (ho : ∀ (x y : V) (d e : D) (H : Hp) (m : List Addr) (st : Sto) (Q : VK) (Wx : Value → Option Addr → Hp → Prop), RD X.K H m d x → RD X.K H m e y → RS X.K cl H m st → Snd X.K cl (RD X.K) (o d e st) H m Q Wx → rr x y H Q)
    (ho' : ∀ (x y : V) (d e : D) (H : Hp) (m : List Addr) (st : Sto) (Q : VK) (Wx : Value → Option Addr → Hp → Prop), RD X.K H m d x → RD X.K H m e y → RS X.K cl H m st → Snd X.K cl (RD X.K) (o' d e st) H m Q Wx → rr' x y H Q)
    (k : tE X.K cl W (bChain o o' f g h) σ H Q) : tChain rr rr' (tE X.K cl W f) (tE X.K cl W g) (tE X.K cl W h) σ H Q := by
  obtain ⟨m, env, st, hE, hS, k⟩ := k
  refine ⟨m, env, st, hE, hS, snd_bind k fun d st1 v H1 m1 g1 s1 r1 k1 => ⟨m1, env, st1, hE.gw g1, s1, snd_bind k1 fun d2 st2 u H2 m2 g2 s2 r2 k2 => ?_⟩⟩
  refine ho _ _ _ _ _ _ _ _ (fun c d H' => W c d σ H') (r1.gw g2) r2 s2 (snd_bind k2 fun d3 st3 z H3 m3 g3 s3 r3 k3 => ?_)
  cases r3 with
  | @bl t =>
    cases t with
    | true => exact ⟨true, rfl, m3, env, st3, (hE.gw (g1.trans g2)).gw g3, s3, snd_bind k3 fun d4 st4 y H4 m4 g4 s4 r4 k4 => ho' _ _ _ _ _ _ _ _ _ (r2.gw (g3.trans g4)) r4 s4 k4⟩
    | false => exact ⟨false, rfl, snd_ok k3 Gw.refl s3 .bl⟩
  | _ => exact k3.elim
theorem k_chain {op op' : CmpOp} {o o' : D → D → Sto → R D} (ho : OpS X cl (compareOp op) o) (ho' : OpS X cl (compareOp op') o') (ha : SE X cl W a f) (hb : SE X cl W b g) (hc : SE X cl W c h)
    (hm : lastMarks [op, op'] [b, c] = false := by with_unfolding_all rfl) : SE X cl W (.Compare a [op, op'] [b, c] pos) (bChain o o' f g h) := by
  obtain ⟨r, hr, ho⟩ := ho
  obtain ⟨r', hr', ho'⟩ := ho'
  exact PE.imp (pe_chain hr hr' ha hb hc hm) fun σ H Q k => chain_run ho ho' k
theorem kt_chain {op op' : CmpOp} {o o' : D → D → Sto → R D} (ho : OpS X cl (compareOp op) o) (ho' : OpS X cl (compareOp op') o') (ha : SE X cl W a f) (hb : SE X cl W b g) (hc : SE X cl W c h)
    (hm : lastMarks [op, op'] [b, c] = false := by with_unfolding_all rfl) : ST X cl W (.Compare a [op, op'] [b, c] pos) (bBool (bChain o o' f g h)) := by
  obtain ⟨r, hr, ho⟩ := ho
  obtain ⟨r', hr', ho'⟩ := ho'
  refine PT.imp (pt_chain hr hr' ha hb hc hm) fun σ H Q ⟨m, env, st, hE, hS, k⟩ => ?_
  refine chain_run ho ho' ⟨m, env, st, hE, hS, snd_bind k fun d st1 v H1 m1 g1 s1 r1 h1 => ?_⟩
  cases r1 with
  | bl => exact ⟨_, rfl, snd_ok h1 Gw.refl s1 rfl⟩
  | _ => exact h1.elim
/-! ### and, or, not as values -/
def bAndV (f g : FE) : FE := fun env st => (f env st).bind fun x s => match x with
  | .bl true => g env s
  | .bl false => .ok (.bl false) s
  | _ => .bad
def bOrV (f g : FE) : FE := fun env st => (f env st).bind fun x s => match x with
  | .bl true => .ok (.bl true) s
  | .bl false => g env s
  | _ => .bad
def bNotV (f : FE) : FE := fun env st => (f env st).bind fun x s => match truth s x with
  | some b => .ok (.bl !b) s
  | none => .bad
theorem k_one {op : BoolOp} (ha : SE X cl W a f) : SE X cl W (.BoolOp op [a] pos) f := pe_one ha
theorem k_and {rest : List Expr} (ha : SE X cl W a f) (hb : SE X cl W (.BoolOp .And (b :: rest) pos) g) : SE X cl W (.BoolOp .And (a :: b :: rest) pos) (bAndV f g) := by
  refine PE.imp (pe_and ha hb) fun σ H Q ⟨m, env, st, hE, hS, h⟩ => ?_
  refine ⟨m, env, st, hE, hS, snd_bind h fun d st1 v H1 m1 g1 s1 r1 h1 => ?_⟩
  cases r1 with
  | @bl t =>
    cases t with
    | true => exact ⟨true, rfl, m1, env, st1, hE.gw g1, s1, h1⟩
    | false => exact ⟨false, rfl, snd_ok h1 Gw.refl s1 .bl⟩
  | _ => exact h1.elim
theorem k_or {rest : List Expr} (ha : SE X cl W a f) (hb : SE X cl W (.BoolOp .Or (b :: rest) pos) g) : SE X cl W (.BoolOp .Or (a :: b :: rest) pos) (bOrV f g) := by
  refine PE.imp (pe_or ha hb) fun σ H Q ⟨m, env, st, hE, hS, h⟩ => ?_
  refine ⟨m, env, st, hE, hS, snd_bind h fun d st1 v H1 m1 g1 s1 r1 h1 => ?_⟩
  cases r1 with
  | @bl t =>
    cases t with
    | true => exact ⟨true, rfl, snd_ok h1 Gw.refl s1 .bl⟩
    | false => exact ⟨false, rfl, m1, env, st1, hE.gw g1, s1, h1⟩
  | _ => exact h1.elim
theorem k_not (ha : SE X cl W a f) : SE X cl W (.UnaryOp .Not a pos) (bNotV f) := by
  refine PE.imp (pe_notT ha) fun σ H Q ⟨m, env, st, hE, hS, h⟩ => ?_
  refine ⟨m, env, st, hE, hS, snd_bind h fun d st1 v H1 m1 g1 s1 r1 h1 => ?_⟩
  cases e : truth st1 d with
  | none => simp only [e] at h1; exact h1.elim
  | some b =>
    simp only [e] at h1
    exact ⟨b, truth_ok s1 r1 e, snd_ok h1 Gw.refl s1 .bl⟩
/-! ### slices -/
abbrev FO := Env → Sto → R (Option Int)
def tO_ (K : PySem.W.Frag) (cl : Nat → Addr) (W : WX) (f : FO) : TO := fun σ H Q => ∃ m env st, RE K H m env σ ∧ RS K cl H m st ∧ Snd K cl (fun _ _ a b => a = b) (f env st) H m Q fun c d H' => W c d σ H'
def SO (X : Cx) (cl : Nat → Addr) (W : WX) (e : Option Expr) (f : FO) : Prop := PO X e (tO_ X.K cl W f)
def bNo : FO := fun _ st => .ok none st
def bPart (f : FE) : FO := fun env st => (f env st).bind fun x s => match x with
  | .int i => .ok (some i) s
  | _ => .bad
theorem PO.imp {X : Cx} {e : Option Expr} {t t' : TO} (h : PO X e t) (i : ∀ σ H Q, t' σ H Q → t σ H Q) : PO X e t' := ⟨fun pins s σ H Q I q => h.run pins s σ H Q I (i σ H Q q)⟩
theorem k_po0 : SO X cl W none bNo := PO.imp po_none fun _ _ _ ⟨_, _, _, _, hS, h⟩ => snd_ok h Gw.refl hS rfl
theorem k_po (ha : SE X cl W a f) : SO X cl W (some a) (bPart f) := by
  refine PO.imp (po_some ha) fun σ H Q ⟨m, env, st, hE, hS, h⟩ => ?_
  refine ⟨m, env, st, hE, hS, snd_bind h fun d st1 v H1 m1 g1 s1 r1 h1 => ?_⟩
  cases r1 with
  | int => exact ⟨_, rfl, snd_ok h1 Gw.refl s1 rfl⟩
  | _ => exact h1.elim
/-- xs[lo:hi] -/
def cut {α : Type} (xs : List α) (lo hi : Option Int) : List α := (xs.drop (HT.sIx xs.length 0 lo)).take (HT.sIx xs.length xs.length hi - HT.sIx xs.length 0 lo)
def dSl (x : D) (lo hi : Option Int) (st : Sto) : R D := match x with
  | .str z => if z.length ≤ sizeLine then .ok (.str (cutS z lo hi)) st else .bad
  | .tup ds => .ok (.tup (cut ds lo hi)) st
  | x => match lstOf st x with
    | some ds => newL (cut ds lo hi) st
    | none => .bad
def bSl (f : FE) (lo hi : FO) : FE := fun env st => (f env st).bind fun x s => (lo env s).bind fun l s => (hi env s).bind fun h s => dSl x l h s
theorem rds_cut {K : PySem.W.Frag} {H : Hp} {m : List Addr} {ds : List D} {vs : List V} (r : RDs K H m ds vs) (lo hi : Option Int) : RDs K H m (cut ds lo hi) (cutV vs lo hi) := by
  unfold cut cutV
  rw [r.len]
  exact (r.drop _).take _
theorem cut_all {α : Type} {xs : List α} {lo hi : Option Int} (h : HT.sIx xs.length 0 lo = 0 ∧ HT.sIx xs.length xs.length hi = xs.length) : cut xs lo hi = xs := by
  unfold cut
  rw [h.1, h.2]
  simp
theorem k_sl {lo hi : Option Expr} {fl fh : FO} {p2 : Pos} (ha : SE X cl W a f) (hl : SO X cl W lo fl) (hh : SO X cl W hi fh) : SE X cl W (.Subscript a (.Slice lo hi none p2) pos) (bSl f fl fh) := by
  refine PE.imp (pe_slice (sl_list.or (sl_tupA.or sl_str)) ha hl hh) fun σ H Q ⟨m, env, st, hE, hS, h⟩ => ?_
  refine ⟨m, env, st, hE, hS, snd_bind h fun d st1 v H1 m1 g1 s1 r1 h1 => ⟨m1, env, st1, hE.gw g1, s1, snd_bind h1 fun l st2 l' H2 m2 g2 s2 r2 h2 => ⟨m2, env, st2, hE.gw (g1.trans g2), s2, snd_bind h2 fun u st3 u' H3 m3 g3 s3 r3 h3 => ?_⟩⟩⟩
  subst r2 r3
  have r1 := r1.gw (g2.trans g3)
  have main : ∀ {d : D} {v : V}, RD X.K H3 m3 d v → Snd X.K cl (RD X.K) (match lstOf st3 d with
    | some ds => newL (cut ds l u) st3
    | none => .bad) H3 m3 Q (fun c d H' => W c d σ H') → rSlL X.K v l u H3 Q := fun {d v} r h => by
    cases e : lstOf st3 d with
    | none => rw [e] at h; exact h.elim
    | some ds =>
      rw [e] at h
      obtain ⟨a, xs, ev, hs, rs⟩ := lst_of s3 r e
      subst ev
      exact ⟨a, xs, rfl, hs, fun p hp => new_ok s3 (rds_cut rs l u) h hp⟩
  cases r1 with
  | str =>
    unfold dSl at h3
    dsimp only at h3
    split at h3
    · rename_i hz
      exact .inr (.inr ⟨_, rfl, hz, snd_ok h3 Gw.refl s3 .str⟩)
    · exact h3.elim
  | tup hs rs =>
    refine .inr (.inl ⟨_, _, rfl, hs, fun e => ?_, fun _ p hp => snd_ok h3 (Gw.alloc hp) (s3.alloc hp) (.tup (SqT.of upd_same) ((rds_cut rs l u).gw (Gw.alloc hp)))⟩)
    rw [rs.len] at e
    refine snd_ok h3 Gw.refl s3 (.tup hs ?_)
    rw [cut_all e]
    exact rs
  | non => exact .inl (main .non h3)
  | bl => exact .inl (main .bl h3)
  | int => exact .inl (main .int h3)
  | rol x y => exact .inl (main (.rol x y) h3)
  | ptp x n y => exact .inl (main (.ptp x n y) h3)
  | obj x => exact .inl (main (.obj x) h3)
  | err x y => exact (show False from h3).elim
/-- xs[::-1] of a list -/
def bRevL (f : FE) : FE := fun env st => (f env st).bind fun x s => match lstOf s x with
  | some ds => newL ds.reverse s
  | none => .bad
theorem k_revL {k : Nat} {p1 p2 p3 : Pos} (ha : SE X cl W a f) : SE X cl W (.Subscript a (.Slice none none (some (.UnaryOp .USub (.Constant (.int 1) k p1) p2)) p3) pos) (bRevL f) := by
  refine PE.imp (pe_revL ha) fun σ H Q ⟨m, env, st, hE, hS, h⟩ => ?_
  refine ⟨m, env, st, hE, hS, snd_bind h fun d st1 v H1 m1 g1 s1 r1 h1 => ?_⟩
  cases e : lstOf st1 d with
  | none => simp only [e] at h1; exact h1.elim
  | some ds =>
    simp only [e] at h1
    obtain ⟨a, xs, ev, hs, rs⟩ := lst_of s1 r1 e
    subst ev
    exact ⟨a, xs, rfl, hs, fun p hp => new_ok s1 rs.reverse h1 hp⟩
/-! ### built-ins -/
def CallS (X : Cx) (cl : Nat → Addr) (f : Value) (o : List D → Sto → R D) : Prop :=
  ∃ r : List V → Hp → VK → Prop, CallR X f r ∧ ∀ (xs : List V) (ds : List D) (H : Hp) (m : List Addr) (st : Sto) (Q : VK) (Wx : Value → Option Addr → Hp → Prop), RDs X.K H m ds xs → RS X.K cl H m st → Snd X.K cl (RD X.K) (o ds st) H m Q Wx → r xs H Q
theorem cb_run {σ : L2.St} {H : Hp} {Q : VK} {o : List D → Sto → R D} {rr : List V → Hp → VK → Prop} (ho : ∀ (xs : List V) (ds : List D) (H : Hp) (m : List Addr) (st : Sto) (Q : VK) (Wx : Value → Option Addr → Hp → Prop), RDs X.K H m ds xs → RS X.K cl H m st → Snd X.K cl (RD X.K) (o ds st) H m Q Wx → rr xs H Q)
    (h : tE X.K cl W (bCall o fa) σ H Q) : tCB rr (tA X.K cl W fa) σ H Q := by
  obtain ⟨m, env, st, hE, hS, h⟩ := h
  exact ⟨m, env, st, hE, hS, snd_bind h fun d st1 v H1 m1 g1 s1 r1 h1 => ho _ _ _ _ _ _ _ r1 s1 h1⟩
theorem k_bi {id : String} {x : Str} {p1 : Pos} {o : List D → Sto → R D} (hc : CallS X cl (.builtin id) o) (hm : X.mg x = none) (ha : SA X cl W (e :: es) fa) (hg : Gl X x := by rfl) (hv : bootBuiltins x = some (.builtin id) := by decide +kernel) (hn : x ≠ "__name__" := by decide) (hdb : (x == ("__debug__" : Str)) = false := by decide)
    (he : starEach (e :: es) X.env = (false, eval e X.env) :: starEach es X.env := by rfl) (hpl : (backTo pos (starEach es X.env)).any (·.1) = false := by rfl) : SE X cl W (.Call (.Name x p1) (e :: es) [] pos) (bCall o fa) := by
  obtain ⟨r, hr, ho⟩ := hc
  exact PE.imp (pe_callB hr hg hm hv ha hn hdb he hpl) fun σ H Q h => cb_run ho h
theorem k_ty {T : String} {x : Str} {p1 : Pos} {o : List D → Sto → R D} (hc : CallS X cl (.type T) o) (hm : X.mg x = none) (ha : SA X cl W (e :: es) fa) (hg : Gl X x := by rfl) (hv : bootBuiltins x = some (.type T) := by decide +kernel) (hn : x ≠ "__name__" := by decide) (hdb : (x == ("__debug__" : Str)) = false := by decide)
    (he : starEach (e :: es) X.env = (false, eval e X.env) :: starEach es X.env := by rfl) (hpl : (backTo pos (starEach es X.env)).any (·.1) = false := by rfl) : SE X cl W (.Call (.Name x p1) (e :: es) [] pos) (bCall o fa) := by
  obtain ⟨r, hr, ho⟩ := hc
  exact PE.imp (pe_callTy hr hg hm hv ha hn hdb he hpl) fun σ H Q h => cb_run ho h
def cLen : List D → Sto → R D
  | [.str x], st => if x.length ≤ sizeLine then .ok (.int x.length) st else .bad
  | [x], st => match seqOf st x with
    | some ds => .ok (.int ds.length) st
    | none => .bad
  | _, _ => .bad
def cAbs : List D → Sto → R D
  | [.int i], st => .ok (.int (if i < 0 then -i else i)) st
  | _, _ => .bad
def cInt : List D → Sto → R D
  | [.int i], st => .ok (.int i) st
  | [.bl b], st => .ok (.int (if b then 1 else 0)) st
  | _, _ => .bad
def cList : List D → Sto → R D
  | [x], st => match seqOf st x with
    | some ds => newL ds st
    | none => .bad
  | _, _ => .bad
def cTuple : List D → Sto → R D
  | [x], st => match seqOf st x with
    | some ds => .ok (.tup ds) st
    | none => .bad
  | _, _ => .bad
def cMax2 : List D → Sto → R D
  | [.int i, .int j], st => .ok (.int (if j > i then j else i)) st
  | _, _ => .bad
def cMin2 : List D → Sto → R D
  | [.int i, .int j], st => .ok (.int (if j < i then j else i)) st
  | _, _ => .bad
theorem rds1 {K : PySem.W.Frag} {H : Hp} {m : List Addr} {d : D} {vs : List V} (r : RDs K H m [d] vs) : ∃ v, vs = [v] ∧ RD K H m d v := by
  cases r with
  | cons h r => cases r; exact ⟨_, rfl, h⟩
theorem rds2 {K : PySem.W.Frag} {H : Hp} {m : List Addr} {d e : D} {vs : List V} (r : RDs K H m [d, e] vs) : ∃ v u, vs = [v, u] ∧ RD K H m d v ∧ RD K H m e u := by
  cases r with
  | cons h r => cases r with
    | cons h2 r => cases r; exact ⟨_, _, rfl, h, h2⟩
theorem c_abs : CallS X cl (.builtin "abs") cAbs := by
  refine ⟨_, call_abs, fun xs ds H m st Q Wx r hS h => ?_⟩
  unfold cAbs at h
  split at h
  · obtain ⟨v, rfl, hv⟩ := rds1 r
    cases hv
    exact ⟨_, rfl, snd_ok h Gw.refl hS .int⟩
  · exact h.elim
theorem c_int : CallS X cl (.type "int") cInt := by
  refine ⟨_, call_int1, fun xs ds H m st Q Wx r hS h => ?_⟩
  unfold cInt at h
  split at h
  · obtain ⟨v, rfl, hv⟩ := rds1 r
    cases hv
    exact .inl ⟨_, rfl, snd_ok h Gw.refl hS .int⟩
  · obtain ⟨v, rfl, hv⟩ := rds1 r
    cases hv
    exact .inr ⟨_, rfl, snd_ok h Gw.refl hS .int⟩
  · exact h.elim
theorem c_max2 (hc : X.calm = true) : CallS X cl (.builtin "max") cMax2 := by
  refine ⟨_, call_max2 hc, fun xs ds H m st Q Wx r hS h => ?_⟩
  unfold cMax2 at h
  split at h
  · obtain ⟨v, u, rfl, hv, hu⟩ := rds2 r
    cases hv; cases hu
    exact ⟨_, _, rfl, snd_ok h Gw.refl hS .int⟩
  · exact h.elim
theorem c_min2 (hc : X.calm = true) : CallS X cl (.builtin "min") cMin2 := by
  refine ⟨_, call_min2 hc, fun xs ds H m st Q Wx r hS h => ?_⟩
  unfold cMin2 at h
  split at h
  · obtain ⟨v, u, rfl, hv, hu⟩ := rds2 r
    cases hv; cases hu
    exact ⟨_, _, rfl, snd_ok h Gw.refl hS .int⟩
  · exact h.elim
theorem seq_run {K : PySem.W.Frag} {H : Hp} {m : List Addr} {st : Sto} {d : D} {v : V} {Q : VK} {Wx : Value → Option Addr → Hp → Prop} {k : List D → R D} (hS : RS K cl H m st) (r : RD K H m d v) (h : Snd K cl (RD K) (match seqOf st d with
    | some ds => k ds
    | none => .bad) H m Q Wx) : ∃ a xs ds, v = .ref a ∧ (SqL K H a xs ∨ SqT K H a xs) ∧ RDs K H m ds xs ∧ seqOf st d = some ds ∧ Snd K cl (RD K) (k ds) H m Q Wx := by
  cases e : seqOf st d with
  | none => rw [e] at h; exact h.elim
  | some ds =>
    rw [e] at h
    obtain ⟨a, xs, ev, hs, rs⟩ := seq_of hS r e
    exact ⟨a, xs, ds, ev, hs, rs, rfl, h⟩
theorem c_len : CallS X cl (.builtin "len") cLen := by
  refine ⟨_, call_len, fun xs ds H m st Q Wx r hS h => ?_⟩
  unfold cLen at h
  split at h
  · obtain ⟨v, rfl, hv⟩ := rds1 r
    cases hv
    split at h
    · rename_i hz
      exact ⟨_, _, rfl, ⟨hz, rfl⟩, snd_ok h Gw.refl hS .int⟩
    · exact h.elim
  · obtain ⟨v, rfl, hv⟩ := rds1 r
    obtain ⟨a, xs, ds, rfl, hs, rs, _, h⟩ := seq_run hS hv h
    refine ⟨_, ds.length, rfl, ?_, snd_ok h Gw.refl hS .int⟩
    rcases hs with hs | hs
    · exact .inl ⟨xs, hs, rs.len.symm⟩
    · exact .inr ⟨xs, hs, rs.len.symm⟩
  · exact h.elim
theorem c_list : CallS X cl (.type "list") cList := by
  refine ⟨_, call_list_of, fun xs ds H m st Q Wx r hS h => ?_⟩
  unfold cList at h
  split at h
  · obtain ⟨v, rfl, hv⟩ := rds1 r
    obtain ⟨a, xs, ds, rfl, hs, rs, _, h⟩ := seq_run hS hv h
    exact ⟨a, xs, rfl, hs, fun l hl => new_ok hS rs h hl⟩
  · exact h.elim
theorem c_tuple : CallS X cl (.type "tuple") cTuple := by
  refine ⟨_, call_tuple_of, fun xs ds H m st Q Wx r hS h => ?_⟩
  unfold cTuple at h
  split at h
  · obtain ⟨v, rfl, hv⟩ := rds1 r
    obtain ⟨a, xs, ds, rfl, hs, rs, _, h⟩ := seq_run hS hv h
    refine ⟨a, xs, rfl, ?_⟩
    rcases hs with hs | hs
    · exact .inl ⟨hs, fun l hl => snd_ok h (Gw.alloc hl) (hS.alloc hl) (.tup (SqT.of upd_same) (rs.gw (Gw.alloc hl)))⟩
    · exact .inr ⟨hs, snd_ok h Gw.refl hS (.tup hs rs)⟩
  · exact h.elim
/-- isinstance(x, T), T a built-in type -/
def tyD (st : Sto) : D → Option String
  | .non => some "NoneType" | .bl _ => some "bool" | .int _ => some "int" | .str _ => some "str" | .tup _ => some "tuple" | .ptp _ => some "tuple" | .rol _ => some "list"
  | .obj l => match st[l]? with
    | some (.lst _) => some "list"
    | _ => none
  | .err _ _ _ _ => none
def bIsi (T : String) (f : FE) : FE := fun env st => (f env st).bind fun x s => match tyD s x with
  | some t => match kitB t T with
    | some b => .ok (.bl b) s
    | none => .bad
  | none => .bad
theorem tyx_of {K : PySem.W.Frag} {H : Hp} {m : List Addr} {st : Sto} {d : D} {v : V} {t : String} (hS : RS K cl H m st) (r : RD K H m d v) (h : tyD st d = some t) : TyX K H v (.type t) := by
  have tl : ∀ {a : Addr} {xs : List V}, SqL K H a xs → TyX K H (.ref a) (.type "list") := fun {a xs} hs => by
    rcases hs with (hs | ⟨o, hs⟩) | ⟨o, its, n, hk, hc, _⟩
    · exact .base (.lst hs)
    · exact .base (.frz hs)
    · exact .kList hk hc
  cases r with
  | non => cases h; exact .base .non
  | bl => cases h; exact .base (.bl _)
  | int => cases h; exact .base (.int _)
  | str => cases h; exact .base (.str _)
  | tup hs rs =>
    cases h
    rcases hs with (hs | ⟨o, hs⟩) | ⟨o, its, n, hk, hc, _⟩
    · exact .base (.tup hs)
    · exact .fTuple hs
    · exact .kTuple hk hc
  | rol hs rs => cases h; exact tl hs.sq
  | ptp hs _ rs => cases h; exact .fTuple hs
  | obj hl =>
    unfold tyD at h
    dsimp only at h
    split at h
    · rename_i ds e
      cases h
      have ro := hS.at_ _ _ _ e hl
      cases ro with
      | lst e1 r1 => exact tl (SqL.of e1)
    · cases h
  | err => cases h
theorem k_isi {T : String} {x : Str} {p1 p2 : Pos} (hm : X.mg "isinstance" = none) (hm2 : X.mg x = none) (ha : SE X cl W a f) (hg : Gl X "isinstance" := by rfl) (hg2 : Gl X x := by rfl) (hv : bootBuiltins x = some (.type T) := by decide +kernel) (hn : x ≠ "__name__" := by decide) (hdb : (x == ("__debug__" : Str)) = false := by decide)
    (he2 : starEach [.Name x p2] X.env = (false, eval (.Name x p2) X.env) :: starEach [] X.env := by rfl)
    (he : starEach [a, .Name x p2] X.env = (false, eval a X.env) :: starEach [.Name x p2] X.env := by rfl) (hpl : (backTo pos (starEach [.Name x p2] X.env)).any (·.1) = false := by rfl) : SE X cl W (.Call (.Name "isinstance" p1) [a, .Name x p2] [] pos) (bIsi T f) := by
  refine PE.imp (pe_callB call_isi hg hm (by decide +kernel) (pa_cons ha (pa_cons (pe_bltn (v := .ty T) hg2 hm2 hv rfl hn hdb) pa_nil he2) he) (by decide) (by decide) he hpl) fun σ H Q ⟨m, env, st, hE, hS, h⟩ => ?_
  refine ⟨m, env, st, hE, hS, snd_bind h fun d st1 v H1 m1 g1 s1 r1 h1 => ?_⟩
  cases e1 : tyD st1 d with
  | none => simp only [e1] at h1; exact h1.elim
  | some t =>
    simp only [e1] at h1
    cases e2 : kitB t T with
    | none => simp only [e2] at h1; exact h1.elim
    | some b =>
      simp only [e2] at h1
      exact ⟨v, .ty T, .type t, .type T, b, rfl, .ty T, tyx_of s1 r1 e1, kit_ty e2, snd_ok h1 Gw.refl s1 .bl⟩
/-! ### the methods of lists -/
def bMeth (o : D → List D → Sto → R D) (f : FE) (g : FA) : FE := fun env st => (f env st).bind fun x s => match lstOf s x with
  | some _ => (g env s).bind fun ds s => o x ds s
  | none => .bad
def MthS (X : Cx) (cl : Nat → Addr) (id : String) (o : D → List D → Sto → R D) : Prop :=
  ∃ r : V → List V → Hp → VK → Prop, MtR X id r ∧ ∀ (x : V) (d : D) (xs : List V) (ds : List D) (H : Hp) (m : List Addr) (st : Sto) (Q : VK) (Wx : Value → Option Addr → Hp → Prop), RD X.K H m d x → RDs X.K H m ds xs → RS X.K cl H m st → Snd X.K cl (RD X.K) (o d ds st) H m Q Wx → r x xs H Q
theorem tyV_l {K : PySem.W.Frag} {H : Hp} {m : List Addr} {st : Sto} {d : D} {v : V} {ds : List D} (hS : RS K cl H m st) (r : RD K H m d v) (h : lstOf st d = some ds) : tyV K "list" v H := by
  obtain ⟨a, xs, ev, hs, rs⟩ := lst_of hS r h
  subst ev
  exact .inl ⟨rfl, xs, hs⟩
theorem k_bm0 {name : Str} {id : String} {apos : Pos} {o : D → List D → Sto → R D} (hm : MthS X cl id o) (slot : Slot "list" name id) (hty : typeOf (.builtin id) = pure (.type "method_descriptor")) (ha : SE X cl W a f)
    (hbase : attributeBase a name X.env (eval a X.env) = eval a X.env := by rfl) (hline : (apos.endLine == pos.line) = true := by rfl) : SE X cl W (.Call (.Attribute a name apos) [] [] pos) (bMeth o f bNil) := by
  obtain ⟨r, hr, ho⟩ := hm
  refine PE.imp (pe_bm0 PySem.F.plainAttrs_list slot hty hr ha hbase hline) fun σ H Q ⟨m, env, st, hE, hS, h⟩ => ?_
  refine ⟨m, env, st, hE, hS, snd_bind h fun d st1 v H1 m1 g1 s1 r1 h1 => ?_⟩
  cases e : lstOf st1 d with
  | none => simp only [e] at h1; exact h1.elim
  | some ds =>
    simp only [e] at h1
    exact ⟨tyV_l s1 r1 e, ho _ _ _ _ _ _ _ _ _ r1 .nil s1 h1⟩
theorem k_bm {name : Str} {id : String} {apos : Pos} {o : D → List D → Sto → R D} (hm : MthS X cl id o) (slot : Slot "list" name id) (hty : typeOf (.builtin id) = pure (.type "method_descriptor")) (ha : SE X cl W a f) (hes : SA X cl W (e :: es) fa)
    (hbase : attributeBase a name X.env (eval a X.env) = eval a X.env := by rfl)
    (hfew : ((backTo pos (starEach (e :: es) X.env)).all (fun x => !x.1) && (backToKw pos (keywordEach [] X.env)).all (fun x => x.1.isSome)
      && decide ((e :: es).length + ([] : List Keyword).length + (if ([] : List Keyword).isEmpty then 0 else 1) < 30)) = true := by rfl)
    (hline : (apos.endLine == pos.line) = true := by rfl) (hs : starEach (e :: es) X.env = (false, eval e X.env) :: starEach es X.env := by rfl) (hplain : (backTo pos (starEach es X.env)).any (·.1) = false := by rfl) :
    SE X cl W (.Call (.Attribute a name apos) (e :: es) [] pos) (bMeth o f fa) := by
  obtain ⟨r, hr, ho⟩ := hm
  refine PE.imp (pe_bm PySem.F.plainAttrs_list slot hty hr ha hes hbase hfew hline hs hplain) fun σ H Q ⟨m, env, st, hE, hS, h⟩ => ?_
  refine ⟨m, env, st, hE, hS, snd_bind h fun d st1 v H1 m1 g1 s1 r1 h1 => ?_⟩
  cases e : lstOf st1 d with
  | none => simp only [e] at h1; exact h1.elim
  | some ds =>
    simp only [e] at h1
    exact ⟨tyV_l s1 r1 e, m1, env, st1, hE.gw g1, s1, snd_bind h1 fun es st2 vs H2 m2 g2 s2 r2 h2 => ho _ _ _ _ _ _ _ _ _ (r1.gw g2) r2 s2 h2⟩
def mAppend : D → List D → Sto → R D
  | .obj l, [y], st => match st[l]? with
    | some (.lst xs) => if xs.length < sizeLine then .ok .non (st.set l (.lst (xs ++ [y]))) else .bad
    | _ => .bad
  | _, _, _ => .bad
def mPop : D → List D → Sto → R D
  | .obj l, [], st => match st[l]? with
    | some (.lst xs) => match xs[xs.length - 1]? with
      | some y => .ok y (st.set l (.lst xs.dropLast))
      | none => .bad
    | _ => .bad
  | _, _, _ => .bad
def mPopAt : D → List D → Sto → R D
  | .obj l, [.int i], st => match st[l]? with
    | some (.lst xs) => if -(2 ^ 63) ≤ i ∧ i < 2 ^ 63 then (match seqIndex? i xs.length with
      | some k => match xs[k]? with
        | some y => .ok y (st.set l (.lst (xs.eraseIdx k)))
        | none => .bad
      | none => .bad) else .bad
    | _ => .bad
  | _, _, _ => .bad
def mInsert : D → List D → Sto → R D
  | .obj l, [.int i, y], st => match st[l]? with
    | some (.lst xs) => if xs.length < sizeLine ∧ 0 ≤ i ∧ i < 2 ^ 63 then .ok .non (st.set l (.lst (xs.take i.toNat ++ [y] ++ xs.drop i.toNat))) else .bad
    | _ => .bad
  | _, _, _ => .bad
def mReverse : D → List D → Sto → R D
  | .obj l, [], st => match st[l]? with
    | some (.lst xs) => .ok .non (st.set l (.lst xs.reverse))
    | _ => .bad
  | _, _, _ => .bad
/-- a list of the store is changed -/
theorem put_ok {K : PySem.W.Frag} {H : Hp} {m : List Addr} {st : Sto} {l : Nat} {a : Addr} {x : O} {ys : List D} {us : List V} {y : D} {v : V} {Q : VK} {Wx : Value → Option Addr → Hp → Prop} (hS : RS K cl H m st) (e : st[l]? = some x) (hl : m[l]? = some a) (r : RDs K H m ys us) (ry : RD K H m y v)
    (h : Snd K cl (RD K) (.ok y (st.set l (.lst ys))) H m Q Wx) : Q v (upd H a (.lst us)) := by
  have rx := hS.at_ l x a e hl
  have g : Gw H m (upd H a (.lst us)) m := Gw.write hl rx.mut.1 rx.mut.2.1 rx.mut.2.2
  obtain ⟨_, s2⟩ := hS.write (o := .lst us) (y := .lst ys) e hl (.lst upd_same (r.gw g))
  exact snd_ok h g s2 (ry.gw g)
theorem RDs.dropLast {K : PySem.W.Frag} {H : Hp} {m : List Addr} {ds : List D} {vs : List V} (h : RDs K H m ds vs) : RDs K H m ds.dropLast vs.dropLast := by
  rw [List.dropLast_eq_take, List.dropLast_eq_take, h.len]
  exact h.take _
theorem RDs.eraseIdx {K : PySem.W.Frag} {H : Hp} {m : List Addr} : ∀ {ds : List D} {vs : List V} (i : Nat), RDs K H m ds vs → RDs K H m (ds.eraseIdx i) (vs.eraseIdx i)
  | _, _, _, .nil => .nil
  | _, _, 0, .cons _ r => r
  | _, _, i + 1, .cons h r => .cons h (RDs.eraseIdx i r)
theorem m_append : MthS X cl "list.append" mAppend := by
  refine ⟨_, mt_append, fun x d xs ds H m st Q Wx hx hs hS h => ?_⟩
  unfold mAppend at h
  split at h
  · rename_i l y
    split at h
    · rename_i ys e
      split at h
      · rename_i hz
        cases hx with
        | obj hl =>
          obtain ⟨v, rfl, hv⟩ := rds1 hs
          have ro := hS.at_ _ _ _ e hl
          cases ro with
          | lst e1 r1 => exact ⟨_, _, _, rfl, rfl, e1, by rw [r1.len]; exact hz, put_ok hS e hl (r1.append (.cons hv .nil)) .non h⟩
      · exact h.elim
    · exact h.elim
  · exact h.elim
theorem m_pop : MthS X cl "list.pop" mPop := by
  refine ⟨_, mt_pop, fun x d xs ds H m st Q Wx hx hs hS h => ?_⟩
  unfold mPop at h
  split at h
  · rename_i l
    split at h
    · rename_i ys e
      split at h
      · rename_i y ey
        cases hx with
        | obj hl =>
          cases hs
          have ro := hS.at_ _ _ _ e hl
          cases ro with
          | lst e1 r1 =>
            obtain ⟨v, h1, h2⟩ := r1.get ey
            exact ⟨_, _, v, rfl, rfl, e1, by rw [r1.len]; exact h1, put_ok hS e hl r1.dropLast h2 h⟩
      · exact h.elim
    · exact h.elim
  · exact h.elim
theorem m_popAt : MthS X cl "list.pop" mPopAt := by
  refine ⟨_, mt_popAt, fun x d xs ds H m st Q Wx hx hs hS h => ?_⟩
  unfold mPopAt at h
  split at h
  · rename_i l i
    split at h
    · rename_i ys e
      split at h
      · rename_i hz
        split at h
        · rename_i k ek
          split at h
          · rename_i y ey
            cases hx with
            | obj hl =>
              obtain ⟨v, rfl, hv⟩ := rds1 hs
              cases hv
              have ro := hS.at_ _ _ _ e hl
              cases ro with
              | lst e1 r1 =>
                obtain ⟨v, h1, h2⟩ := r1.get ey
                exact ⟨_, _, _, k, v, rfl, rfl, e1, hz.1, hz.2, by rw [r1.len]; exact ek, h1, put_ok hS e hl (r1.eraseIdx k) h2 h⟩
          · exact h.elim
        · exact h.elim
      · exact h.elim
    · exact h.elim
  · exact h.elim
theorem m_insert : MthS X cl "list.insert" mInsert := by
  refine ⟨_, mt_insert, fun x d xs ds H m st Q Wx hx hs hS h => ?_⟩
  unfold mInsert at h
  split at h
  · rename_i l i y
    split at h
    · rename_i ys e
      split at h
      · rename_i hz
        cases hx with
        | obj hl =>
          obtain ⟨v, u, rfl, hv, hu⟩ := rds2 hs
          cases hv
          have ro := hS.at_ _ _ _ e hl
          cases ro with
          | lst e1 r1 => exact ⟨_, _, _, _, rfl, rfl, e1, by rw [r1.len]; exact hz.1, hz.2.1, hz.2.2, put_ok hS e hl (((r1.take _).append (.cons hu .nil)).append (r1.drop _)) .non h⟩
      · exact h.elim
    · exact h.elim
  · exact h.elim
theorem m_reverse : MthS X cl "list.reverse" mReverse := by
  refine ⟨_, mt_reverse, fun x d xs ds H m st Q Wx hx hs hS h => ?_⟩
  unfold mReverse at h
  split at h
  · rename_i l
    split at h
    · rename_i ys e
      cases hx with
      | obj hl =>
        cases hs
        have ro := hS.at_ _ _ _ e hl
        cases ro with
        | lst e1 r1 => exact ⟨_, _, rfl, rfl, e1, put_ok hS e hl r1.reverse .non h⟩
    · exact h.elim
  · exact h.elim
end
end Kc

namespace Kc
open PySem PySem.Spec PyProof.Rows L2
/-! ### what is walked -/
/-- at turn i over the store: none: it can't be; some none: it stops; some (some d): it gives d -/
structure Itn where
  get : Sto → Nat → Option (Option D)
def RI (K : PySem.W.Frag) (cl : Nat → Addr) (H0 : Hp) (m0 : List Addr) (it : Itn) (J : It) : Prop := ∀ (i : Nat) (H : Hp) (m : List Addr) (st : Sto), Gw H0 m0 H m → RS K cl H m st →
  (it.get st i = some none → J.stop i H) ∧ ∀ d, it.get st i = some (some d) → J.go i H ∧ ∀ x H', J.yld i H x H' → Gw H m H' m ∧ RS K cl H' m st ∧ RD K H' m d x
abbrev FI := Env → Sto → R Itn
def tI (K : PySem.W.Frag) (cl : Nat → Addr) (W : WX) (ι : FI) : TI := fun σ H Q => ∃ m env st, RE K H m env σ ∧ RS K cl H m st ∧ Snd K cl (RI K cl) (ι env st) H m Q fun c d H' => W c d σ H'
def SI (X : Cx) (cl : Nat → Addr) (W : WX) (tg iter : Expr) (ι : FI) : Prop := PI X tg iter (tI X.K cl W ι)
theorem PI.imp {X : Cx} {tg e : Expr} {t t' : TI} (h : PI X tg e t) (i : ∀ σ H Q, t' σ H Q → t σ H Q) : PI X tg e t' := ⟨fun pins s σ H Q I q => h.run pins s σ H Q I (i σ H Q q)⟩
theorem PI.or {X : Cx} {tg e : Expr} {t t' : TI} (h : PI X tg e t) (h' : PI X tg e t') : PI X tg e (fun σ H Q => t σ H Q ∨ t' σ H Q) := ⟨fun pins s σ H Q I q => by
  rcases q with q | q
  · exact h.run pins s σ H Q I q
  · exact h'.run pins s σ H Q I q⟩
def itL (l : Nat) : Itn := ⟨fun st i => match st[l]? with
  | some (.lst ds) => some ds[i]?
  | _ => none⟩
def itT (ds : List D) : Itn := ⟨fun _ i => some ds[i]?⟩
def itS (z : Str) : Itn := ⟨fun _ i => some ((z.cps[i]?).map fun c => .str ⟨#[c]⟩)⟩
def itR (lo : Int) (n : Nat) : Itn := ⟨fun _ i => some (if i < n then some (.int (lo + (i : Nat))) else none)⟩
def bIter (f : FE) : FI := fun env st => (f env st).bind fun x s => match x with
  | .tup ds => .ok (itT ds) s
  | .ptp ds => .ok (itT ds) s
  | .rol ds => .ok (itT ds) s
  | .obj l => match s[l]? with
    | some (.lst _) => .ok (itL l) s
    | _ => .bad
  | .str z => .ok (itS z) s
  | _ => .bad
def bRng1 (f : FE) : FI := fun env st => (f env st).bind fun x s => match x with
  | .int j => if -(2 ^ 62) ≤ j ∧ j < 2 ^ 62 then .ok (itR 0 j.toNat) s else .bad
  | _ => .bad
def bRng2 (f g : FE) : FI := fun env st => (f env st).bind fun x s => (g env s).bind fun y s => match x, y with
  | .int i, .int j => if -(2 ^ 62) ≤ i ∧ i < 2 ^ 62 ∧ -(2 ^ 62) ≤ j ∧ j < 2 ^ 62 then .ok (itR i (j - i).toNat) s else .bad
  | _, _ => .bad
/-- enumerate(xs) -/
def itE (it : Itn) : Itn := ⟨fun st i => (it.get st i).map fun o => o.map fun d => .tup [.int (i : Nat), d]⟩
/-- zip(xs, ys) -/
def itZ (a b : Itn) : Itn := ⟨fun st i => match a.get st i, b.get st i with
  | some (some x), some (some y) => some (some (.tup [x, y]))
  | some none, some _ => some none
  | some (some _), some none => some none
  | _, _ => none⟩
def bSeqI (x : D) (s : Sto) : R Itn := match x with
  | .tup ds => .ok (itT ds) s
  | .rol ds => .ok (itT ds) s
  | .obj l => match s[l]? with
    | some (.lst _) => .ok (itL l) s
    | _ => .bad
  | _ => .bad
def bZip (f g : FE) : FI := fun env st => (f env st).bind fun x s => (g env s).bind fun y s => match x, y with
  | .tup ds, .tup es => .ok (itZ (itT ds) (itT es)) s
  | .obj l, .obj k => match s[l]?, s[k]? with
    | some (.lst _), some (.lst _) => .ok (itZ (itL l) (itL k)) s
    | _, _ => .bad
  | _, _ => .bad
def itV (it : Itn) (n : Nat) : Itn := ⟨fun st i => if i < n then (match it.get st (n - 1 - i) with
  | some (some d) => some (some d)
  | _ => none) else some none⟩
def bRevI (f : FE) : FI := fun env st => (f env st).bind fun x s => match x with
  | .tup ds => .ok (itV (itT ds) ds.length) s
  | .rol ds => .ok (itV (itT ds) ds.length) s
  | .obj l => match s[l]? with
    | some (.lst ds) => .ok (itV (itL l) ds.length) s
    | _ => .bad
  | _ => .bad
section
variable {X : Cx} {cl : Nat → Addr} {W : WX} {e a b c tg : Expr} {es : List Expr} {f g : FE} {fa : FA} {pos : Pos}
theorem ri_list {K : PySem.W.Frag} {H0 : Hp} {m0 : List Addr} {l : Nat} {a : Addr} (hl : m0[l]? = some a) : RI K cl H0 m0 (itL l) (Itl K a) := fun i H m st g s => by
  have hm := g.get hl
  refine ⟨fun h => ?_, fun d h => ?_⟩
  · unfold itL at h
    dsimp only at h
    split at h
    · rename_i ds e
      have ro := s.at_ l _ a e hm
      cases ro with
      | lst e1 r1 =>
        refine ⟨_, SqL.of e1, ?_⟩
        rw [r1.len]
        exact List.getElem?_eq_none_iff.mp (Option.some.inj h)
    · cases h
  · unfold itL at h
    dsimp only at h
    split at h
    · rename_i ds e
      have ro := s.at_ l _ a e hm
      cases ro with
      | lst e1 r1 =>
        obtain ⟨v, h1, h2⟩ := r1.get (Option.some.inj h)
        refine ⟨⟨_, v, SqL.of e1, h1⟩, fun x H' y => ?_⟩
        obtain ⟨ye, yx⟩ := y
        subst ye
        have z := yx _ (SqL.of e1)
        rw [h1] at z
        cases z
        exact ⟨Gw.refl, s, h2⟩
    · cases h
theorem ri_tup {K : PySem.W.Frag} {H0 : Hp} {m0 : List Addr} {a : Addr} {xs : List V} {ds : List D} (hs : SqT K H0 a xs) (r : RDs K H0 m0 ds xs) : RI K cl H0 m0 (itT ds) (Itt K a) := fun i H m st g s => by
  have hs := SqT.gw g hs
  have r := r.gw g
  refine ⟨fun h => ⟨_, hs, by rw [r.len]; exact List.getElem?_eq_none_iff.mp (Option.some.inj h)⟩, fun d h => ?_⟩
  obtain ⟨v, h1, h2⟩ := r.get (Option.some.inj h)
  refine ⟨⟨_, v, hs, h1⟩, fun x H' y => ?_⟩
  obtain ⟨ye, yx⟩ := y
  subst ye
  have z := yx _ hs
  rw [h1] at z
  cases z
  exact ⟨Gw.refl, s, h2⟩
theorem ri_rol {K : PySem.W.Frag} {H0 : Hp} {m0 : List Addr} {a : Addr} {xs : List V} {ds : List D} (hs : SqF K H0 a xs) (r : RDs K H0 m0 ds xs) : RI K cl H0 m0 (itT ds) (Itl K a) := fun i H m st g s => by
  have hs := (SqF.gw g hs).sq
  have r := r.gw g
  refine ⟨fun h => ⟨_, hs, by rw [r.len]; exact List.getElem?_eq_none_iff.mp (Option.some.inj h)⟩, fun d h => ?_⟩
  obtain ⟨v, h1, h2⟩ := r.get (Option.some.inj h)
  refine ⟨⟨_, v, hs, h1⟩, fun x H' y => ?_⟩
  obtain ⟨ye, yx⟩ := y
  subst ye
  have z := yx _ hs
  rw [h1] at z
  cases z
  exact ⟨Gw.refl, s, h2⟩
theorem ri_str {K : PySem.W.Frag} {H0 : Hp} {m0 : List Addr} {z : Str} : RI K cl H0 m0 (itS z) (Its z) := fun i H m st g s => by
  refine ⟨fun h => ?_, fun d h => ?_⟩
  · unfold itS at h
    dsimp only at h
    have h := Option.some.inj h
    cases e : z.cps[i]? with
    | none => exact Array.getElem?_eq_none_iff.mp e
    | some c => rw [e] at h; cases h
  · unfold itS at h
    dsimp only at h
    have h := Option.some.inj h
    cases e : z.cps[i]? with
    | none => rw [e] at h; cases h
    | some c =>
      rw [e] at h
      cases h
      refine ⟨(Array.getElem?_eq_some_iff.mp e).1, fun x H' y => ?_⟩
      obtain ⟨ye, c', hc, yx⟩ := y
      subst ye
      rw [e] at hc
      cases hc
      subst yx
      exact ⟨Gw.refl, s, .str⟩
theorem ri_rng {K : PySem.W.Frag} {H0 : Hp} {m0 : List Addr} {lo : Int} {n : Nat} : RI K cl H0 m0 (itR lo n) (Itr lo n) := fun i H m st g s => by
  refine ⟨fun h => ?_, fun d h => ?_⟩
  · unfold itR at h
    dsimp only at h
    have h := Option.some.inj h
    by_cases hi : i < n
    · rw [if_pos hi] at h; cases h
    · exact Nat.le_of_not_lt hi
  · unfold itR at h
    dsimp only at h
    have h := Option.some.inj h
    by_cases hi : i < n
    · rw [if_pos hi] at h
      cases h
      refine ⟨hi, fun x H' y => ?_⟩
      obtain ⟨ye, yx⟩ := y
      subst ye yx
      exact ⟨Gw.refl, s, .int⟩
    · rw [if_neg hi] at h; cases h
theorem ki_any (ha : SE X cl W a f) : SI X cl W tg a (bIter f) := by
  refine PI.imp (PI.or (pi_list ha) (PI.or (pi_tup ha) (pi_str ha))) fun σ H Q ⟨m, env, st, hE, hS, h⟩ => ?_
  unfold bIter at h
  cases e : f env st with
  | bad => rw [e] at h; exact h.elim
  | exc x s =>
    rw [e] at h
    refine .inl ⟨m, env, st, hE, hS, ?_⟩
    rw [e]
    exact h
  | ok d s =>
    rw [e] at h
    cases d with
    | tup ds =>
      refine .inr (.inl ⟨m, env, st, hE, hS, ?_⟩)
      rw [e]
      intro v H1 m1 g1 s1 r1
      cases r1 with
      | tup hs rs => exact ⟨_, rfl, ⟨_, hs⟩, snd_ok h g1 s1 (ri_tup hs rs)⟩
    | ptp ds =>
      refine .inr (.inl ⟨m, env, st, hE, hS, ?_⟩)
      rw [e]
      intro v H1 m1 g1 s1 r1
      cases r1 with
      | ptp hs _ rs => exact ⟨_, rfl, ⟨_, .inl (.inr ⟨_, hs⟩)⟩, snd_ok h g1 s1 (ri_tup (.inl (.inr ⟨_, hs⟩)) rs)⟩
    | rol ds =>
      refine .inl ⟨m, env, st, hE, hS, ?_⟩
      rw [e]
      intro v H1 m1 g1 s1 r1
      cases r1 with
      | rol hs rs => exact ⟨_, rfl, ⟨_, hs.sq⟩, snd_ok h g1 s1 (ri_rol hs rs)⟩
    | obj l =>
      refine .inl ⟨m, env, st, hE, hS, ?_⟩
      rw [e]
      intro v H1 m1 g1 s1 r1
      cases r1 with
      | obj hl =>
        have h : Snd X.K cl (RI X.K cl) (match s[l]? with
          | some (.lst _) => R.ok (itL l) s
          | _ => .bad) H m Q _ := h
        split at h
        · rename_i ds e1
          have ro := s1.at_ l _ _ e1 hl
          cases ro with
          | lst e2 r2 => exact ⟨_, rfl, ⟨_, SqL.of e2⟩, snd_ok h g1 s1 (ri_list hl)⟩
        · exact h.elim
    | str z =>
      refine .inr (.inr ⟨m, env, st, hE, hS, ?_⟩)
      rw [e]
      intro v H1 m1 g1 s1 r1
      cases r1 with
      | str => exact ⟨_, rfl, snd_ok h g1 s1 ri_str⟩
    | non => exact h.elim
    | err => exact h.elim
    | bl => exact h.elim
    | int => exact h.elim
theorem ki_rng1 {p1 : Pos} (hm : X.mg "range" = none) (ha : SE X cl W a f) (hg : Gl X "range" := by rfl) (hs : starEach [a] X.env = (false, eval a X.env) :: starEach [] X.env := by rfl) : SI X cl W tg (.Call (.Name "range" p1) [a] [] pos) (bRng1 f) := by
  refine PI.imp (pi_range1 hg hm (pa_cons ha pa_nil hs) hs) fun σ H Q ⟨m, env, st, hE, hS, h⟩ => ?_
  refine ⟨m, env, st, hE, hS, snd_bind h fun d st1 v H1 m1 g1 s1 r1 h1 => ?_⟩
  cases r1 with
  | int =>
    dsimp only at h1
    split at h1
    · rename_i hz
      exact ⟨_, rfl, hz.1, hz.2, snd_ok h1 Gw.refl s1 ri_rng⟩
    · exact h1.elim
  | _ => exact h1.elim
theorem ki_rng2 {p1 : Pos} (hm : X.mg "range" = none) (ha : SE X cl W a f) (hb : SE X cl W b g) (hg : Gl X "range" := by rfl) (hs : starEach [a, b] X.env = (false, eval a X.env) :: starEach [b] X.env := by rfl) (hs2 : starEach [b] X.env = (false, eval b X.env) :: starEach [] X.env := by rfl) :
    SI X cl W tg (.Call (.Name "range" p1) [a, b] [] pos) (bRng2 f g) := by
  refine PI.imp (pi_range2 hg hm (pa_cons ha (pa_cons hb pa_nil hs2) hs) (hs.trans (by rw [hs2] <;> rfl)) hs2) fun σ H Q ⟨m, env, st, hE, hS, h⟩ => ?_
  refine ⟨m, env, st, hE, hS, snd_bind h fun d st1 v H1 m1 g1 s1 r1 h1 => ⟨m1, env, st1, hE.gw g1, s1, snd_bind h1 fun d2 st2 u H2 m2 g2 s2 r2 h2 => ?_⟩⟩
  have r1 := r1.gw g2
  cases r1 with
  | int => cases r2 with
    | int =>
      dsimp only at h2
      split at h2
      · rename_i hz
        exact ⟨_, _, rfl, hz, snd_ok h2 Gw.refl s2 ri_rng⟩
      · exact h2.elim
    | _ => exact h2.elim
  | _ => cases r2 <;> exact h2.elim
/-! ### targets -/
abbrev FG := D → Env → Sto → R Env
abbrev FGs := List D → Env → Option Env
def tG (K : PySem.W.Frag) (cl : Nat → Addr) (W : WX) (g : FG) : TG := fun v σ H Q => ∃ m env st d, RE K H m env σ ∧ RS K cl H m st ∧ RD K H m d v ∧ Snd K cl (fun H' m' env' σ' => RE K H' m' env' σ') (g d env st) H m Q fun c dd H' => W c dd σ H'
def tGs (K : PySem.W.Frag) (g : FGs) : TGs := fun vs σ H Q => ∃ m env ds env', RE K H m env σ ∧ RDs K H m ds vs ∧ g ds env = some env' ∧ ∀ σ', RE K H m env' σ' → Q σ' H
def SG (X : Cx) (cl : Nat → Addr) (W : WX) (tg : Expr) (g : FG) : Prop := PG X tg (tG X.K cl W g)
def SGs (X : Cx) (tgs : List Expr) (g : FGs) : Prop := PGs X tgs (tGs X.K g)
theorem PG.imp {X : Cx} {tg : Expr} {t t' : TG} (h : PG X tg t) (i : ∀ v σ H Q, t' v σ H Q → t v σ H Q) : PG X tg t' := ⟨fun pins s σ H v u Q I r q => h.run pins s σ H v u Q I r (i v σ H Q q)⟩
theorem PGs.imp {X : Cx} {tg : List Expr} {t t' : TGs} (h : PGs X tg t) (i : ∀ v σ H Q, t' v σ H Q → t v σ H Q) : PGs X tg t' := ⟨fun pins s σ H v u Q I r q => h.run pins s σ H v u Q I r (i v σ H Q q)⟩
def gNm (i : Nat) : FG := fun d env st => .ok (env.set i (some d)) st
/-- several names, one after another -/
def gNs : List Nat → FGs
  | [], [], env => some env
  | i :: is, d :: ds, env => gNs is ds (env.set i (some d))
  | _, _, _ => none
def gTp (is : List Nat) : FG := fun d env st => match d with
  | .tup ds => match gNs is ds env with
    | some env' => .ok env' st
    | none => .bad
  | _ => .bad
/-- o[i] = d -/
def gIx (fo fi : FE) : FG := fun d env st => (fo env st).bind fun o s => (fi env s).bind fun i s => match o, i with
  | .obj l, .int k => match s[l]? with
    | some (.lst xs) => match ixN xs.length k with
      | some j => .ok env (s.set l (.lst (xs.set j d)))
      | none => .bad
    | _ => .bad
  | _, _ => .bad
theorem kg_nm {i : Nat} {x : Str} (hN : X.N.Nodup) (hi : X.N[i]? = some x := by rfl) (hx : Loc X.env.scope x := by first | exact Or.inl rfl | exact Or.inr rfl) (hf : X.fn x = true ∨ X.env.scope.names.lookup x = some .local := by first | exact .inl rfl | exact .inr rfl) : SG X cl W (.Name x pos) (gNm i) :=
  PG.imp (pg_name hN hi hx hf) fun v σ H Q ⟨m, env, st, d, hE, hS, r, h⟩ => snd_ok h Gw.refl hS (hE.set r i)
theorem kg_nil : SGs X [] (gNs []) := PGs.imp pgs_nil fun vs σ H Q ⟨m, env, ds, env', hE, r, h, k⟩ => by
  cases r with
  | nil => cases h; exact ⟨rfl, k σ hE⟩
  | cons _ _ => cases h
theorem kg_cons {i : Nat} {x : Str} {is : List Nat} (hN : X.N.Nodup) (h2 : SGs X es (gNs is)) (hi : X.N[i]? = some x := by rfl) (hx : Loc X.env.scope x := by first | exact Or.inl rfl | exact Or.inr rfl) (hf : X.fn x = true ∨ X.env.scope.names.lookup x = some .local := by first | exact .inl rfl | exact .inr rfl)
    (hs : (assignEach (.Name x pos :: es) X.env).map (·.2) = assign (.Name x pos) X.env :: (assignEach es X.env).map (·.2) := by rfl) : SGs X (.Name x pos :: es) (gNs (i :: is)) :=
  PGs.imp (pgs_cons (pg_name hN hi hx hf) h2 hs) fun vs σ H Q ⟨m, env, ds, env', hE, r, h, k⟩ => by
    cases r with
    | nil => cases h
    | cons r rs => exact ⟨_, _, rfl, m, _, _, env', hE.set r i, rs, h, k⟩
theorem gNs_len : ∀ {is : List Nat} {ds : List D} {env env' : Env}, gNs is ds env = some env' → ds.length = is.length
  | [], [], _, _, _ => rfl
  | i :: is, d :: ds, _, _, h => by simp [gNs_len (is := is) h]
  | [], _ :: _, _, _, h => by cases h
  | _ :: _, [], _, _, h => by cases h
theorem kg_tup {is : List Nat} {k : Nat} (hc : X.calm = true) (h : SGs X es (gNs is)) (hn : (assignEach es X.env).length = is.length := by rfl) (hst : (assignEach es X.env).findIdx? (·.1) = none := by rfl) : SG X cl W (.Tuple es k pos) (gTp is) := by
  refine PG.imp (pg_tup hc h hn hst) fun v σ H Q ⟨m, env, st, d, hE, hS, r, q⟩ => ?_
  cases r with
  | tup hs rs =>
    unfold gTp at q
    dsimp only at q
    split at q
    · rename_i env' e
      exact ⟨_, _, rfl, hs, by rw [rs.len, gNs_len e], m, env, _, env', hE, rs, e, fun σ' r' => snd_ok q Gw.refl hS r'⟩
    · exact q.elim
  | _ => exact q.elim
theorem setL_ok {K : PySem.W.Frag} {H : Hp} {m : List Addr} {st : Sto} {l j : Nat} {xs : List D} {k : Int} {d : D} {x y v : V} {Q : Hp → Prop} (hS : RS K cl H m st) (ro : RD K H m (.obj l) x) (ri : RD K H m (.int k) y) (rd : RD K H m d v) (e : st[l]? = some (.lst xs)) (ej : ixN xs.length k = some j)
    (q : ∀ H', Gw H m H' m → RS K cl H' m (st.set l (.lst (xs.set j d))) → Q H') : rSetL x y v H Q := by
  cases ro with
  | obj hl =>
    cases ri
    have r0 := hS.at_ l _ _ e hl
    cases r0 with
    | @lst a us _ e1 r1 =>
      have g : Gw H m (upd H _ (.lst (us.set j v))) m := Gw.write hl (fun xs z => by rw [e1] at z; cases z) (fun _ _ z => by rw [e1] at z; cases z) (fun _ z => by rw [e1] at z; cases z)
      obtain ⟨_, s2⟩ := hS.write (o := .lst (us.set j v)) (y := .lst (xs.set j d)) e hl (.lst upd_same ((RDs.set rd j r1).gw g))
      exact ⟨_, us, k, j, rfl, rfl, e1, by rw [r1.len]; exact ej, q _ g s2⟩
theorem kg_ix (ha : SE X cl W a f) (hb : SE X cl W b g) (hh : ∀ v, assign (.Subscript a b pos) X.env v = (do
      let ov ← holding [v] (eval a X.env)
      let iv ← holding [v, ov] (eval b X.env)
      standAt pos
      holding [v, ov, iv] (setItem ov iv v)
      release [v, ov, iv] []) := by intro _; rfl) : SG X cl W (.Subscript a b pos) (gIx f g) := by
  refine PG.imp (pg_sub ha hb set_list hh) fun v σ H Q ⟨m, env, st, d, hE, hS, r, q⟩ => ?_
  refine ⟨m, env, st, hE, hS, snd_bind q fun o st1 u H1 m1 g1 s1 r1 q1 => ⟨m1, env, st1, hE.gw g1, s1, snd_bind q1 fun i st2 y H2 m2 g2 s2 r2 q2 => ?_⟩⟩
  split at q2
  · split at q2
    · rename_i xs e
      split at q2
      · rename_i j ej
        exact setL_ok s2 (r1.gw g2) r2 (r.gw (g1.trans g2)) e ej fun H' g' s' => snd_ok q2 g' s' (hE.gw ((g1.trans g2).trans g'))
      · exact q2.elim
    · exact q2.elim
  · exact q2.elim
end
end Kc

namespace Kc
open PySem PySem.Spec PyProof.Rows L2
/-- turns and takes enough -/
def fuel : Nat := 1099511627776
def R.nx {α : Type} : R α → R α
  | .exc _ _ => .bad
  | r => r
section
variable {K : PySem.W.Frag} {cl : Nat → Addr} {α β γ δ : Type} {rel : Hp → List Addr → α → β → Prop} {rel' : Hp → List Addr → γ → δ → Prop} {H H1 : Hp} {m m1 : List Addr} {W W' : Value → Option Addr → Hp → Prop}
/-- the wish stays at the place where it was told -/
theorem snd_bind0 {r : R α} {k : α → Sto → R γ} {Q : β → Hp → Prop} {Q' : δ → Hp → Prop} (h : Snd K cl rel' (r.nx.bind k) H1 m1 Q' W) 
    (hk : ∀ d st v H' m', Gw H m H' m' → RS K cl H' m' st → rel H' m' d v → Snd K cl rel' (k d st) H1 m1 Q' W → Q v H') : Snd K cl rel r H m Q W' := by
  cases r with
  | ok d st => exact fun v H' m' g s r => hk d st v H' m' g s r h
  | exc x st => exact h.elim
  | bad => exact h.elim
end
theorem Gw.side {H H' : Hp} {m m' : List Addr} {p : Addr} {o : HO} (g : Gw H m H' m') (hp : H p = none) : Gw H m (upd H' p o) m' where
  tup := fun a xs h => by rw [upd_ne (ne_of_none h hp)]; exact g.tup a xs h
  frz := fun a x u h => by rw [upd_ne (ne_of_none h hp)]; exact g.frz a x u h
  xd := fun a gs h => by rw [upd_ne (ne_of_none h hp)]; exact g.xd a gs h
  pre := g.pre
  oth := fun a x h hn => by rw [upd_ne (ne_of_none h hp)]; exact g.oth a x h hn
  new := g.new
theorem Gv.side {H : Hp} {m : List Addr} {p : Addr} {o u : HO} (hp : H p = some u) (h1 : ∀ xs, u ≠ .tup xs) (h2 : ∀ x y, u ≠ .frz x y) (h3 : ∀ gs, u ≠ .xd gs := by nofun) : Gv H m (upd H p o) m where
  tup := fun a xs h => by
    rw [upd_ne (fun e => by rw [e, hp] at h; exact h1 xs (Option.some.inj h))]; exact h
  frz := fun a x y h => by
    rw [upd_ne (fun e => by rw [e, hp] at h; exact h2 x y (Option.some.inj h))]; exact h
  xd := fun a gs h => by
    rw [upd_ne (fun e => by rw [e, hp] at h; exact h3 gs (Option.some.inj h))]; exact h
  pre := ⟨[], by simp⟩
theorem RS.side {K : PySem.W.Frag} {cl : Nat → Addr} {H : Hp} {m : List Addr} {st : Sto} {p : Addr} {o u : HO} (s : RS K cl H m st) (hp : H p = some u) (h1 : ∀ xs, u ≠ .tup xs) (h2 : ∀ x y, u ≠ .frz x y) (hn : p ∉ m) (h3 : ∀ gs, u ≠ .xd gs := by nofun) : RS K cl (upd H p o) m st :=
  ⟨s.len, s.nd, fun l x a e1 e2 => (s.at_ l x a e1 e2).gv (Gv.side hp h1 h2 h3) (upd_ne fun e => hn (e ▸ List.mem_of_getElem? e2))⟩
def wipeE (env : Env) : List Nat → Env
  | [] => env
  | v :: vs => (wipeE env vs).set v none
theorem RE.wipe {K : PySem.W.Frag} {H : Hp} {m : List Addr} {env : Env} {σ : L2.St} (h : RE K H m env σ) : ∀ vs : List Nat, RE K H m (wipeE env vs) (wipe σ vs)
  | [] => h
  | v :: vs => (RE.wipe h vs).unset v
/-! ### list comprehensions -/
/-- the comprehension's target: the names of the places is -/
def cNm (i : Nat) : D → Env → Option Env := fun d env => some (env.set i (some d))
def cTp (is : List Nat) : D → Env → Option Env := fun d env => match d with
  | .tup ds => gNs is ds env
  | _ => none
def compI (it : Itn) (tg : D → Env → Option Env) (cond : FB) (elt : FE) (env : Env) : Nat → Nat → List D → Sto → R (List D)
  | 0, _, _, _ => .bad
  | k + 1, i, acc, st => match it.get st i with
    | none => .bad
    | some none => .ok acc st
    | some (some d) => match tg d env with
      | none => .bad
      | some env' => (cond env' st).nx.bind fun b s => if b = true then
          (elt env' s).nx.bind fun y s => if acc.length < sizeLine then compI it tg cond elt env k (i + 1) (acc ++ [y]) s else .bad
        else compI it tg cond elt env k (i + 1) acc s
def bComp (ι : FI) (vs : List Nat) (tg : D → Env → Option Env) (cond : FB) (elt : FE) : FE := fun env st => (ι env st).bind fun it s => (compI it tg cond elt (wipeE env vs) fuel 0 [] s).bind fun ys s => newL ys s
def bYes : FB := fun _ st => .ok true st
def W0 : WX := fun _ _ _ _ => False
/-- what the target must do -/
def CT (K : PySem.W.Frag) (g : TG) (vs : List Nat) (tg : D → Env → Option Env) : Prop := ∀ (H : Hp) (m : List Addr) (env env' : Env) (σ : L2.St) (d : D) (v : V) (Q : L2.St → Hp → Prop), RE K H m env σ → RD K H m d v → tg d env = some env' → wipe σ vs = σ → (∀ σ', RE K H m env' σ' → wipe σ' vs = σ → Q σ' H) → g v σ H Q
theorem wipe_get (σ : L2.St) : ∀ (vs : List Nat) (i : Nat), (wipe σ vs)[i]? = if i ∈ vs then (σ[i]?).map (fun _ => none) else σ[i]?
  | [], i => by simp [wipe]
  | v :: vs, i => by
    unfold wipe
    rw [List.getElem?_set, wipe_length]
    have ih := wipe_get σ vs i
    by_cases h : v = i
    · subst h
      by_cases hl : v < σ.length
      · simp [hl]
      · have e : σ[v]? = none := List.getElem?_eq_none_iff.mpr (by omega)
        simp [hl, e]
    · rw [if_neg h, ih]
      have h' : ¬ i = v := fun e => h e.symm
      simp [h']
theorem wipe_set {σ : L2.St} {vs : List Nat} {i : Nat} {v : Option V} (h : i ∈ vs) : wipe (σ.set i v) vs = wipe σ vs := by
  apply List.ext_getElem?
  intro j
  rw [wipe_get, wipe_get]
  by_cases hj : j ∈ vs
  · rw [if_pos hj, if_pos hj]
    by_cases hij : i = j
    · subst hij
      by_cases hl : i < σ.length
      · simp [hl]
      · simp [hl]
    · rw [List.getElem?_set_ne hij]
  · rw [if_neg hj, if_neg hj, List.getElem?_set_ne (fun e => hj (by rw [← e]; exact h))]
theorem wipe_wipe (σ : L2.St) (vs : List Nat) : wipe (wipe σ vs) vs = wipe σ vs := by
  apply List.ext_getElem?
  intro j
  rw [wipe_get, wipe_get]
  by_cases hj : j ∈ vs
  · rw [if_pos hj, if_pos hj]
    cases σ[j]? <;> rfl
  · rw [if_neg hj]
theorem ct_nm {K : PySem.W.Frag} {i : Nat} {vs : List Nat} (h : i ∈ vs) : CT K (gName i) vs (cNm i) := fun H m env env' σ d v Q hE r e hw hq => by
  cases e
  exact hq _ (hE.set r i) (by rw [wipe_set h, hw])
def gNames : List Nat → TGs
  | [] => L2.gNil
  | i :: is => L2.gCons (gName i) (gNames is)
theorem gNames_run {K : PySem.W.Frag} {vs : List Nat} {H : Hp} {m : List Addr} {env' : Env} {σ0 : L2.St} {Q : L2.St → Hp → Prop} (hq : ∀ σ', RE K H m env' σ' → wipe σ' vs = σ0 → Q σ' H) : ∀ {is : List Nat} {ds : List D} {us : List V} {env : Env} {σ : L2.St}, (∀ i ∈ is, i ∈ vs) → RE K H m env σ → RDs K H m ds us → gNs is ds env = some env' → wipe σ vs = σ0 → gNames is us σ H Q
  | [], [], _, env, σ, _, hE, r, e, hw => by
    cases r
    cases e
    exact ⟨rfl, hq σ hE hw⟩
  | i :: is, d :: ds, _, env, σ, hi, hE, r, e, hw => by
    cases r with
    | cons r rs =>
      refine ⟨_, _, rfl, ?_⟩
      exact gNames_run hq (fun j hj => hi j (List.mem_cons_of_mem _ hj)) (hE.set r i) rs e (by rw [wipe_set (hi i List.mem_cons_self), hw])
  | [], _ :: _, _, _, _, _, _, _, e, _ => by cases e
  | _ :: _, [], _, _, _, _, _, _, e, _ => by cases e
theorem ct_tp {K : PySem.W.Frag} {is vs : List Nat} (h : ∀ i ∈ is, i ∈ vs) : CT K (gTup K is.length (gNames is)) vs (cTp is) := fun H m env env' σ d v Q hE r e hw hq => by
  cases r with
  | tup hs rs => exact ⟨_, _, rfl, hs, by rw [rs.len, gNs_len e], gNames_run hq h hE rs e hw⟩
  | _ => cases e
section
variable {X : Cx} {cl : Nat → Addr} {W : WX}
theorem comp_run {tg : D → Env → Option Env} {ι : FI} {vs : List Nat} {cond : FB} {elt : FE} {g : TG} (hg : CT X.K g vs tg) {σ : L2.St} {H : Hp} {Q : VK} (h : tE X.K cl W (bComp ι vs tg cond elt) σ H Q) :
    tLc (tI X.K cl W ι) g (tT X.K cl W0 cond) (tE X.K cl W0 elt) vs σ H Q := by
  obtain ⟨m, env, st, hE, hS, h⟩ := h
  refine ⟨m, env, st, hE, hS, snd_bind h fun it st1 J H1 m1 g1 s1 r1 h1 => fun Dl hD => ?_⟩
  refine ⟨fun i k H2 => ∃ m2 st2 acc vacc, Gw H1 m1 H2 m2 ∧ RS X.K cl H2 m2 st2 ∧ RDs X.K H2 m2 acc vacc ∧ H2 Dl = some (.lst vacc) ∧ Dl ∉ m2 ∧
    Snd X.K cl (RD X.K) ((compI it tg cond elt (wipeE env vs) k i acc st2).bind fun ys s => newL ys s) H1 m1 Q fun c d H' => W c d σ H', ⟨fuel, m1, st1, [], [], Gw.alloc hD, s1.alloc hD, .nil, upd_same, s1.fresh hD, h1⟩, ?_⟩
  rintro i k H2 ⟨m2, st2, acc, vacc, g2, s2, r2, e2, n2, h2⟩
  cases k with
  | zero => exact h2.elim
  | succ k =>
    unfold compI at h2
    cases eg : it.get st2 i with
    | none => rw [eg] at h2; exact h2.elim
    | some o =>
      obtain ⟨z1, z2⟩ := r1 i H2 m2 st2 g2 s2
      cases o with
      | none =>
        rw [eg] at h2
        refine .inl ⟨z1 eg, ?_⟩
        refine snd_ok (v := .ref Dl) h2 (H' := H2) (m' := m2 ++ [Dl]) ?_ ?_ (.obj (push_get s2))
        · refine ⟨g2.tup, g2.frz, g2.xd, ?_, g2.oth, fun a ha => ?_⟩
          · obtain ⟨r, e⟩ := g2.pre
            exact ⟨r ++ [Dl], by rw [e, List.append_assoc]⟩
          · rcases List.mem_append.mp ha with ha | ha
            · exact g2.new a ha
            · rw [List.mem_singleton] at ha; subst ha; exact .inr hD
        · have gv : Gv H2 m2 H2 (m2 ++ [Dl]) := ⟨fun _ _ h => h, fun _ _ _ h => h, fun _ _ h => h, ⟨[Dl], rfl⟩⟩
          refine ⟨by simp [s2.len], ?_, fun l y a q1 q2 => ?_⟩
          · rw [List.nodup_append]
            refine ⟨s2.nd, by simp, fun a ha b hb => ?_⟩
            rw [List.mem_singleton] at hb
            subst hb
            rintro rfl
            exact n2 ha
          · by_cases hl : l < m2.length
            · rw [List.getElem?_append_left hl] at q2
              rw [List.getElem?_append_left (by rw [← s2.len]; exact hl)] at q1
              exact (s2.at_ l y a q1 q2).gv gv rfl
            · have el : l = m2.length := by
                have := (List.getElem?_eq_some_iff.mp q2).1
                simp at this
                omega
              subst el
              rw [List.getElem?_append_right (Nat.le_refl _)] at q2
              rw [s2.len, List.getElem?_append_right (Nat.le_refl _)] at q1
              simp at q1 q2
              subst q1 q2
              exact .lst e2 (r2.gv gv)
      | some d =>
        rw [eg] at h2
        obtain ⟨z3, z4⟩ := z2 d eg
        refine .inr ⟨z3, fun H3 => ∃ m2 st2 acc vacc, Gw H1 m1 H3 m2 ∧ RS X.K cl H3 m2 st2 ∧ RDs X.K H3 m2 acc vacc ∧ H3 Dl = some (.lst vacc) ∧ Dl ∉ m2 ∧
          Snd X.K cl (RD X.K) ((compI it tg cond elt (wipeE env vs) k (i + 1) acc st2).bind fun ys s => newL ys s) H1 m1 Q fun c d H' => W c d σ H', fun H3 q => ⟨k, Nat.lt_succ_self k, q⟩, fun x H3 y => ?_⟩
        obtain ⟨g3, s3, r3⟩ := z4 x H3 y
        dsimp only at h2
        cases et : tg d (wipeE env vs) with
        | none => rw [et] at h2; exact h2.elim
        | some env' =>
          rw [et] at h2
          have G3 := g2.trans g3
          have hE3 : RE X.K H3 m2 (wipeE env vs) (wipe σ vs) := (hE.gw (g1.trans G3)).wipe vs
          have e3 : H3 Dl = some (.lst vacc) := g3.oth Dl _ e2 n2
          refine hg H3 m2 _ env' _ d x _ hE3 r3 et (wipe_wipe σ vs) fun σ' hE' hw => ⟨hw, m2, env', st2, hE', s3, ?_⟩
          have bb : ∀ {α γ δ : Type} (r : R α) (f : α → Sto → R γ) (g : γ → Sto → R δ), (r.bind f).bind g = r.bind fun a s => (f a s).bind g := fun r f g => by cases r <;> rfl
          dsimp only at h2
          rw [bb] at h2
          refine snd_bind0 h2 fun b st4 b' H4 m4 g4 s4 r4 h4 => ?_
          subst r4
          have n4 : Dl ∉ m4 := fun z => by
            rcases g4.new Dl z with z | z
            · exact n2 z
            · rw [e3] at z; cases z
          have e4 : H4 Dl = some (.lst vacc) := g4.oth Dl _ e3 n2
          cases b with
          | false => exact ⟨m4, st4, acc, vacc, G3.trans g4, s4, r2.gw (g3.trans g4), e4, n4, h4⟩
          | true =>
            refine ⟨m4, env', st4, hE'.gw g4, s4, ?_⟩
            have h4 : Snd X.K cl (RD X.K) (((elt env' st4).nx.bind fun y s => if acc.length < sizeLine then compI it tg cond elt (wipeE env vs) k (i + 1) (acc ++ [y]) s else .bad).bind fun ys s => newL ys s) H1 m1 Q fun c d H' => W c d σ H' := h4
            rw [bb] at h4
            refine snd_bind0 h4 fun y st5 y' H5 m5 g5 s5 r5 h5 => ?_
            have n5 : Dl ∉ m5 := fun z => by
              rcases g5.new Dl z with z | z
              · exact n4 z
              · rw [e4] at z; cases z
            have e5 : H5 Dl = some (.lst vacc) := g5.oth Dl _ e4 n4
            by_cases hz : acc.length < sizeLine
            · rw [if_pos hz] at h5
              have racc := r2.gw (g3.trans (g4.trans g5))
              have gv : Gv H5 m5 (upd H5 Dl (.lst (vacc ++ [y']))) m5 := Gv.side e5 (fun _ z => by cases z) (fun _ _ z => by cases z)
              exact ⟨vacc, e5, by rw [racc.len]; exact hz, m5, st5, acc ++ [y], vacc ++ [y'], (G3.trans (g4.trans g5)).side hD, s5.side e5 (fun _ z => by cases z) (fun _ _ z => by cases z) n5, (racc.append (.cons r5 .nil)).gv gv, upd_same, n5, h5⟩
            · rw [if_neg hz] at h5
              exact h5.elim
/-- [elt for x in iter if ..] -/
theorem k_comp {elt tg iter : Expr} {ifs : List Expr} {scope : Scope} {own : List (Str × Nat)} {pos : Pos} {ι : FI} {cond : FB} {fe : FE} {g : TG} {ct : D → Env → Option Env} (hc : X.calm = true) (hN : X.N.Nodup) (hi : SI X cl W tg iter ι) (ok : BlkOk X.N X.env.scope scope own) (hct : CT X.K g (own.map (·.2)) ct)
    (hg : ∀ (s : Shared) (H : Hp) (C : Addr) (cs : List (Str × Addr)) (fp : List Addr), PG (X.blk s H scope (compEnvC scope cs C X.env) fp) tg g)
    (ht : ∀ (s : Shared) (H : Hp) (C : Addr) (cs : List (Str × Addr)) (fp : List Addr), PTs (X.blk s H scope (compEnvC scope cs C X.env) fp) ifs (tT X.K cl W0 cond))
    (he : ∀ (s : Shared) (H : Hp) (C : Addr) (cs : List (Str × Addr)) (fp : List Addr), SE (X.blk s H scope (compEnvC scope cs C X.env) fp) cl W0 elt fe)
    (hs : ∀ x, foldedSetIterable iter X.env x = pure x := by intro _; rfl) :
    SE X cl W (.ListComp elt [⟨tg, iter, ifs, 0⟩] scope pos) (bComp ι (own.map (·.2)) ct cond fe) :=
  PE.imp (pe_lc (te := tE X.K cl W0 fe) hc hN hi ok hg ht he hs) fun σ H Q h => comp_run hct h
theorem kts_nil {cl : Nat → Addr} : PTs X [] (tT X.K cl W0 bYes) := ⟨fun pins s σ H Q I ⟨m, env, st, hE, hS, h⟩ => pts_nil.run pins s σ H Q I (snd_ok h Gw.refl hS rfl)⟩
theorem kts_one {c : Expr} {q : FB} (h : ST X cl W0 c q) : PTs X [c] (tT X.K cl W0 q) := pts_one h
end
end Kc

namespace Kc
open PySem PySem.Spec PyProof.Rows L2
/-! ### statements -/
inductive Z where
  | nx (env : Env) (s : Sto) | rt (d : D) (s : Sto) | bk (env : Env) (s : Sto) | ct (env : Env) (s : Sto) | exc (x : Ex) (env : Env) (s : Sto) | bad
abbrev FS := Env → Sto → Z
def SndZ (K : PySem.W.Frag) (cl : Nat → Addr) (z : Z) (H : Hp) (m : List Addr) (D : Ends) (W : WX) : Prop := match z with
  | .nx env st => ∀ σ' H' m', Gw H m H' m' → RS K cl H' m' st → RE K H' m' env σ' → D.nx σ' H'
  | .rt d st => ∀ v H' m', Gw H m H' m' → RS K cl H' m' st → RD K H' m' d v → D.rt v H'
  | .bk env st => ∀ σ' H' m', Gw H m H' m' → RS K cl H' m' st → RE K H' m' env σ' → D.bk σ' H'
  | .ct env st => ∀ σ' H' m', Gw H m H' m' → RS K cl H' m' st → RE K H' m' env σ' → D.ct σ' H'
  | .exc x env st => ∀ c dd σ' H' m', Gw H m H' m' → RS K cl H' m' st → RE K H' m' env σ' → RX K cl H' m' x c dd → W c dd σ' H'
  | .bad => False
theorem SndZ.from {K : PySem.W.Frag} {cl : Nat → Addr} {z : Z} {H H1 : Hp} {m m1 : List Addr} {D : Ends} {W : WX} (g : Gw H m H1 m1) (h : SndZ K cl z H m D W) : SndZ K cl z H1 m1 D W := by
  cases z with
  | nx env st => exact fun σ' H' m' g' s r => h σ' H' m' (g.trans g') s r
  | rt d st => exact fun v H' m' g' s r => h v H' m' (g.trans g') s r
  | bk env st => exact fun σ' H' m' g' s r => h σ' H' m' (g.trans g') s r
  | ct env st => exact fun σ' H' m' g' s r => h σ' H' m' (g.trans g') s r
  | exc x env st => exact fun c dd σ' H' m' g' s e r => h c dd σ' H' m' (g.trans g') s e r
  | bad => exact h
/-- an expression's result, then a statement -/
def R.z {α : Type} (r : R α) (env : Env) (k : α → Sto → Z) : Z := match r with
  | .ok a s => k a s
  | .exc x s => .exc x env s
  | .bad => .bad
theorem snd_z {K : PySem.W.Frag} {cl : Nat → Addr} {α β : Type} {rel : Hp → List Addr → α → β → Prop} {r : R α} {env : Env} {k : α → Sto → Z} {H : Hp} {m : List Addr} {σ : L2.St} {D : Ends} {W : WX} {Q : β → Hp → Prop} (hE : RE K H m env σ) (h : SndZ K cl (r.z env k) H m D W)
    (hk : ∀ d st v H1 m1, Gw H m H1 m1 → RS K cl H1 m1 st → rel H1 m1 d v → SndZ K cl (k d st) H1 m1 D W → Q v H1) : Snd K cl rel r H m Q fun c d H' => W c d σ H' := by
  cases r with
  | ok d st => exact fun v H' m' g s r => hk d st v H' m' g s r (SndZ.from g h)
  | exc x st => exact fun c dd H' m' g s r => h c dd σ H' m' g s (hE.gw g) r
  | bad => exact h
def tS (K : PySem.W.Frag) (cl : Nat → Addr) (W : WX) (f : FS) : TS := fun D σ H => ∃ m env st, RE K H m env σ ∧ RS K cl H m st ∧ SndZ K cl (f env st) H m D W
def SS (X : Cx) (cl : Nat → Addr) (W : WX) (s : Stmt) (f : FS) : Prop := PS X s (tS X.K cl W f)
def SSs (X : Cx) (cl : Nat → Addr) (W : WX) (s : List Stmt) (f : FS) : Prop := PSs X s (tS X.K cl W f)
theorem PS.imp {X : Cx} {s : Stmt} {t t' : TS} (h : PS X s t) (i : ∀ D σ H, t' D σ H → t D σ H) : PS X s t' := ⟨fun pins s σ H D I q => h.run pins s σ H D I (i D σ H q)⟩
theorem PSs.imp {X : Cx} {s : List Stmt} {t t' : TS} (h : PSs X s t) (i : ∀ D σ H, t' D σ H → t D σ H) : PSs X s t' := ⟨fun pins s σ H D I q => h.run pins s σ H D I (i D σ H q)⟩
/-- what the frame's context must have -/
structure Co (X : Cx) (W : WX) : Prop where
  calm : X.calm = true
  nd : X.N.Nodup
  takes : Takes X W
  pass : PassesOwn (model X.prog X.w) X.A X.env X.xe
def sNext : FS := fun env st => .nx env st
def Z.then (z : Z) (g : FS) : Z := match z with
  | .nx env st => g env st
  | z => z
def sSeq (f g : FS) : FS := fun env st => (f env st).then g
def sRet (f : FE) : FS := fun env st => (f env st).z env fun d s => .rt d s
def sRetN : FS := fun _ st => .rt .non st
def sDrop (f : FE) : FS := fun env st => (f env st).z env fun _ s => .nx env s
def sIf (c : FB) (f g : FS) : FS := fun env st => (c env st).z env fun b s => if b = true then f env s else g env s
def sAsg (f : FE) (g : FG) : FS := fun env st => (f env st).z env fun d s => (g d env s).z env fun env' s => .nx env' s
def sBrk : FS := fun env st => .bk env st
def sCnt : FS := fun env st => .ct env st
def whileI (c : FB) (body : FS) : Nat → FS
  | 0, _, _ => .bad
  | k + 1, env, st => (c env st).z env fun b s => if b = true then (match body env s with
      | .nx env' s' => whileI c body k env' s'
      | .ct env' s' => whileI c body k env' s'
      | .bk env' s' => .nx env' s'
      | z => z) else .nx env s
def sWhile (c : FB) (body : FS) : FS := whileI c body fuel
def forI (it : Itn) (g : FG) (body : FS) : Nat → Nat → Env → Sto → Z
  | 0, _, _, _ => .bad
  | k + 1, i, env, st => match it.get st i with
    | none => .bad
    | some none => .nx env st
    | some (some d) => (g d env st).z env fun env s => match body env s with
      | .nx env' s' => forI it g body k (i + 1) env' s'
      | .ct env' s' => forI it g body k (i + 1) env' s'
      | .bk env' s' => .nx env' s'
      | z => z
def sFor (ι : FI) (g : FG) (body : FS) : FS := fun env st => (ι env st).z env fun it s => forI it g body fuel 0 env s
section
variable {X : Cx} {cl : Nat → Addr} {W : WX} {e a b c tg : Expr} {es : List Expr} {f g : FE} {fa : FA} {pos : Pos} {s : Stmt} {ss : List Stmt} {u v : FS} {q : FB}
theorem ks_nil : SSs X cl W [] sNext := PSs.imp pss_nil fun D σ H ⟨m, env, st, hE, hS, h⟩ => h σ H m Gw.refl hS hE
theorem ks_cons (h1 : SS X cl W s u) (h2 : SSs X cl W ss v) : SSs X cl W (s :: ss) (sSeq u v) := by
  refine PSs.imp (pss_cons h1 h2) fun D σ H ⟨m, env, st, hE, hS, h⟩ => ?_
  refine ⟨m, env, st, hE, hS, ?_⟩
  unfold sSeq at h
  cases e : u env st with
  | nx env' st' => rw [e] at h; exact fun σ' H' m' g s r => ⟨m', env', st', r, s, SndZ.from g h⟩
  | rt d st' => rw [e] at h; exact h
  | bk env' st' => rw [e] at h; exact h
  | ct env' st' => rw [e] at h; exact h
  | exc x env' st' => rw [e] at h; exact h
  | bad => rw [e] at h; exact h
theorem ks_one (h1 : SS X cl W s u) : SSs X cl W [s] u := pss_one h1
theorem ks_pass : SS X cl W (.Pass pos) sNext := PS.imp ps_pass fun D σ H ⟨m, env, st, hE, hS, h⟩ => h σ H m Gw.refl hS hE
theorem ks_brk : SS X cl W (.Break pos) sBrk := PS.imp ps_break fun D σ H ⟨m, env, st, hE, hS, h⟩ => h σ H m Gw.refl hS hE
theorem ks_cnt : SS X cl W (.Continue pos) sCnt := PS.imp ps_continue fun D σ H ⟨m, env, st, hE, hS, h⟩ => h σ H m Gw.refl hS hE
theorem ks_ret (ha : SE X cl W a f) : SS X cl W (.Return (some a) pos) (sRet f) := by
  refine PS.imp (ps_ret ha) fun D σ H ⟨m, env, st, hE, hS, h⟩ => ?_
  exact ⟨m, env, st, hE, hS, snd_z hE h fun d st1 v H1 m1 g1 s1 r1 h1 => h1 v H1 m1 Gw.refl s1 r1⟩
theorem ks_retN : SS X cl W (.Return none pos) sRetN := PS.imp ps_retN fun D σ H ⟨m, env, st, hE, hS, h⟩ => h .non H m Gw.refl hS .non
theorem ks_expr (ha : SE X cl W a f) (hs : swapsWith a none pos.line X.env = pure false := by rfl) : SS X cl W (.Expr a pos) (sDrop f) := by
  refine PS.imp (ps_expr ha hs) fun D σ H ⟨m, env, st, hE, hS, h⟩ => ?_
  exact ⟨m, env, st, hE, hS, snd_z hE h fun d st1 v H1 m1 g1 s1 r1 h1 => h1 σ H1 m1 Gw.refl s1 (hE.gw g1)⟩
theorem ks_if {sa sb : List Stmt} (hc : ST X cl W c q) (ha : SSs X cl W sa u) (hb : SSs X cl W sb v) : SS X cl W (.If c sa sb pos) (sIf q u v) := by
  refine PS.imp (ps_if hc ha hb) fun D σ H ⟨m, env, st, hE, hS, h⟩ => ?_
  refine ⟨m, env, st, hE, hS, snd_z hE h fun d st1 v H1 m1 g1 s1 r1 h1 => ?_⟩
  subst r1
  cases d with
  | true => exact ⟨m1, env, st1, hE.gw g1, s1, h1⟩
  | false => exact ⟨m1, env, st1, hE.gw g1, s1, h1⟩
theorem asg_run {D : Ends} {σ : L2.St} {H : Hp} {gg : FG} (h : tS X.K cl W (sAsg f gg) D σ H) : tAsg (tE X.K cl W f) (tG X.K cl W gg) D σ H := by
  obtain ⟨m, env, st, hE, hS, h⟩ := h
  refine ⟨m, env, st, hE, hS, snd_z hE h fun d st1 v H1 m1 g1 s1 r1 h1 => ⟨m1, env, st1, d, hE.gw g1, s1, r1, ?_⟩⟩
  refine snd_z (rel := fun H' m' env' σ' => RE X.K H' m' env' σ') (hE.gw g1) h1 fun env' st2 σ' H2 m2 g2 s2 r2 h2 => h2 σ' H2 m2 Gw.refl s2 r2
theorem ks_asg {gg : FG} (ha : SE X cl W a f) (hg : SG X cl W tg gg) (hs : swapsWithSole [tg] a pos.line X.env = pure false := by rfl) (hw : swappedStores [tg] a X.env = pure none := by rfl)
    (h1 : (assignEach [tg] X.env).map (·.2) = [assign tg X.env] := by rfl) : SS X cl W (.Assign [tg] a pos) (sAsg f gg) := PS.imp (ps_asg ha hg hs hw h1) fun D σ H h => asg_run h
theorem nm_run {D : Ends} {σ : L2.St} {H : Hp} {i : Nat} {te : TE} (hte : ∀ σ H Q, tE X.K cl W f σ H Q → te σ H Q) (h : tS X.K cl W (sAsg f (gNm i)) D σ H) : tAsg te (gName i) D σ H := by
  obtain ⟨m, env, st, hE, hS, h⟩ := h
  exact hte _ _ _ ⟨m, env, st, hE, hS, snd_z hE h fun d st1 v H1 m1 g1 s1 r1 h1 => h1 _ H1 m1 Gw.refl s1 ((hE.gw g1).set r1 i)⟩
theorem ks_set {i : Nat} {x : Str} {p1 : Pos} (hN : X.N.Nodup) (ha : SE X cl W a f) (hi : X.N[i]? = some x := by rfl) (hx : Loc X.env.scope x := by first | exact Or.inl rfl | exact Or.inr rfl) (hs : swapsWith a (some (.Name x p1)) pos.line X.env = pure false := by rfl) (hf : X.fn x = true ∨ X.env.scope.names.lookup x = some .local := by first | exact .inl rfl | exact .inr rfl) :
    SS X cl W (.Assign [.Name x p1] a pos) (sAsg f (gNm i)) := PS.imp (ps_set hN hi hx ha hs hf) fun D σ H h => nm_run (fun _ _ _ q => q) h
/-- x = [elt for .. in .. if ..] -/
theorem ks_setc {i : Nat} {y : Str} {py : Pos} {elt tg iter : Expr} {ifs : List Expr} {scope : Scope} {own : List (Str × Nat)} {pos spos : Pos} {ι : FI} {cond : FB} {fe : FE} {g : TG} {ct : D → Env → Option Env} (hc : X.calm = true) (hN : X.N.Nodup) (hi : SI X cl W tg iter ι) (ok : BlkOk X.N X.env.scope scope own) (hct : CT X.K g (own.map (·.2)) ct)
    (hg : ∀ (s : Shared) (H : Hp) (C : Addr) (cs : List (Str × Addr)) (fp : List Addr), PG (X.blk s H scope (compEnvC scope cs C X.env) fp) tg g)
    (ht : ∀ (s : Shared) (H : Hp) (C : Addr) (cs : List (Str × Addr)) (fp : List Addr), PTs (X.blk s H scope (compEnvC scope cs C X.env) fp) ifs (tT X.K cl W0 cond))
    (he : ∀ (s : Shared) (H : Hp) (C : Addr) (cs : List (Str × Addr)) (fp : List Addr), SE (X.blk s H scope (compEnvC scope cs C X.env) fp) cl W0 elt fe)
    (hy : X.N[i]? = some y := by rfl) (hyl : X.env.scope.names.lookup y = some .local := by rfl) (hsw : swapsWith (.ListComp elt [⟨tg, iter, ifs, 0⟩] scope pos) (some (.Name y py)) spos.line X.env = pure true := by exact sw_true rfl rfl rfl (by decide +kernel))
    (hs : ∀ x, foldedSetIterable iter X.env x = pure x := by intro _; rfl) :
    SS X cl W (.Assign [.Name y py] (.ListComp elt [⟨tg, iter, ifs, 0⟩] scope pos) spos) (sAsg (bComp ι (own.map (·.2)) ct cond fe) (gNm i)) :=
  PS.imp (ps_setLc (te := tE X.K cl W0 fe) hc hN hy hyl hsw hi ok hg ht he hs) fun D σ H h => nm_run (fun _ _ _ q => comp_run hct q) h
theorem ks_while {sb : List Stmt} (C : Co X W) (hc : ST X cl W c q) (hb : SSs X cl W sb u) : SS X cl W (.While c sb [] pos) (sWhile q u) := by
  refine PS.imp (ps_while C.pass hc hb) fun D σ H ⟨m, env, st, hE, hS, h⟩ => ?_
  refine ⟨fun k σ2 H2 => ∃ m2 env2 st2, RE X.K H2 m2 env2 σ2 ∧ RS X.K cl H2 m2 st2 ∧ SndZ X.K cl (whileI q u k env2 st2) H2 m2 D W, ⟨fuel, m, env, st, hE, hS, h⟩, ?_⟩
  rintro k σ2 H2 ⟨m2, env2, st2, hE2, hS2, h2⟩
  cases k with
  | zero => exact h2.elim
  | succ k =>
    unfold whileI at h2
    refine ⟨m2, env2, st2, hE2, hS2, snd_z hE2 h2 fun d st3 v H3 m3 g3 s3 r3 h3 => ?_⟩
    subst r3
    cases d with
    | false => exact h3 σ2 H3 m3 Gw.refl s3 (hE2.gw g3)
    | true =>
      rw [if_pos rfl] at h3
      refine ⟨fun σ4 H4 => ∃ m2 env2 st2, RE X.K H4 m2 env2 σ4 ∧ RS X.K cl H4 m2 st2 ∧ SndZ X.K cl (whileI q u k env2 st2) H4 m2 D W, fun σ4 H4 q => ⟨k, Nat.lt_succ_self k, q⟩, m3, env2, st3, hE2.gw g3, s3, ?_⟩
      cases eb : u env2 st3 with
      | nx env' s' => rw [eb] at h3; exact fun σ' H' m' g s r => ⟨m', env', s', r, s, SndZ.from g h3⟩
      | ct env' s' => rw [eb] at h3; exact fun σ' H' m' g s r => ⟨m', env', s', r, s, SndZ.from g h3⟩
      | bk env' s' => rw [eb] at h3; exact h3
      | rt d s' => rw [eb] at h3; exact h3
      | exc x env' s' => rw [eb] at h3; exact h3
      | bad => rw [eb] at h3; exact h3
theorem ks_for {iter : Expr} {sb : List Stmt} {ι : FI} {gg : FG} (C : Co X W) (hi : SI X cl W tg iter ι) (hg : SG X cl W tg gg) (hb : SSs X cl W sb u) (hs : ∀ x, foldedSetIterable iter X.env x = pure x := by intro _; rfl) : SS X cl W (.For tg iter sb [] pos) (sFor ι gg u) := by
  refine PS.imp (ps_for C.pass C.calm hi hg hb hs) fun D σ H ⟨m, env, st, hE, hS, h⟩ => ?_
  refine ⟨m, env, st, hE, hS, snd_z hE h fun it st1 J H1 m1 g1 s1 r1 h1 => ?_⟩
  refine ⟨fun i k σ2 H2 => ∃ m2 env2 st2, Gw H1 m1 H2 m2 ∧ RE X.K H2 m2 env2 σ2 ∧ RS X.K cl H2 m2 st2 ∧ SndZ X.K cl (forI it gg u k i env2 st2) H2 m2 D W, ⟨fuel, m1, env, st1, Gw.refl, hE.gw g1, s1, h1⟩, ?_⟩
  rintro i k σ2 H2 ⟨m2, env2, st2, G2, hE2, hS2, h2⟩
  cases k with
  | zero => exact h2.elim
  | succ k =>
    unfold forI at h2
    cases eg : it.get st2 i with
    | none => rw [eg] at h2; exact h2.elim
    | some o =>
      obtain ⟨z1, z2⟩ := r1 i H2 m2 st2 G2 hS2
      rw [eg] at h2
      cases o with
      | none => exact .inl ⟨z1 eg, h2 σ2 H2 m2 Gw.refl hS2 hE2⟩
      | some d =>
        obtain ⟨z3, z4⟩ := z2 d eg
        refine .inr ⟨z3, fun σ4 H4 => ∃ m2 env2 st2, Gw H1 m1 H4 m2 ∧ RE X.K H4 m2 env2 σ4 ∧ RS X.K cl H4 m2 st2 ∧ SndZ X.K cl (forI it gg u k (i + 1) env2 st2) H4 m2 D W, fun σ4 H4 q => ⟨k, Nat.lt_succ_self k, q⟩, fun x H3 y => ?_⟩
        obtain ⟨g3, s3, r3⟩ := z4 x H3 y
        have h2 := SndZ.from g3 h2
        refine ⟨m2, env2, st2, d, hE2.gw g3, s3, r3, ?_⟩
        refine snd_z (rel := fun H' m' env' σ' => RE X.K H' m' env' σ') (hE2.gw g3) h2 fun env' st4 σ4 H4 m4 g4 s4 r4 h4 => ⟨m4, env', st4, r4, s4, ?_⟩
        have G4 := G2.trans (g3.trans g4)
        cases eb : u env' st4 with
        | nx env' s' => rw [eb] at h4; exact fun σ' H' m' g s r => ⟨m', env', s', G4.trans g, r, s, SndZ.from g h4⟩
        | ct env' s' => rw [eb] at h4; exact fun σ' H' m' g s r => ⟨m', env', s', G4.trans g, r, s, SndZ.from g h4⟩
        | bk env' s' => rw [eb] at h4; exact h4
        | rt d s' => rw [eb] at h4; exact h4
        | exc x env' s' => rw [eb] at h4; exact h4
        | bad => rw [eb] at h4; exact h4
end
/-! ### defs -/
/-- a body's run on n parameters, N names in all -/
def runB (n N : Nat) (f : FS) : FD := fun ds st => if ds.length = n then (match f (ds.map some ++ List.replicate (N - n) none) st with
  | .nx _ s => .ok .non s
  | .rt d s => .ok d s
  | .exc x _ s => .exc x s
  | _ => .bad) else .bad
theorem runB_ar {n N : Nat} {f : FS} : ∀ ds st, ds.length ≠ n → runB n N f ds st = .bad := fun ds st h => by
  unfold runB
  rw [if_neg h]
theorem re_start {K : PySem.W.Frag} {H : Hp} {m : List Addr} {ds : List D} {vs : List V} (N : List Str) (r : RDs K H m ds vs) : RE K H m (ds.map some ++ List.replicate (N.length - ds.length) none) (L2.start N vs) := by
  have hl := r.len
  refine ⟨?_, fun i d e => ?_⟩
  · unfold L2.start
    simp [hl]
  · have hi : i < ds.length := by
      by_cases hi : i < ds.length
      · exact hi
      · rw [List.getElem?_append_right (by simpa using hi)] at e
        rw [List.getElem?_replicate] at e
        split at e <;> cases e
    rw [List.getElem?_append_left (by simpa using hi), List.getElem?_map] at e
    cases ed : ds[i]? with
    | none => rw [ed] at e; cases e
    | some d' =>
      rw [ed] at e
      cases e
      obtain ⟨v, h1, h2⟩ := r.get ed
      refine ⟨v, ?_, h2⟩
      unfold L2.start
      rw [List.getElem?_append_left (by simp [hl, hi]), List.getElem?_map, h1]
      rfl
section
variable {P : Program} {w : World} {K : PySem.W.Frag} {mg : Str → Option Value} {base : Heap} {cl : Nat → Addr}
/-- what a def's body must read as, for every call -/
def BodyOk (P : Program) (w : World) (K : PySem.W.Frag) (mg : Str → Option Value) (base : Heap) (cl : Nat → Addr) (k : Nat) (N : List Str) (qual : Str) (st : Stmt) (f : Addr) (u : FS) : Prop :=
  ∀ (cdv : Value) (A : Around) (outer : List PySem.Env) (s : Shared) (H : Hp) (E : XK), Room k (A.deeper (envOfC qual (defScope st) s.heap.objs.size f cdv)) →
    Co (cxOf (L2.CX P w) P w K mg base N qual (defScope st) f cdv A outer s H E) (fun c d _ H => E c d H) →
    SSs (cxOf (L2.CX P w) P w K mg base N qual (defScope st) f cdv A outer s H E) cl (fun c d _ H => E c d H) (defBody st) u
theorem fn_ok {x qual : Str} {st : Stmt} {f : Addr} {fd : FuncData} {N ps : List Str} {k : Nat} {u : FS} (F : Fun K x qual st f fd) (S : FnScope N ps (defScope st)) (h : BodyOk P w K mg base cl k N qual st f u) :
    FnOk P w K mg base (L2.CX P w) (k + 1) f fd ps (spOf K cl ps.length (runB ps.length N.length u)) := by
  refine F.okX S (fun vs H Q E h => h.1) fun cdv A outer s H vs Q E hr hsp => ?_
  obtain ⟨hl, m, ds, st1, r, hS, q⟩ := hsp
  have C : Co (cxOf (L2.CX P w) P w K mg base N qual (defScope st) f cdv A outer s H E) (fun c d _ H => E c d H) := ⟨rfl, S.nd, takes_of rfl rfl rfl rfl, passes_of rfl⟩
  refine ⟨_, h cdv A outer s H E hr C, m, _, st1, re_start N r, hS, ?_⟩
  have hd : ds.length = ps.length := r.len.symm.trans hl
  unfold runB at q
  rw [if_pos hd] at q
  rw [hd]
  generalize u (ds.map some ++ List.replicate (N.length - ps.length) none) st1 = z at q ⊢
  cases z with
  | nx env s => exact fun σ' H' m' g s' r => q .non H' m' g s' .non
  | rt d s => exact q
  | exc x env s => exact fun c dd σ' H' m' g s' _ r => q c dd H' m' g s' r
  | bk env s => exact q.elim
  | ct env s => exact q.elim
  | bad => exact q.elim
end
end Kc

namespace Kc
open PySem PySem.Spec PyProof.Rows L2
/-! ### instances: fields, methods, making -/
def fldOf (st : Sto) (c : Nat) (f : Str) : D → Option D
  | .obj l => match st[l]? with
    | some (.ins c' fs) => if c' = c then fs.lookup f else none
    | _ => none
  | _ => none
/-- o.f, o an instance of the class c -/
def bFld (c : Nat) (o : FE) (f : Str) : FE := fun env st => (o env st).bind fun x s => match fldOf s c f x with
  | some d => .ok d s
  | none => .bad
/-- the fields with f put -/
def putD (f : Str) (v : D) : List (Str × D) → List (Str × D)
  | [] => [(f, v)]
  | (g, u) :: r => if g = f then (g, v) :: r else (g, u) :: putD f v r
def setFld (st : Sto) (c : Nat) (f : Str) (v : D) : D → Option Sto
  | .obj l => match st[l]? with
    | some (.ins c' fs) => if c' = c ∧ fs.length < 1000 then some (st.set l (.ins c (putD f v fs))) else none
    | _ => none
  | _ => none
/-- o.f = e -/
def sFldS (c : Nat) (o : FE) (f : Str) (e : FE) : FS := fun env st => (e env st).z env fun v s => (o env s).z env fun x s => match setFld s c f v x with
  | some s' => .nx env s'
  | none => .bad
/-- the class c is plain, and has none of the names -/
structure ClsK (K : PySem.W.Frag) (cl : Nat → Addr) (c : Nat) : Prop where
  cls : Cls K (cl c)
section
variable {X : Cx} {cl : Nat → Addr} {W : WX} {e a b tg : Expr} {es : List Expr} {f g : FE} {fa : FA} {pos : Pos}
theorem RF.look {K : PySem.W.Frag} {H : Hp} {m : List Addr} {n : Str} : ∀ {fs : List (Str × D)} {gs : List (Str × V)} {d : D}, RF K H m fs gs → fs.lookup n = some d → ∃ v, gs.lookup n = some v ∧ RD K H m d v
  | _, _, _, .nil, h => by cases h
  | (k, d0) :: fs, (_, v0) :: gs, d, .cons hd r, h => by
    by_cases e : n = k
    · subst e
      rw [List.lookup_cons_self] at h
      cases h
      exact ⟨v0, by rw [List.lookup_cons_self], hd⟩
    · have e' : (n == k) = false := by simpa using e
      rw [List.lookup_cons, e'] at h
      obtain ⟨v, h1, h2⟩ := RF.look r h
      exact ⟨v, by rw [List.lookup_cons, e']; exact h1, h2⟩
theorem RF.look0 {K : PySem.W.Frag} {H : Hp} {m : List Addr} {n : Str} : ∀ {fs : List (Str × D)} {gs : List (Str × V)}, RF K H m fs gs → fs.lookup n = none → gs.lookup n = none
  | _, _, .nil, h => rfl
  | (k, d0) :: fs, (_, v0) :: gs, .cons hd r, h => by
    by_cases e : n = k
    · subst e
      rw [List.lookup_cons_self] at h
      cases h
    · have e' : (n == k) = false := by simpa using e
      rw [List.lookup_cons, e'] at h ⊢
      exact RF.look0 r h
theorem RF.len {K : PySem.W.Frag} {H : Hp} {m : List Addr} : ∀ {fs : List (Str × D)} {gs : List (Str × V)}, RF K H m fs gs → gs.length = fs.length
  | _, _, .nil => rfl
  | _, _, .cons _ r => by simp [RF.len r]
theorem RF.put {K : PySem.W.Frag} {H : Hp} {m : List Addr} {n : Str} {d : D} {v : V} (hd : RD K H m d v) : ∀ {fs : List (Str × D)} {gs : List (Str × V)}, RF K H m fs gs → RF K H m (putD n d fs) (putF n v gs)
  | _, _, .nil => .cons hd .nil
  | (k, d0) :: fs, (_, v0) :: gs, .cons h r => by
    show RF K H m (if k = n then (k, d) :: fs else (k, d0) :: putD n d fs) (if k = n then (k, v) :: gs else (k, v0) :: putF n v gs)
    by_cases e : k = n
    · rw [if_pos e, if_pos e]; exact .cons hd r
    · rw [if_neg e, if_neg e]; exact .cons h (RF.put hd r)
theorem fld_ok {K : PySem.W.Frag} {H : Hp} {m : List Addr} {st : Sto} {c : Nat} {n : Str} {x : D} {v : V} {d : D} (hS : RS K cl H m st) (r : RD K H m x v) (h : fldOf st c n x = some d) : ∃ a dx gs u, v = .ref a ∧ H a = some (.ins (cl c) dx gs) ∧ gs.lookup n = some u ∧ RD K H m d u := by
  cases r with
  | obj hl =>
    unfold fldOf at h
    dsimp only at h
    split at h
    · rename_i c' fs e
      split at h
      · rename_i hc
        subst hc
        have ro := hS.at_ _ _ _ e hl
        cases ro with
        | ins e1 r1 =>
          obtain ⟨u, h1, h2⟩ := r1.look h
          exact ⟨_, _, _, u, rfl, e1, h1, h2⟩
      · cases h
    · cases h
  | _ => cases h
theorem k_fld {c : Nat} {n : Str} (hC : Cls X.K (cl c)) (hn : NoAttr X.K (cl c) n) (ha : SE X cl W a f) (hb : attributeBase a n X.env (eval a X.env) = eval a X.env := by rfl) : SE X cl W (.Attribute a n pos) (bFld c f n) := by
  refine PE.imp (pe_fld ha hb) fun σ H Q ⟨m, env, st, hE, hS, h⟩ => ?_
  refine ⟨m, env, st, hE, hS, snd_bind h fun d st1 v H1 m1 g1 s1 r1 h1 => ?_⟩
  cases e : fldOf st1 c n d with
  | none => simp only [e] at h1; exact h1.elim
  | some d2 =>
    simp only [e] at h1
    obtain ⟨p, dx, gs, u, ev, hp, hl, hr⟩ := fld_ok s1 r1 e
    exact ⟨p, cl c, dx, gs, u, ev, hp, hC, hn, hl, snd_ok h1 Gw.refl s1 hr⟩
theorem ks_fld {c : Nat} {n : Str} {p1 : Pos} (hC : Cls X.K (cl c)) (hn : NoAttr X.K (cl c) n) (ha : SE X cl W a f) (hb : SE X cl W b g) (hs : swapsWith b (some (.Attribute a n p1)) pos.line X.env = pure false := by rfl) : SS X cl W (.Assign [.Attribute a n p1] b pos) (sFldS c f n g) := by
  refine PS.imp (ps_fld ha hb hs) fun Dn σ H ⟨m, env, st, hE, hS, h⟩ => ?_
  refine ⟨m, env, st, hE, hS, snd_z hE h fun y st1 v H1 m1 g1 s1 r1 h1 => ⟨m1, env, st1, hE.gw g1, s1, snd_z (hE.gw g1) h1 fun x st2 u H2 m2 g2 s2 r2 h2 => ?_⟩⟩
  cases e : setFld st2 c n y x with
  | none => simp only [e] at h2; exact h2.elim
  | some st3 =>
    simp only [e] at h2
    cases r2 with
    | obj hl =>
      unfold setFld at e
      dsimp only at e
      split at e
      · rename_i c' fs e1
        split at e
        · rename_i hc
          obtain ⟨hc, hz⟩ := hc
          subst hc
          cases e
          have ro := s2.at_ _ _ _ e1 hl
          cases ro with
          | @ins _ dx _ _ gs e2 r2 =>
            have g : Gw H2 m2 (upd H2 _ (.ins (cl c') dx (putF n v gs))) m2 := Gw.write hl (fun xs z => by rw [e2] at z; cases z) (fun _ _ z => by rw [e2] at z; cases z) (fun _ z => by rw [e2] at z; cases z)
            obtain ⟨_, s3⟩ := s2.write (o := .ins (cl c') dx (putF n v gs)) (y := .ins c' (putD n y fs)) e1 hl (.ins upd_same ((RF.put (r1.gw g2) r2).gw g))
            exact ⟨_, cl c', dx, gs, rfl, e2, hC, hn, by rw [r2.len]; exact hz, h2 σ _ m2 g s3 (hE.gw ((g1.trans g2).trans g))⟩
        · cases e
      · cases e
    | _ => cases e
/-- o.m(..), o of the class c; F is m's -/
def bMet (c : Nat) (m : Str) (F : FD) (o : FE) (g : FA) : FE := fun env st => (o env st).bind fun x s => match x with
  | .obj l => match s[l]? with
    | some (.ins c' fs) => if c' = c ∧ fs.lookup m = none then (g env s).bind fun ds s => F (x :: ds) s else .bad
    | _ => .bad
  | _ => .bad
/-- the method m of the class c, of n parameters with self -/
structure Mt (P : Program) (w : World) (K : PySem.W.Frag) (mg : Str → Option Value) (base : Heap) (cl : Nat → Addr) (k c : Nat) (x : Str) (n : Nat) (F : FD) : Prop where
  ar : ∀ ds st, ds.length ≠ n → F ds st = .bad
  cls : Cls K (cl c)
  ok : ∃ f fd ps, Meth K (cl c) x f ∧ Binds K fd ps [] ∧ FnOk P w K mg base (L2.CX P w) k f fd ps (spOf K cl n F)
/-- exceptions that pass do not hang on the slots -/
def Still (W : WX) : Prop := ∀ c d σ σ' H, W c d σ H → W c d σ' H
theorem met_run {k n c : Nat} {x : Str} {F : FD} {σ : L2.St} {H : Hp} {Q : VK} {E : XK} (ar : ∀ ds st, ds.length ≠ n → F ds st = .bad) (hE0 : ∀ c d H, W c d σ H → E c d H) (h : tE X.K cl W (bMet c x F f fa) σ H Q) : tMeth (cl c) x (spOf X.K cl n F) [] E (tE X.K cl W f) (tA X.K cl W fa) σ H Q := by
  obtain ⟨m, env, st, hE, hS, h⟩ := h
  refine ⟨m, env, st, hE, hS, snd_bind h fun d st1 v H1 m1 g1 s1 r1 h1 => ?_⟩
  cases r1 with
  | obj hl =>
    dsimp only at h1
    split at h1
    · rename_i c' fs e
      split at h1
      · rename_i hc
        obtain ⟨hc, hf⟩ := hc
        subst hc
        have ro := s1.at_ _ _ _ e hl
        cases ro with
        | ins e1 r1 =>
          refine ⟨_, _, _, rfl, e1, r1.look0 hf, m1, env, st1, hE.gw g1, s1, snd_bind h1 fun ds st2 vs H2 m2 g2 s2 r2 h2 => ?_⟩
          have hn := arOf ar h2
          rw [List.append_nil]
          exact ⟨by rw [List.length_cons, r2.len]; exact hn, m2, _, st2, .cons (.obj (g2.get hl)) r2, s2, h2.imp (fun _ _ q => q) fun c d H q => hE0 c d H q⟩
      · exact h1.elim
    · exact h1.elim
  | _ => exact h1.elim
theorem k_met {k n c : Nat} {x : Str} {F : FD} {E : XK} {p1 : Pos} {pl : Sem Bool} (M : Mt X.prog X.w X.K X.mg X.base cl k c x n F) (hr : Room k X.A) (tk : Takes X W) (hE0 : W = fun c d _ H => E c d H) (ha : SE X cl W a f) (hes : SA X cl W (e :: es) fa)
    (hc : eval (.Call (.Attribute a x p1) (e :: es) [] pos) X.env = (do
      let ov ← eval a X.env
      standAt p1.atName
      let (f, first) ← holding [ov] (getMethod ov x pl)
      callWith pos f first (backTo pos (starEach (e :: es) X.env)) (backToKw pos (keywordEach [] X.env))) := by rfl)
    (he : starEach (e :: es) X.env = (false, eval e X.env) :: starEach es X.env := by rfl) (hpl : (backTo pos (starEach es X.env)).any (·.1) = false := by rfl) :
    SE X cl W (.Call (.Attribute a x p1) (e :: es) [] pos) (bMet c x F f fa) := by
  obtain ⟨fm, fd, ps, hm, hb, G⟩ := M.ok
  subst hE0
  exact PE.imp (pe_meth (E := E) ha M.cls hm G hr hb .nil (passes_call tk fun _ _ _ _ q => q) hes he hpl hc) fun σ H Q h => met_run (n := n) (k := k) M.ar (fun _ _ _ q => q) h
theorem k_met0 {k n c : Nat} {x : Str} {F : FD} {E : XK} {p1 : Pos} {pl : Sem Bool} (M : Mt X.prog X.w X.K X.mg X.base cl k c x n F) (hr : Room k X.A) (tk : Takes X W) (hE0 : W = fun c d _ H => E c d H) (ha : SE X cl W a f)
    (hc : eval (.Call (.Attribute a x p1) [] [] pos) X.env = (do
      let ov ← eval a X.env
      standAt p1.atName
      let (f, first) ← holding [ov] (getMethod ov x pl)
      callWith pos f first (backTo pos (starEach [] X.env)) (backToKw pos (keywordEach [] X.env))) := by rfl) :
    SE X cl W (.Call (.Attribute a x p1) [] [] pos) (bMet c x F f bNil) := by
  obtain ⟨fm, fd, ps, hm, hb, G⟩ := M.ok
  subst hE0
  refine PE.imp (pe_meth0 (E := E) ha M.cls hm G hr hb .nil (passes_call tk fun _ _ _ _ q => q) hc) fun σ H Q h => ?_
  obtain ⟨m, env, st, hE, hS, h⟩ := h
  refine ⟨m, env, st, hE, hS, snd_bind h fun d st1 v H1 m1 g1 s1 r1 h1 => ?_⟩
  cases r1 with
  | obj hl =>
    dsimp only at h1
    split at h1
    · rename_i c' fs e
      split at h1
      · rename_i hc
        obtain ⟨hc, hf⟩ := hc
        subst hc
        have ro := s1.at_ _ _ _ e hl
        cases ro with
        | ins e1 r1 =>
          have h1 : Snd X.K cl (RD X.K) (F [.obj _] st1) H1 m1 Q _ := h1
          have hn := arOf M.ar h1
          exact ⟨_, _, _, rfl, e1, r1.look0 hf, (show spOf X.K cl n F [V.ref _] H1 Q E from ⟨hn, m1, _, st1, .cons (.obj hl) .nil, s1, h1⟩)⟩
      · exact h1.elim
    · exact h1.elim
  | _ => exact h1.elim
/-- C(..), C the class c with an __init__ that does F -/
def bMake (c : Nat) (F : FD) (g : FA) : FE := fun env st => (g env st).bind fun ds s => (F (.obj s.length :: ds) (s ++ [.ins c []])).bind fun d s' => match d with
  | .non => .ok (.obj s.length) s'
  | _ => .bad
structure Mc (P : Program) (w : World) (K : PySem.W.Frag) (mg : Str → Option Value) (base : Heap) (cl : Nat → Addr) (k c : Nat) (x : Str) (n : Nat) (F : FD) : Prop where
  ar : ∀ ds st, ds.length ≠ n → F ds st = .bad
  name : mg x = some (.ref (cl c))
  ok : ∃ f fd ps, Mk K (cl c) f ∧ Binds K fd ps [] ∧ FnOk P w K mg base (L2.CX P w) k f fd ps (spOf K cl n F)
theorem make_run {k n c : Nat} {F : FD} {σ : L2.St} {H : Hp} {Q : VK} {E : XK} (ar : ∀ ds st, ds.length ≠ n → F ds st = .bad) (hE0 : ∀ c d H, W c d σ H → E c d H) (h : tE X.K cl W (bMake c F fa) σ H Q) : tMake (cl c) (spOf X.K cl n F) [] E (tA X.K cl W fa) σ H Q := by
  obtain ⟨m, env, st, hE, hS, h⟩ := h
  refine ⟨m, env, st, hE, hS, snd_bind h fun ds st1 vs H1 m1 g1 s1 r1 h1 => fun x dx hx hdx hne => ?_⟩
  have ga : Gw H1 m1 (upd H1 dx (.own x)) m1 := Gw.alloc hdx
  have sa : RS X.K cl (upd H1 dx (.own x)) m1 st1 := s1.alloc hdx
  have hx2 : upd H1 dx (.own x) x = none := by rw [upd_ne (Ne.symm hne)]; exact hx
  have gp : Gw (upd H1 dx (.own x)) m1 (upd (upd H1 dx (.own x)) x (.ins (cl c) dx [])) (m1 ++ [x]) := Gw.push hx2
  have sp : RS X.K cl (upd (upd H1 dx (.own x)) x (.ins (cl c) dx [])) (m1 ++ [x]) (st1 ++ [.ins c []]) := sa.push hx2 (.ins upd_same .nil)
  have h1 := Snd.from (ga.trans gp) h1
  have rx : RD X.K (upd (upd H1 dx (.own x)) x (.ins (cl c) dx [])) (m1 ++ [x]) (.obj st1.length) (.ref x) := .obj (push_get s1)
  have main := snd_bind (rel := RD X.K) (Q := fun v H2 => v = .non ∧ Q (.ref x) H2) h1 fun d st2 v H2 m2 g2 s2 r2 h2 => by
    cases r2 with
    | non => exact ⟨rfl, snd_ok h2 Gw.refl s2 (rx.gw g2)⟩
    | _ => exact h2.elim
  have hn : (D.obj st1.length :: ds).length = n := arOf ar main
  rw [List.append_nil]
  exact ⟨by rw [List.length_cons, r1.len]; exact hn, _, _, _, .cons rx (r1.gw (ga.trans gp)), sp, main.imp (fun _ _ q => q) fun c d H q => hE0 c d H q⟩
theorem k_make {k n c : Nat} {x : Str} {F : FD} {E : XK} {p1 : Pos} (M : Mc X.prog X.w X.K X.mg X.base cl k c x n F) (hr : Room (k + 1) X.A) (tk : Takes X W) (hE0 : W = fun c d _ H => E c d H) (hes : SA X cl W (e :: es) fa) (hg : Gl X x := by rfl)
    (hdb : (x == ("__debug__" : Str)) = false := by decide) (he : starEach (e :: es) X.env = (false, eval e X.env) :: starEach es X.env := by rfl) (hpl : (backTo pos (starEach es X.env)).any (·.1) = false := by rfl) :
    SE X cl W (.Call (.Name x p1) (e :: es) [] pos) (bMake c F fa) := by
  obtain ⟨fm, fd, ps, hm, hb, G⟩ := M.ok
  subst hE0
  exact PE.imp (pe_make (E := E) hm G hr hg M.name hb .nil (passes_call tk fun _ _ _ _ q => q) hes hdb he hpl) fun σ H Q h => make_run (n := n) (k := k) M.ar (fun _ _ _ q => q) h
end
end Kc

namespace Kc
open PySem PySem.Spec PyProof.Rows L2
/-! ### dict(pairs)[key] -/
def keyD : D → Option Key
  | .int i => some (.inl i)
  | .str x => some (.inr x)
  | _ => none
def pairsD : List D → Option (List (Key × D))
  | [] => some []
  | .tup [k, v] :: r => match keyD k, pairsD r with
    | some k, some r => some ((k, v) :: r)
    | _, _ => none
  | _ => none
/-- the last value of a key -/
def lastK (j : Key) : List (Key × D) → Option D
  | [] => none
  | (k, d) :: r => match lastK j r with
    | some x => some x
    | none => if j = k then some d else none
def bDictIx (f g : FE) : FE := fun env st => (f env st).bind fun x s => match x with
  | .ptp ds => match pairsD ds with
    | some kvs => (g env s).bind fun y s => match keyD y with
      | some j => match lastK j kvs with
        | some d => .ok d s
        | none => .bad
      | none => .bad
    | none => .bad
  | _ => .bad
inductive KVs (K : PySem.W.Frag) (H : Hp) (m : List Addr) : List (Key × D) → List (Key × V) → Prop
  | nil : KVs K H m [] []
  | cons {k : Key} {d : D} {v : V} {r : List (Key × D)} {s : List (Key × V)} : RD K H m d v → KVs K H m r s → KVs K H m ((k, d) :: r) ((k, v) :: s)
theorem valV_merge {j : Key} {K : PySem.W.Frag} {H : Hp} {m : List Addr} : ∀ {kvs : List (Key × D)} {us acc : List (Key × V)}, KVs K H m kvs us → (∀ d, lastK j kvs = some d → ∃ v, valV (mergeK acc us) j = some v ∧ RD K H m d v) ∧ (lastK j kvs = none → valV (mergeK acc us) j = valV acc j)
  | _, _, acc, .nil => ⟨fun d h => (by cases h), fun _ => rfl⟩
  | (k, d0) :: r, (_, v0) :: s, acc, .cons h t => by
    have ih := valV_merge (j := j) (acc := putK acc k v0) t
    have e : mergeK acc ((k, v0) :: s) = mergeK (putK acc k v0) s := rfl
    rw [e]
    unfold lastK
    cases eq : lastK j r with
    | some x =>
      obtain ⟨v, h1, h2⟩ := ih.1 x eq
      exact ⟨fun d hd => (by cases hd; exact ⟨v, h1, h2⟩), fun hd => (by cases hd)⟩
    | none =>
      have h1 := ih.2 eq
      rw [h1, valV_put]
      by_cases hj : j = k
      · simp only [if_pos hj]
        exact ⟨fun d hd => (by cases hd; exact ⟨v0, rfl, h⟩), fun hd => (by cases hd)⟩
      · rw [if_neg hj, if_neg hj]
        exact ⟨fun d hd => (by cases hd), fun _ => rfl⟩
theorem keyD_kV {K : PySem.W.Frag} {H : Hp} {m : List Addr} {d : D} {v : V} {k : Key} (r : RD K H m d v) (h : keyD d = some k) : v = kV k := by
  cases r <;> first | (cases h; rfl) | cases h
theorem pairs_paired {K : PySem.W.Frag} {H : Hp} {m : List Addr} : ∀ {ds : List D} {vs : List V} {kvs : List (Key × D)}, RDs K H m ds vs → pairsD ds = some kvs → ∃ (ps : List Addr) (us : List (Key × V)), vs = ps.map V.ref ∧ Paired (fun p kv => SqT K H p [kV kv.1, kv.2]) ps us ∧ KVs K H m kvs us
  | [], _, _, .nil, h => by cases h; exact ⟨[], [], rfl, .nil, .nil⟩
  | d :: ds, _, kvs, .cons hd r, h => by
    unfold pairsD at h
    split at h
    · rename_i e; cases e
    · rename_i k v r' e
      cases e
      split at h
      · rename_i k' r'' e1 e2
        cases h
        cases hd with
        | tup hs rs =>
          obtain ⟨u1, u2, rfl, h1, h2⟩ := rds2 rs
          obtain ⟨ps, us, q1, q2, q3⟩ := pairs_paired r e2
          have ek := keyD_kV h1 e1
          subst ek
          exact ⟨_ :: ps, (k', u2) :: us, by rw [q1]; rfl, .cons hs q2, .cons h2 q3⟩
      · cases h
    · cases h

/-- a tuple that dict() may read -/
def PlT (H : Hp) (a : Addr) (xs : List V) : Prop := ∃ o : Obj, H a = some (.frz o (.tup xs)) ∧ o.dict = none
section
variable {X : Cx}
theorem vals_two {us : List Value} {a b : V} (r : Vals [a, b] us) : ∃ u v, us = [u, v] ∧ RelV a u ∧ RelV b v := by
  cases r with
  | cons p q => cases q with
    | cons p' q' => cases q'; exact ⟨_, _, rfl, p, p'⟩
theorem pairs_at {pins : List (Addr × Obj)} {σ : L2.St} {H : Hp} {s : Shared} (I : Inv X pins σ H s) : ∀ {ps : List Addr} {kvs : List (Key × V)}, Paired (fun p kv => SqT X.K H p [kV kv.1, kv.2]) ps kvs →
    ∃ prs : List (Key × Value), KV kvs prs ∧ prs.length = ps.length ∧ ∃ qs : List (Value × Value), qs.length = ps.length ∧ (∀ (j : Nat) (k v : Value), qs[j]? = some (k, v) → ∃ (b : Addr) (q : Key), ps[j]? = some b ∧ s.heap.IsTuple b #[k, v] ∧ prs[j]? = some (q, v) ∧ keyIs q k = true)
  | _, _, .nil => ⟨[], .nil, rfl, [], rfl, fun j k v e => by simp at e⟩
  | _, _, .cons (a := p) (b := kv) h t => by
    obtain ⟨prs, r, hl, qs, hq, hp⟩ := pairs_at I t
    obtain ⟨its, rv, ht, _⟩ := I.tuple h
    obtain ⟨u, y, ei, ru, ry⟩ := vals_two rv
    subst ei
    refine ⟨(kv.1, y) :: prs, .cons ⟨rfl, ry⟩ r, by rw [List.length_cons, List.length_cons, hl], (u, y) :: qs, by rw [List.length_cons, List.length_cons, hq], fun j k v e => ?_⟩
    cases j with
    | zero =>
      have e' : (u, y) = (k, v) := Option.some.inj e
      cases e'
      exact ⟨p, kv.1, rfl, ht, rfl, kV_is (P := X.prog) (w := X.w) ru⟩
    | succ j =>
      obtain ⟨b, q, e1, e2, e3, e4⟩ := hp j k v (by simpa using e)
      exact ⟨b, q, by simpa using e1, e2, by simpa using e3, e4⟩
/-- dict(xs) of a tuple of pairs (key, value) -/
theorem call_dictT (hcalm : X.calm = true) : CallR X (.type "dict") (fun xs H Q => ∃ (a : Addr) (ps : List Addr) (kvs : List (Key × V)), xs = [.ref a] ∧ PlT H a (ps.map V.ref) ∧ Paired (fun p kv => SqT X.K H p [kV kv.1, kv.2]) ps kvs ∧
    ∀ p, H p = none → Q (.ref p) (upd H p (.dK (mergeK [] kvs)))) := by
  intro pins s σ H xs us Q I r q
  obtain ⟨a, ps, kvs, ex, ⟨o, hfr, hdn⟩, hp, q⟩ := q
  subst ex
  obtain ⟨u, eu, rx⟩ := vals1 r
  subst eu
  cases rx
  obtain ⟨ho, hz, its, rv, o', ho', hc, n, hdat⟩ := (show ObjOk X.prog X.w H s.heap a (.frz o (.tup (ps.map V.ref))) from I.hok a _ hfr)
  rw [ho] at ho'
  cases ho'
  have ei := refs_at rv
  subst ei
  rw [List.length_map] at hz
  obtain ⟨prs, rel, hl, qs, hq, hpr⟩ := pairs_at I hp
  have PI : PairItems s.heap (ps.map Value.ref).toArray (fun j => ps.getD j 0) qs := by
    refine ⟨by simp [hq], fun j k v e => ?_⟩
    obtain ⟨b, q, e1, e2, e3, e4⟩ := hpr j k v e
    have eb : ps.getD j 0 = b := by simp [List.getD, e1]
    exact ⟨by show _ = some (Value.ref (ps.getD j 0)); rw [eb]; simp [e1], by show PairAt _ (ps.getD j 0) _ _; rw [eb]; exact .inl e2⟩
  refine call_dict_pairs (knd := mixKind X.prog X.w) (kvs := prs) (PairArg.tuple a (ps.map Value.ref).toArray (fun j => ps.getD j 0) qs) (I.ok.hd hcalm) ⟨⟨o, n, ho, hc, hdn, hdat⟩, PI⟩ ⟨by rw [hl, hq], fun i k v e => ?_⟩ (by rw [hq]; exact hz) fun h' tk hd' k => ?_
  · obtain ⟨b, q, e1, e2, e3, e4⟩ := hpr i k v e
    exact ⟨q, e3, e4⟩
  · have hm : (s.heap.objs.size == sysModules) = false := beq_eq_false_iff_ne.mpr (Nat.ne_of_gt I.big)
    have hlen : (mergeK [] kvs).length ≤ sizeLine := by
      refine Nat.le_trans (length_mergeK kvs []) ?_
      rw [List.length_nil, Nat.zero_add, rel.length, hl]
      exact hz
    exact ⟨.ref s.heap.objs.size, upd H s.heap.objs.size (.dK (mergeK [] kvs)), I.laid (t' := tk) (fun b o e => k b o (by simp) e) (Nat.le_refl _) (show ObjOk X.prog X.w _ _ _ (.dK (mergeK [] kvs)) from ⟨hlen, hm, merged [] prs, KV.merge rel .nil, hd'⟩), rfl, q _ (I.hok.fresh (Nat.le_refl _))⟩
variable {cl : Nat → Addr} {W : WX} {a b : Expr} {f g : FE} {pos : Pos}
theorem k_dictix {p1 p2 : Pos} (hu : X.A.units + 64 < cLine) (hcalm : X.calm = true) (hm : X.mg "dict" = none) (ha : SE X cl W a f) (hb : SE X cl W b g) (hg : Gl X "dict" := by rfl) 
    (he : starEach [a] X.env = (false, eval a X.env) :: starEach [] X.env := by rfl) (hpl : (backTo p2 (starEach [] X.env)).any (·.1) = false := by rfl) (hs : NoSl b := by intro _ _; rfl) :
    SE X cl W (.Subscript (.Call (.Name "dict" p1) [a] [] p2) b pos) (bDictIx f g) := by
  refine PE.imp (pe_dget (by omega) (pe_callTy (call_dictT hcalm) hg hm (by decide +kernel) (pa_cons ha pa_nil he) (by decide) (by decide) he hpl) hb hs) fun σ H Q ⟨m, env, st, hE, hS, h⟩ => ?_
  refine ⟨m, env, st, hE, hS, snd_bind h fun d st1 v H1 m1 g1 s1 r1 h1 => ?_⟩
  cases r1 with
  | @ptp a o xs ds hf hn rs =>
    have h1 : Snd X.K cl (RD X.K) (match pairsD ds with
    | some kvs => (g env st1).bind fun y s => match keyD y with
      | some j => match lastK j kvs with
        | some d => .ok d s
        | none => .bad
      | none => .bad
    | none => .bad) H1 m1 Q _ := h1
    cases e1 : pairsD ds with
    | none => rw [e1] at h1; exact h1.elim
    | some kvs =>
      rw [e1] at h1
      obtain ⟨ps, us, ex, hp, kr⟩ := pairs_paired rs e1
      subst ex
      refine ⟨_, ps, us, rfl, ⟨o, hf, hn⟩, hp, fun p hp0 => ?_⟩
      have g2 : Gw H1 m1 (upd H1 p (.dK (mergeK [] us))) m1 := Gw.alloc hp0
      have s2 : RS X.K cl (upd H1 p (.dK (mergeK [] us))) m1 st1 := s1.alloc hp0
      refine ⟨m1, env, st1, (hE.gw g1).gw g2, s2, snd_bind (Snd.from g2 h1) fun y st3 u H3 m3 g3 s3 r3 h3 => ?_⟩
      have hp3 : H3 p = some (.dK (mergeK [] us)) := g3.oth p _ upd_same (s1.fresh hp0)
      cases e2 : keyD y with
      | none => simp only [e2] at h3; exact h3.elim
      | some j =>
        simp only [e2] at h3
        cases e3 : lastK j kvs with
        | none => simp only [e3] at h3; exact h3.elim
        | some d =>
          simp only [e3] at h3
          have ek := keyD_kV r3 e2
          subst ek
          obtain ⟨v, h4, h5⟩ := (valV_merge (acc := []) kr).1 d e3
          exact ⟨p, v, rfl, by rw [← h4]; exact DGet.k hp3, snd_ok h3 Gw.refl s3 (h5.gw (g2.trans g3))⟩
  | _ => exact h1.elim
/-! ### tuples that dict() may read: (..), tuple(list) -/
def bPtp (g : FA) : FE := fun env st => (g env st).bind fun xs s => if xs.length ≤ sizeLine then .ok (.ptp xs) s else .bad
def tPtp (t : TA) : TE := fun σ H Q => t σ H fun xs H1 => xs.length ≤ sizeLine ∧ ∀ (p : Addr) (o : Obj), o.dict = none → H1 p = none → Q (.ref p) (upd H1 p (.frz o (.tup xs)))
theorem pe_ptp {es : List Expr} {t : TA} {x1 : Nat} (h : PA X es t) : PE X (.Tuple es x1 pos) (tPtp t) := by
  refine ⟨fun pins s σ H Q I hq => ?_⟩
  refine wpAny_Tuple_spliced (thn (h.run pos pins s σ H _ I hq) fun us s1 ⟨xs, H1, I1, r, z, q⟩ => ⟨by rw [← r.length]; exact z, ?_⟩)
  have hf : H1 s1.heap.objs.size = none := I1.hok.fresh (Nat.le_refl _)
  exact ⟨.ref s1.heap.objs.size, _, I1.laid (t' := s1.toks) (fun b u e => Heap.get?_push_of_some _ e) (Nat.le_refl _) (show ObjOk X.prog X.w _ _ _ (.frz { cls := .type "tuple", data := .seq us.toArray } (.tup xs)) from ⟨Heap.get?_push_size _ rfl, z, us, r, ⟨_, Heap.get?_push_size _ rfl, rfl, _, rfl⟩⟩), rfl, q _ _ rfl hf⟩
theorem k_ptp {es : List Expr} {fa : FA} {x1 : Nat} (ha : SA X cl W es fa) : SE X cl W (.Tuple es x1 pos) (bPtp fa) := by
  refine PE.imp (pe_ptp ha) fun σ H Q ⟨m, env, st, hE, hS, h⟩ => ?_
  refine ⟨m, env, st, hE, hS, snd_bind h fun ds st1 vs H1 m1 g1 s1 r1 h1 => ?_⟩
  by_cases hz : ds.length ≤ sizeLine
  · rw [if_pos hz] at h1
    exact ⟨by rw [r1.len]; exact hz, fun p o hn hp => snd_ok h1 (Gw.alloc hp) (s1.alloc hp) (.ptp upd_same hn (r1.gw (Gw.alloc hp)))⟩
  · rw [if_neg hz] at h1
    exact h1.elim
theorem call_ptuple : CallR X (.type "tuple") (fun xs H Q => ∃ p ys, xs = [.ref p] ∧ SqL X.K H p ys ∧ ∀ l (o : Obj), o.dict = none → H l = none → Q (.ref l) (upd H l (.frz o (.tup ys)))) := by
  intro pins s σ H xs us Q I r h
  obtain ⟨p, ys, rfl, hq, q⟩ := h
  obtain ⟨u, rfl, rx⟩ := vals1 r
  cases rx
  obtain ⟨its, r', pl, hz⟩ := I.list hq
  have hlen := r'.length
  refine call_tuple_list pl.isList (fun h' kp => ?_) (by simp only [List.size_toArray] <;> omega)
  have I1 : Inv X pins σ H { s with heap := h' } := I.kept (t' := s.toks) kp
  have I2 : Inv X pins σ (upd H h'.objs.size (.frz { cls := .type "tuple", data := .seq its.toArray } (.tup ys))) { s with heap := h'.push { cls := .type "tuple", data := .seq its.toArray } } :=
    I1.laid (t' := s.toks) (fun b o e => Heap.get?_push_of_some _ e) (Nat.le_refl _) (show ObjOk X.prog X.w _ _ _ (.frz _ (.tup ys)) from ⟨Heap.get?_push_size _ rfl, hz, its, r', IsTup.new _ _⟩)
  exact ⟨.ref h'.objs.size, _, I2, rfl, q _ _ rfl (I1.hok.fresh (Nat.le_refl _))⟩
def cPTuple : List D → Sto → R D
  | [x], st => match lstOf st x with
    | some ds => .ok (.ptp ds) st
    | none => .bad
  | _, _ => .bad
theorem c_ptuple : CallS X cl (.type "tuple") cPTuple := by
  refine ⟨_, call_ptuple, fun xs ds H m st Q Wx r hS h => ?_⟩
  unfold cPTuple at h
  split at h
  · obtain ⟨v, rfl, hv⟩ := rds1 r
    split at h
    · rename_i ds e
      obtain ⟨a, xs, rfl, hs, rs⟩ := lst_of hS hv e
      exact ⟨a, xs, rfl, hs, fun l o hn hl => snd_ok h (Gw.alloc hl) (hS.alloc hl) (.ptp upd_same hn (rs.gw (Gw.alloc hl)))⟩
    · exact h.elim
  · exact h.elim
end
end Kc

namespace Kc
open PySem PySem.Spec PyProof.Rows L2
/-! ### sorted(a list of pairs of ints) -/
def leP (p q : Int × Int) : Bool := !SrtO.lexB q p
theorem leP_trans (a b c : Int × Int) (h1 : leP a b = true) (h2 : leP b c = true) : leP a c = true := by
  unfold leP at *
  simp only [Bool.not_eq_true'] at *
  rw [SrtO.lexB_no] at *
  omega
theorem leP_total (a b : Int × Int) : (leP a b || leP b a) = true := by
  unfold leP
  cases h : SrtO.lexB b a with
  | false => rfl
  | true =>
    have : SrtO.lexB a b = false := by
      rw [SrtO.lexB_no]
      have := SrtO.lexB_iff.mp h
      omega
    rw [this]
    rfl
theorem swoP : SrtO.Swo SrtO.lexB := by
  refine ⟨fun x y h => ?_, fun x y z h1 h2 => ?_⟩
  · have a := SrtO.lexB_iff.mp h
    refine SrtO.lexB_no.mpr ?_
    omega
  · have a := SrtO.lexB_no.mp h1
    have b := SrtO.lexB_no.mp h2
    refine SrtO.lexB_no.mpr ?_
    omega
theorem eqvP {x y : Int × Int} : SrtO.eqv SrtO.lexB x y = true ↔ y = x := by
  rw [SrtO.eqv_iff, SrtO.lexB_no, SrtO.lexB_no]
  obtain ⟨a, b⟩ := x
  obtain ⟨c, d⟩ := y
  simp only [Prod.mk.injEq]
  omega
theorem filt_rep {x : Int × Int} {l : List (Int × Int)} : l.filter (SrtO.eqv SrtO.lexB x) = List.replicate (l.filter (SrtO.eqv SrtO.lexB x)).length x := by
  rw [List.eq_replicate_iff]
  exact ⟨rfl, fun y hy => eqvP.mp (List.mem_filter.mp hy).2⟩
theorem sort_uniq {l m : List (Int × Int)} (h : l.Perm m) (s : SrtO.Srtd SrtO.lexB l) : l = m.mergeSort leP := by
  have p : l.Perm (m.mergeSort leP) := h.trans (List.mergeSort_perm m leP).symm
  refine SrtO.stb_uniq swoP s ?_ ⟨p, fun x => ?_⟩
  · have := List.pairwise_mergeSort leP_trans leP_total m
    refine List.Pairwise.imp ?_ this
    intro a b hab
    unfold leP at hab
    simpa using hab
  · rw [filt_rep (l := l), filt_rep (l := m.mergeSort leP), (p.filter _).length_eq]
def prI : D → Option (Int × Int)
  | .tup [.int i, .int j] => some (i, j)
  | .ptp [.int i, .int j] => some (i, j)
  | _ => none
def prIs : List D → Option (List (Int × Int))
  | [] => some []
  | d :: ds => match prI d, prIs ds with
    | some p, some ps => some (p :: ps)
    | _, _ => none
def prD (p : Int × Int) : D := .tup [.int p.1, .int p.2]
def cSorted : List D → Sto → R D
  | [x], st => match lstOf st x with
    | some ds => match prIs ds with
      | some ps => newL ((ps.mergeSort leP).map prD) st
      | none => .bad
    | none => .bad
  | _, _ => .bad
inductive PrV (K : PySem.W.Frag) (H : Hp) : List V → List (Int × Int) → Prop
  | nil : PrV K H [] []
  | cons {t : Addr} {p : Int × Int} {xs : List V} {ps : List (Int × Int)} : SqT K H t [.int p.1, .int p.2] → PrV K H xs ps → PrV K H (.ref t :: xs) (p :: ps)
theorem pair_uniq {h : Heap} {v : Value} {a b c d : Int} (x : Srt.IsPair h v a b) (y : Srt.IsPair h v c d) : (a, b) = (c, d) := by
  obtain ⟨p, o, t, u, n, rfl, ho, hc, hd⟩ := x
  obtain ⟨p', o', t', u', n', e, ho', hc', hd'⟩ := y
  cases e
  rw [ho] at ho'
  cases ho'
  rw [hd] at hd'
  cases hd'
  rfl
section
variable {X : Cx} {cl : Nat → Addr} {W : WX}
theorem prv_vals {pins : List (Addr × Obj)} {σ : L2.St} {H : Hp} {s : Shared} (I : Inv X pins σ H s) : ∀ {xs : List V} {ps : List (Int × Int)} {us : List Value}, PrV X.K H xs ps → Vals xs us →
    ∀ u ∈ us, ∃ (t : Addr) (p : Int × Int), u = Value.ref t ∧ SqT X.K H t [.int p.1, .int p.2] ∧ Srt.IsPair s.heap u p.1 p.2
  | _, _, _, .nil, .nil => fun u hu => by simp at hu
  | _, _, _, .cons (t := t) (p := p) h r, .cons e es => fun u hu => by
    rcases List.mem_cons.mp hu with hu | hu
    · subst hu
      cases e
      obtain ⟨its, rv, ⟨o, ho, hc, n, hd⟩, _⟩ := I.tuple h
      obtain ⟨u1, u2, rfl, ri, rj⟩ := vals_two rv
      obtain ⟨t1, rfl⟩ := ri
      obtain ⟨t2, rfl⟩ := rj
      exact ⟨t, p, rfl, h, t, o, t1, t2, n, rfl, ho, hc, hd⟩
    · exact prv_vals I r es u hu
theorem prv_map {pins : List (Addr × Obj)} {σ : L2.St} {H : Hp} {s : Shared} (I : Inv X pins σ H s) {k : Value → Int × Int} (hk : ∀ u p, Srt.IsPair s.heap u p.1 p.2 → k u = p) : ∀ {xs : List V} {ps : List (Int × Int)} {us : List Value}, PrV X.K H xs ps → Vals xs us → us.map k = ps
  | _, _, _, .nil, .nil => rfl
  | _, _, _, .cons (t := t) (p := p) h r, .cons e es => by
    cases e
    obtain ⟨its, rv, ⟨o, ho, hc, n, hd⟩, _⟩ := I.tuple h
    obtain ⟨u1, u2, rfl, ri, rj⟩ := vals_two rv
    obtain ⟨t1, rfl⟩ := ri
    obtain ⟨t2, rfl⟩ := rj
    rw [List.map_cons, hk _ p ⟨t, o, t1, t2, n, rfl, ho, hc, hd⟩, prv_map I hk r es]
theorem prv_back {H : Hp} {K : PySem.W.Frag} {k : Value → Int × Int} : ∀ {us : List Value}, (∀ u ∈ us, ∃ t, u = Value.ref t ∧ SqT K H t [.int (k u).1, .int (k u).2]) → PrV K H (us.map backV) (us.map k)
  | [], _ => .nil
  | u :: us, h => by
    obtain ⟨t, e, hs⟩ := h u List.mem_cons_self
    subst e
    exact .cons hs (prv_back fun y hy => h y (List.mem_cons_of_mem _ hy))
theorem prv_refs {H : Hp} {K : PySem.W.Frag} : ∀ {xs : List V} {ps : List (Int × Int)}, PrV K H xs ps → ∀ x ∈ xs, ∃ a, x = V.ref a
  | _, _, .nil => fun x hx => by simp at hx
  | _, _, .cons h r => fun x hx => by
    rcases List.mem_cons.mp hx with hx | hx
    · exact ⟨_, hx⟩
    · exact prv_refs r x hx
theorem call_sortedT : CallR X (.builtin "sorted") (fun vs H Q => ∃ a xs ps, vs = [V.ref a] ∧ SqL X.K H a xs ∧ PrV X.K H xs ps ∧ ∀ ys p, PrV X.K H ys (ps.mergeSort leP) → H p = none → Q (.ref p) (upd H p (.lst ys))) := by
  intro pins s σ H vs us Q I r h
  obtain ⟨a, xs, ps, rfl, hs, hx, q⟩ := h
  obtain ⟨its, rv, hl, hz⟩ := I.list hs
  obtain ⟨u, rfl, ru⟩ := vals1 r
  obtain rfl : u = Value.ref a := ru
  have hk : ∃ k : Value → Int × Int, ∀ u p, Srt.IsPair s.heap u p.1 p.2 → k u = p := by
    classical
    refine ⟨fun u => if h : ∃ p : Int × Int, Srt.IsPair s.heap u p.1 p.2 then Classical.choose h else (0, 0), fun u p hp => ?_⟩
    have h : ∃ p : Int × Int, Srt.IsPair s.heap u p.1 p.2 := ⟨p, hp⟩
    show (if h : ∃ p : Int × Int, Srt.IsPair s.heap u p.1 p.2 then Classical.choose h else (0, 0)) = p
    rw [dif_pos h]
    exact pair_uniq (Classical.choose_spec h) hp
  obtain ⟨k, hk⟩ := hk
  have hv := prv_vals I hx rv
  refine SrtO.sorted_pairsO (k := k) hl.isList (by rw [← rv.length]; exact hz) (fun v hm => ?_) fun h' d out h1 h2 kp hd hn => ?_
  · obtain ⟨t, p, _, _, hp⟩ := hv v hm
    rw [hk v p hp]
    exact hp
  · obtain ⟨n, hn⟩ := hn
    have hout : ∀ u ∈ out, ∃ t, u = Value.ref t ∧ SqT X.K H t [.int (k u).1, .int (k u).2] := fun u hu => by
      obtain ⟨t, p, e, hs, hp⟩ := hv u (h2.perm.mem_iff.mp hu)
      rw [hk u p hp]
      exact ⟨t, e, hs⟩
    have hp : PrV X.K H (out.map backV) (out.map k) := prv_back hout
    have e : out.map k = ps.mergeSort leP := by
      refine sort_uniq ?_ (SrtO.srtd_map h1)
      rw [← prv_map I hk hx rv]
      exact h2.perm.map k
    rw [e] at hp
    refine ⟨.ref d, upd H d (.lst (out.map backV)), I.laid (t' := s.toks) kp hd ⟨?_, out, n, vals_back fun u hu => ?_, hn⟩, rfl, q _ d hp (I.hok.fresh hd)⟩
    · rw [List.length_map, h2.perm.length_eq, ← rv.length]
      exact hz
    · obtain ⟨t, e, _⟩ := hout u hu
      exact ⟨t, e⟩
theorem prI_rd {K : PySem.W.Frag} {H : Hp} {m : List Addr} {d : D} {v : V} {p : Int × Int} (r : RD K H m d v) (h : prI d = some p) : ∃ t, v = .ref t ∧ SqT K H t [.int p.1, .int p.2] := by
  unfold prI at h
  split at h
  · cases h
    cases r with
    | tup hs rs =>
      obtain ⟨u1, u2, rfl, h1, h2⟩ := rds2 rs
      cases h1
      cases h2
      exact ⟨_, rfl, hs⟩
  · cases h
    cases r with
    | ptp hs _ rs =>
      obtain ⟨u1, u2, rfl, h1, h2⟩ := rds2 rs
      cases h1
      cases h2
      exact ⟨_, rfl, .inl (.inr ⟨_, hs⟩)⟩
  · cases h
theorem prIs_rd {K : PySem.W.Frag} {H : Hp} {m : List Addr} : ∀ {ds : List D} {vs : List V} {ps : List (Int × Int)}, RDs K H m ds vs → prIs ds = some ps → PrV K H vs ps
  | _, _, _, .nil, h => by cases h; exact .nil
  | d :: ds, _, ps, .cons hd rs, h => by
    have h : (match prI d, prIs ds with
      | some p, some ps => some (p :: ps)
      | _, _ => none) = some ps := by rw [← h]; rfl
    cases e1 : prI d with
    | none => rw [e1] at h; cases h
    | some p =>
      cases e2 : prIs ds with
      | none => rw [e1, e2] at h; cases h
      | some qs =>
        rw [e1, e2] at h
        cases h
        obtain ⟨t, rfl, hs⟩ := prI_rd hd e1
        exact .cons hs (prIs_rd rs e2)
theorem prv_rd {K : PySem.W.Frag} {H : Hp} {m : List Addr} : ∀ {ps : List (Int × Int)} {vs : List V}, PrV K H vs ps → RDs K H m (ps.map prD) vs
  | _, _, .nil => .nil
  | _, _, .cons h r => .cons (.tup h (.cons .int (.cons .int .nil))) (prv_rd r)
theorem c_sorted : CallS X cl (.builtin "sorted") cSorted := by
  refine ⟨_, call_sortedT, fun xs ds H m st Q Wx r hS h => ?_⟩
  unfold cSorted at h
  split at h
  · obtain ⟨v, rfl, hv⟩ := rds1 r
    split at h
    · rename_i ds e
      split at h
      · rename_i ps e2
        obtain ⟨a, us, rfl, hs, rs⟩ := lst_of hS hv e
        exact ⟨a, us, ps, rfl, hs, prIs_rd rs e2, fun ys p hp hn => new_ok hS (prv_rd hp) h hn⟩
      · exact h.elim
    · exact h.elim
  · exact h.elim
end
end Kc

namespace Kc
open PySem PySem.Spec PyProof.Rows L2
open Sem (wp)
/-! ### tuple(reversed(a tuple)) -/
theorem nolen_rt : typeLookup (.type "reversed") "__len__" = pure none := by rw [typeLookup_type, builtinLookup_eq_fast]; kernel_rfl
theorem hint_rt : typeLookup (.type "reversed") "__length_hint__" = pure (some (.builtin "reversed.__length_hint__")) := by rw [typeLookup_type, builtinLookup_eq_fast]; kernel_rfl
theorem slot_rt_hint : Slot "reversed" "__length_hint__" "reversed.__length_hint__" :=
  .of (owner := "reversed") (n := "__length_hint__") hint_rt (by decide +kernel) (by decide +kernel) (by decide +kernel)
    (by first | exact .inl (by decide +kernel) | exact .inr (by decide +kernel)) (by rw [isSubtype_type]; kernel_rfl)
theorem entry_rt_hint : entryFor table "reversed.__length_hint__" = some Builtin.«reversed.__length_hint__» := entryFor_of_tree (by kernel_rfl)
theorem args_rt_hint (a : Value) : argsOk "reversed.__length_hint__" ⟨[a], []⟩ := by
  unfold argsOk; rw [signature?_of (id := "reversed.__length_hint__") (n := "__length_hint__".toList.reverse) (o := "reversed".toList.reverse) (by kernel_rfl) RT.owner_rt]; kernel_rfl
theorem fits_ix {n : Nat} (h : n ≤ sizeLine) : (!Builtin.List.listFitsIndex (n : Int)) = false := by
  have h63 : ((n : Nat) : Int) < 2 ^ 63 := by
    have := line63
    omega
  have h0 : (-(2 ^ 63) : Int) ≤ (n : Nat) := by omega
  show (!(decide ((-(2 ^ 63) : Int) ≤ (n : Nat)) && decide (((n : Nat) : Int) < 2 ^ 63))) = false
  rw [decide_eq_true h0, decide_eq_true h63] <;> rfl
theorem not_long {n : Nat} (h : n ≤ sizeLine) : Builtin.List.listTooLong (n : Int).toNat = false := by
  show decide ((n : Int).toNat > sizeLine) = false
  rw [Int.toNat_natCast]
  exact decide_eq_false (Nat.not_lt.mpr h)
section
variable {prog : Program} {w : World} {A : Around} {E : Value → Shared → Prop} {s : Shared}
theorem walks_rt (hh : A.handled = none) (I l : Addr) (hne : l ≠ I) (items : Array Value) (hsz : items.size ≤ sizeLine) :
    Walks prog w A I [I, l] [I] items.size (fun i v => items[items.size - 1 - i]? = some v) (fun i h => i ≤ items.size ∧ RT.IsRt h I l ((items.size : Int) - 1 - (i : Int)) ∧ IsTup h l items) where
  sub := fun b hb => by simp at hb; simp [hb]
  frame := fun _ _ _ x hk => ⟨x.1, x.2.1.at fun o e => hk I (by simp) o e, let ⟨o, ho, r⟩ := x.2.2; ⟨o, hk l (by simp) o ho, r⟩⟩
  item := fun i s Q E hi x hQ => by
    have e : (items.size : Int) - 1 - (i : Int) = ((items.size - 1 - i : Nat) : Int) := by omega
    have hit := x.2.1
    rw [e] at hit
    have hx : items[items.size - 1 - i]? = some (items[items.size - 1 - i]'(by omega)) := Array.getElem?_eq_getElem (by omega)
    refine RT.next_rt_item hit x.2.2 hx hsz fun h' hit' hs' => ?_
    have e2 : ((items.size - 1 - i : Nat) : Int) - 1 = (items.size : Int) - 1 - ((i + 1 : Nat) : Int) := by omega
    rw [e2] at hit'
    exact hQ _ h' (s.toks + 1) hx ⟨hi, hit', let ⟨o, ho, r⟩ := x.2.2; ⟨o, (hs'.2 l hne).trans ho, r⟩⟩ fun b o hb eo => hs'.extBut b o (fun h => hb (by simp [h])) eo
  done := fun s Q E x hQ => by
    have e : (items.size : Int) - 1 - (items.size : Int) = -1 := by omega
    have hit := x.2.1
    rw [e] at hit
    exact RT.next_rt_end hh hit fun h' he' => hQ h' s.toks fun b o hb eo => he' b o (fun h => hb (by simp [h])) eo
  self := fun _ _ _ _ x hQ => RT.iter_rt x.2.1 hQ

/-- what a walk over reversed(t) gives, gathered -/
theorem gather_rt {I l : Addr} {items : Array Value} {Q : List Value → Shared → Prop} (hh : A.handled = none) (hit : RT.IsRt s.heap I l ((items.size : Int) - 1)) (ht : IsTup s.heap l items) (hn : items.size ≤ sizeLine)
    (hQ : ∀ (h' : Heap) (tk : Nat) (acc : Array Value), (∀ b o, b ≠ I → s.heap.get? b = some o → h'.get? b = some o) → ItemsOf (fun i v => items[items.size - 1 - i]? = some v) acc items.size → Q acc.toList { s with heap := h', toks := tk }) :
    wpAny (model prog w) A (collect (.ref I)) Q E s := by
  obtain ⟨oi, hoi, hci, hdi⟩ := id hit
  obtain ⟨ol, hol, hcl, _⟩ := id ht
  have hne : l ≠ I := fun e => by
    rw [e, hoi] at hol
    cases hol
    rw [hci] at hcl
    exact absurd hcl (by decide)
  have hi : I < s.heap.objs.size := Heap.lt_size hoi
  have hl : l < s.heap.objs.size := Heap.lt_size hol
  have W := (walks_rt (prog := prog) (w := w) (A := A.in1) hh I l hne items hn).toS
  have hf : s.heap.objs.size ∉ [I, l] := by
    simp only [List.mem_cons, List.not_mem_nil, or_false, not_or]
    exact ⟨Nat.ne_of_gt hi, Nat.ne_of_gt hl⟩
  unfold collect
  refine wpAny_bind (wpAny_runValue (codeAny_builtin F.entry_proto_collect ?_))
  rw [Around.under_plainId F.plain_proto_collect _]
  show wpAny _ A.in1 (newList [] >>= fun x => again (.builtin "list.__iadd__" ⟨[x, .ref I], []⟩)) _ _ s
  refine wpAny_bind (wpAny_newObj_type ?_)
  refine wpAny_pure ⟨plainId_quiet F.plain_list_iadd _, codeAny_builtin F.entry_list_iadd ?_⟩
  rw [Around.under_plainId F.plain_list_iadd _]
  generalize hh2 : s.heap.push { cls := .type "list", data := .seq ([] : List Value).toArray } = h2
  have hS : h2.get? s.heap.objs.size = some { cls := .type "list", data := .seq ([] : List Value).toArray } := by rw [← hh2]; exact Heap.get?_push_size _ rfl
  have kp : ∀ b o, s.heap.get? b = some o → h2.get? b = some o := fun b o e => by rw [← hh2]; exact Heap.get?_push_of_some _ e
  have hit2 : RT.IsRt h2 I l ((items.size : Int) - 1) := hit.at fun o e => kp _ _ e
  have ht2 : IsTup h2 l items := ht.keeps kp
  have hT : ({ s with heap := h2 } : Shared).TypeIs (.ref I) "reversed" := RT.IsRt.typeIs (s := { s with heap := h2 }) hit2
  have hsame : Builtin.List.listSameRef (.ref s.heap.objs.size) (.ref I) = false := by simp [Builtin.List.listSameRef, Nat.ne_of_gt hi]
  show wpAny _ A.in1 (Builtin.List.listExtendWith (.ref s.heap.objs.size) (.ref I) (.ref s.heap.objs.size)) _ _ _
  unfold Builtin.List.listExtendWith
  refine wpAny_bind (wpAny_typeOf hT ?_)
  rw [if_neg (by rw [hsame]; decide)]
  refine wpAny_bind (RT.iter_rt (s := { s with heap := h2 }) hit2 ?_)
  refine wpAny_bind (wpAny_holding ?_)
  unfold Builtin.List.listLengthHint
  refine wpAny_bind (wpAny_specialOf hT nolen_rt ?_)
  show wpAny _ A.in1 (specialOf (Value.ref I) (Str.ofString "__length_hint__") >>= _) _ _ _
  refine wpAny_bind (wpAny_specialOf hT hint_rt ?_)
  generalize hid : ("reversed.__length_hint__" : String) = id0
  wp_delta
  rw [show splitId id0 = some ("reversed", "__length_hint__") from by subst hid; decide +kernel]
  subst hid
  refine wpAny_bind (wpAny_isInstance (b := true) hT (by rw [isSubtype_type]; kernel_rfl) ?_)
  rw [if_neg (by decide)]
  dsimp only
  rw [if_neg (by decide +kernel)]
  refine wpAny_bind (wpAny_rule ?_)
  rw [slot_rt_hint.bind]
  refine wpAny_bind (wpAny_pure ?_)
  refine wpAny_bind (wpAny_attempt (wpAny_call_entry slot_rt_hint hT entry_rt_hint ?_ (args_rt_hint _)))
  unfold Builtin.«reversed.__length_hint__»
  refine wpAny_bind (wpAny_of_eq (a := Value.ref I) rfl ?_)
  obtain ⟨oi2, hoi2, hci2, hdi2⟩ := id hit2
  refine wpAny_bind (wpAny_field hoi2 hdi2 (x := .ref l) rfl ?_)
  try dsimp only
  rw [if_neg (by simp)]
  refine wpAny_bind (PyProof.Rows.len_tuple (s := { s with heap := h2 }) ht2 (by rw [sizeLine_eq] at hn; omega) ?_)
  refine wpAny_bind (wpAny_of_eq (a := some ((items.size : Nat) : Int)) rfl ?_)
  try dsimp only
  refine wpAny_bind (wpAny_field hoi2 hdi2 (x := rawInt ((items.size : Int) - 1)) rfl ?_)
  try dsimp only
  show wpAny _ _ (if ((items.size : Nat) : Int) < (items.size : Int) - 1 + 1 then _ else retInt ((items.size : Int) - 1 + 1)) _ _ _
  rw [if_neg (by omega)]
  have en : (items.size : Int) - 1 + 1 = (items.size : Nat) := by omega
  rw [en]
  unfold retInt
  refine wpAny_bind (wpAny_mkInt ?_)
  refine wpAny_pure ⟨_, rfl, ?_⟩
  dsimp only
  refine wpAny_bind ?_
  show wpAny _ _ (pure (some ((items.size : Nat) : Int))) _ _ _
  refine wpAny_pure ?_
  dsimp only
  rw [fits_ix hn]
  rw [if_neg Bool.false_ne_true]
  rw [if_neg (show ¬ ((items.size : Nat) : Int) < 0 by omega)]
  rw [not_long hn]
  rw [if_neg Bool.false_ne_true]
  refine wpAny_pure ?_
  have e0 : ((items.size : Nat) : Int) - 1 - ((0 : Nat) : Int) = (items.size : Int) - 1 := by omega
  by_cases hz : items.size = 0
  · rw [if_neg (by rw [hz]; decide +kernel)]
    refine wpAny_pure ⟨plainId_quiet F.plain_extend_loop _, codeAny_extend_loopS W hn _ hf _ items.size 0 _ _ _ rfl (Nat.zero_le _) ⟨Nat.zero_le _, by rw [e0]; exact hit2.at fun o e => e, by obtain ⟨o, ho, r⟩ := id ht2; exact ⟨o, ho, r⟩⟩ hS (ItemsOf.nil _) fun s' acc' c' hm hS' hacc => ?_⟩
    show wpAny _ A (load s.heap.objs.size >>= _) _ _ s'
    refine wpAny_bind (wpAny_load hS' ?_)
    refine wpAny_pure ?_
    rw [Moved.eq_with hm]
    refine hQ s'.heap s'.toks acc' (fun b o hb e => hm.heap b o (fun hmem => ?_) (kp b o e)) hacc
    rcases List.mem_cons.mp hmem with e' | hmem
    · exact absurd (Heap.lt_size e) (by rw [e']; exact Nat.lt_irrefl _)
    · exact hb (List.mem_singleton.mp hmem)
  · have hb : (((items.size : Nat) : Int) != 0) = true := by simpa using hz
    rw [if_pos (by rw [hb]; rfl)]
    refine wpAny_bind (wpAny_rule ?_)
    refine wpAny_bind ?_
    show wpAny _ A.in1 (updateSeq s.heap.objs.size (·.push .none) >>= fun _ => updateSeq s.heap.objs.size (·.pop)) _ _ _
    refine wpAny_bind (wpAny_updateSeq hS rfl ?_)
    have hS₂ := Heap.get?_update_self (Obj.mapSeq (·.push Value.none)) hS rfl
    refine wpAny_updateSeq hS₂ rfl ?_
    have hS₃ := Heap.get?_update_self (Obj.mapSeq (·.pop)) hS₂ rfl
    have oth : ∀ b o, b ≠ s.heap.objs.size → h2.get? b = some o → ((h2.update s.heap.objs.size (Obj.mapSeq (·.push Value.none))).update s.heap.objs.size (Obj.mapSeq (·.pop))).get? b = some o :=
      fun b o hb e => (Heap.get?_update_other _ _ (Ne.symm hb)).trans ((Heap.get?_update_other _ _ (Ne.symm hb)).trans e)
    refine wpAny_pure ⟨plainId_quiet F.plain_extend_loop _, codeAny_extend_loopS W hn _ hf _ items.size 0 _ _ _ rfl (Nat.zero_le _) ⟨Nat.zero_le _, by rw [e0]; exact hit2.at fun o e => oth I o (Nat.ne_of_lt hi) e, by obtain ⟨o, ho, r⟩ := id ht2; exact ⟨o, oth l o (Nat.ne_of_lt hl) ho, r⟩⟩ hS₃ (ItemsOf.nil _) fun s' acc' c' hm hS' hacc => ?_⟩
    show wpAny _ A (load s.heap.objs.size >>= _) _ _ s'
    refine wpAny_bind (wpAny_load hS' ?_)
    refine wpAny_pure ?_
    rw [Moved.eq_with hm]
    refine hQ s'.heap s'.toks acc' (fun b o hb e => hm.heap b o (fun hmem => ?_) (oth b o (Nat.ne_of_lt (Heap.lt_size e)) (kp b o e))) hacc
    rcases List.mem_cons.mp hmem with e' | hmem
    · exact absurd (Heap.lt_size e) (by rw [e']; exact Nat.lt_irrefl _)
    · exact hb (List.mem_singleton.mp hmem)

theorem new_rt {I l : Addr} {items : Array Value} {Q₁ : Value → Shared → Prop} (hh : A.handled = none) (hit : RT.IsRt s.heap I l ((items.size : Int) - 1)) (ht : IsTup s.heap l items) (hn : items.size ≤ sizeLine)
    (h : ∀ (h' : Heap) (tk : Nat) (acc : Array Value), (∀ b o, b ≠ I → s.heap.get? b = some o → h'.get? b = some o) → ItemsOf (fun i v => items[items.size - 1 - i]? = some v) acc items.size →
      Q₁ (.ref h'.objs.size) { s with heap := h'.push { cls := .type "tuple", data := .seq acc }, toks := tk }) :
    codeAny (model prog w) A (.call (.builtin "tuple.__new__") ⟨[.type "tuple", .ref I], []⟩) (wants Q₁ E) s := by
  refine codeAny_of_tree ?_
  show wpAny _ A.in1 (do checkBuiltinCall "tuple.__new__" ⟨[.type "tuple", .ref I], []⟩; again (.builtin "tuple.__new__" ⟨[.type "tuple", .ref I], []⟩)) _ _ s
  refine wpAny_bind (wpAny_of_eq (F.newCall_tuple_1 _) (wpAny_pure ⟨plainId_quiet F.plain_tuple_new _, codeAny_builtin F.entry_tuple_new ?_⟩))
  rw [Around.under_plainId F.plain_tuple_new _]
  have hsub := sub_tuple_self
  have hinit := init_tuple_lookup
  have hmh := madeHere_tuple
  have hTI : s.TypeIs (.ref I) "reversed" := RT.IsRt.typeIs hit
  have hh1 : A.in1.handled = none := hh
  wp_walk using wpAny_typeOf hTI, gather_rt (A := A.in1) hh1 hit ht hn
  intro h' tk acc hk hacc
  show wpAny _ _ (Builtin.Tuple.tupleExact acc.toList.toArray >>= fun v => ret v) _ _ _
  unfold Builtin.Tuple.tupleExact
  refine wpAny_bind (wpAny_newObj_type ?_ (by show acc.toList.toArray.size ≤ sizeLine; simp only [Array.toArray_toList]; rw [hacc.1]; exact hn))
  refine wpAny_pure ?_
  have e : acc.toList.toArray = acc := by simp
  rw [e]
  exact h h' tk acc hk hacc
theorem tuple_rt {I l : Addr} {items : Array Value} {Q : Value → Shared → Prop} (hh : A.handled = none) (hit : RT.IsRt s.heap I l ((items.size : Int) - 1)) (ht : IsTup s.heap l items) (hn : items.size ≤ sizeLine)
    (hQ : ∀ (h' : Heap) (tk : Nat) (acc : Array Value), (∀ b o, b ≠ I → s.heap.get? b = some o → h'.get? b = some o) → ItemsOf (fun i v => items[items.size - 1 - i]? = some v) acc items.size →
      Q (.ref h'.objs.size) { s with heap := h'.push { cls := .type "tuple", data := .seq acc }, toks := tk }) :
    wpAny (model prog w) A (call (.type "tuple") [.ref I]) Q E s := by
  refine callType_codes (Q₁ := fun obj s₁ => s₁.TypeIs obj "tuple" ∧ Q obj s₁) F.called_tuple (F.typeCall_tuple_1 _) F.entry_object_init
    (new_rt (A := A.in1) hh hit ht hn fun h' tk acc hk hacc => ⟨⟨_, Heap.get?_push_size _ rfl, rfl⟩, hQ h' tk acc hk hacc⟩) fun obj s₁ h₁ => ?_
  exact ⟨h₁.1, F.args_object_init_2 obj _, object_init_meets F.called_tuple.init.lookup F.called_tuple.made (by decide) prog w A.in1 _ s₁ ⟨h₁.1, rfl, h₁.2⟩⟩
end
/-- tuple(reversed(x)), x a tuple -/
def tTupRevT (K : PySem.W.Frag) (te : TE) : TE := fun σ H Q => te σ H fun v H1 => ∃ (a : Addr) (xs : List V), v = .ref a ∧ SqT K H1 a xs ∧ ∀ q, H1 q = none → Q (.ref q) (upd H1 q (.tup xs.reverse))
section
variable {X : Cx} {cl : Nat → Addr} {W : WX} {e : Expr} {f : FE}
theorem pe_tupRevT {te : TE} {p p2 pos pos2 : Pos} (hc : X.calm = true) (hg : Gl X "tuple") (hm : X.mg "tuple" = none) (hg2 : Gl X "reversed") (hm2 : X.mg "reversed" = none) (he : PE X e te)
    (hs : starEach [e] X.env = (false, eval e X.env) :: starEach [] X.env)
    (hs2 : starEach [.Call (.Name "reversed" p2) [e] [] pos2] X.env = (false, eval (.Call (.Name "reversed" p2) [e] [] pos2) X.env) :: starEach [] X.env) :
    PE X (.Call (.Name "tuple" p) [.Call (.Name "reversed" p2) [e] [] pos2] [] pos) (tTupRevT X.K te) := by
  refine ⟨fun pins s σ H Q I h => ?_⟩
  refine Call_ (ld_blt I hg hm boot_tuple (PyProof.Rows.callWith_type1 (args_cons (Call_ (ld_blt I hg2 hm2 PyProof.Rows.boot_reversed (PyProof.Rows.callWith_type1 (args_cons (thn (he.run pins s σ H _ I h) fun u s1 ⟨v, H1, I1, r1, q1⟩ => args_nil ?_) hs) hs rfl))) hs2) hs2 rfl))
  obtain ⟨a, xs, ev, hq, q⟩ := q1
  subst ev
  obtain rfl : u = Value.ref a := r1
  obtain ⟨its, rv, p', hz⟩ := I1.tuple hq
  have hl := rv.length
  have hn := line63
  have hsz : its.toArray.size ≤ sizeLine := by rw [List.size_toArray, ← rv.length]; exact hz
  refine RT.call_reversed_tup p' (fun A E Q k => len_tuple p' (by simp only [List.size_toArray] <;> omega) k) (args_nil ?_)
  have k0 : ∀ b o, s1.heap.get? b = some o → (s1.heap.push (RT.rtObj a ((its.toArray.size : Int) - 1))).get? b = some o := fun b o e => Heap.get?_push_of_some _ e
  have I2 : Inv X pins σ H1 { s1 with heap := s1.heap.push (RT.rtObj a ((its.toArray.size : Int) - 1)), toks := s1.toks + 1 + 1 } := I1.kept (t' := s1.toks + 1 + 1) k0
  obtain ⟨f0, f1, f2, f3, f4, f5⟩ := I1.fpOk (H' := H1) (b := s1.heap.objs.size) (Nat.le_refl _) (I1.hok.fresh (Nat.le_refl _))
  refine tuple_rt (s := { s1 with heap := s1.heap.push (RT.rtObj a ((its.toArray.size : Int) - 1)), toks := s1.toks + 1 + 1 }) (I1.ok.hd hc) ⟨_, Heap.get?_push_size _ rfl, rfl, rfl⟩ (p'.keeps k0) hsz fun h' tk acc hk hi => ?_
  have I3 : Inv X pins σ H1 { s1 with heap := h', toks := tk } := I2.turned (t' := tk) (fun b o hb e => hk b o hb e) f0 f1 f3 f4 f5
  refine ⟨.ref h'.objs.size, upd H1 h'.objs.size (.tup xs.reverse), I3.laid (t' := tk) (fun c o e => Heap.get?_push_of_some _ e) (Nat.le_refl _) (show ObjOk X.prog X.w _ _ _ (.tup xs.reverse) from ⟨by rw [List.length_reverse]; exact hz, acc.toList, RT.vals_rev rv hi, ?_⟩), rfl, q _ (I3.hok.fresh (Nat.le_refl _))⟩
  rw [Array.toArray_toList]
  exact IsTup.new _ _
def bTupRev (f : FE) : FE := fun env st => (f env st).bind fun x s => match x with
  | .tup ds => .ok (.tup ds.reverse) s
  | _ => .bad
theorem k_tuprev {p p2 pos pos2 : Pos} (hc : X.calm = true) (hm : X.mg "tuple" = none) (hm2 : X.mg "reversed" = none) (ha : SE X cl W e f) (hg : Gl X "tuple" := by rfl) (hg2 : Gl X "reversed" := by rfl)
    (hs : starEach [e] X.env = (false, eval e X.env) :: starEach [] X.env := by rfl)
    (hs2 : starEach [.Call (.Name "reversed" p2) [e] [] pos2] X.env = (false, eval (.Call (.Name "reversed" p2) [e] [] pos2) X.env) :: starEach [] X.env := by rfl) :
    SE X cl W (.Call (.Name "tuple" p) [.Call (.Name "reversed" p2) [e] [] pos2] [] pos) (bTupRev f) := by
  refine PE.imp (pe_tupRevT hc hg hm hg2 hm2 ha hs hs2) fun σ H Q ⟨m, env, st, hE, hS, h⟩ => ?_
  refine ⟨m, env, st, hE, hS, snd_bind h fun d st1 v H1 m1 g1 s1 r1 h1 => ?_⟩
  cases r1 with
  | tup hs rs => exact ⟨_, _, rfl, hs, fun q hq => snd_ok h1 (Gw.alloc hq) (s1.alloc hq) (.tup (SqT.of upd_same) (rs.reverse.gw (Gw.alloc hq)))⟩
  | _ => exact h1.elim
end
end Kc

namespace Kc
open PySem PySem.Spec PyProof.Rows L2
def spL (F : FD) (K : PySem.W.Frag) : Sp := fun vs H Q E => ∀ cl : Nat → Addr, spOf K cl 1 F vs H Q E
theorem ints_rd {K : PySem.W.Frag} {H : Hp} {m : List Addr} : ∀ ns : List Int, RDs K H m (ns.map D.int) (ns.map V.int)
  | [] => .nil
  | _ :: ns => .cons .int (ints_rd ns)
theorem head_sp {K : PySem.W.Frag} {F : FD} {H : Hp} {a : Addr} {ns : List Int} (hO : Only H) (hS : SqL K H a (ns.map V.int)) (hF : ∃ st, F [.rol (ns.map D.int)] [] = .ok (.bl true) st) : spL F K [.ref a] H (fun v _ => v = .bl true) fun _ _ _ => False := by
  intro cl
  obtain ⟨st, e⟩ := hF
  have hq : SqF K H a (ns.map V.int) := by
    rcases hS with (h | h) | h
    · rcases hO a with z | ⟨o, xs, z⟩
      · rw [h] at z; cases z
      · rw [h] at z; cases z
    · exact .inl h
    · exact .inr h
  refine ⟨rfl, [], [.rol (ns.map D.int)], [], .cons (.rol hq (ints_rd ns)) .nil, ⟨rfl, List.nodup_nil, fun l o a h => by simp at h⟩, ?_⟩
  rw [e]
  intro v H' m' g s r
  cases r
  rfl
theorem no_exc {P : Program} {w : World} {H : Hp} {s : Shared} {e : Value} {s' : Shared} (c : L2.CX P w [] H s (fun _ _ _ => False) e s') : False := by
  obtain ⟨_, _, _, _, _, _, _, _, _, _, _, _, h⟩ := c
  exact h
end Kc

namespace Kc
open PySem PySem.Spec PyProof.Rows L2
open AutoSeq1 (wpAny_loadPart')
/-! ### enumerate(a tuple) -/
theorem new_enumT (t : Addr) (its : Array Value) (n : Nat) (dct : Option Addr) (sl : Array (Option Value)) :
    Meets (Builtin.«enumerate.__new__» ⟨[.type "enumerate", .ref t], []⟩) (fun _ R s => s.heap.get? t = some { cls := .type "tuple", dict := dct, data := .seq its n, slots := sl } ∧
      R (.ok (.ret (.ref (s.heap.push { cls := .type "tuple_iterator", data := .fields #[.ref t, .int 0 0] }).objs.size)))
        { s with heap := (s.heap.push { cls := .type "tuple_iterator", data := .fields #[.ref t, .int 0 0] }).push { cls := .type "enumerate", data := .fields #[.none, .bool false, .ref s.heap.objs.size, rawInt 0, .none, .none] } }) :=
  .of_wp fun prog w A R s h => by
    obtain ⟨hp, g, d, tk, os⟩ := s
    obtain ⟨ht, h⟩ := h
    have hsub := sub_enumerate
    have hT : Heap.IsTuple (Shared.heap ⟨hp, g, d, tk, os⟩) t its := ⟨_, ht, rfl, n, rfl⟩
    wp_walk using wpAny_loadPart' ht
    refine wpAny_stack_any fun st => wpAny_pure ?_
    split
    · rename_i c _ _ _ _ _
      cases (c == Value.type "enumerate")
      · wp_walk using wpAny_loadPart' ht, wpAny_pyIter_tuple hT
        exact ⟨_, rfl, h⟩
      · wp_walk using wpAny_loadPart' ht, wpAny_pyIter_tuple hT
        exact ⟨_, rfl, h⟩
    · wp_walk using wpAny_loadPart' ht, wpAny_pyIter_tuple hT
      exact ⟨_, rfl, h⟩
section
variable {prog : Program} {w : World} {A : Around} {E : Value → Shared → Prop} {s : Shared}
theorem call_enumT {t : Addr} {its : Array Value} {Q : Value → Shared → Prop} (hT : s.heap.IsTuple t its)
    (h : ∀ h', IsEnum h' (s.heap.objs.size + 1) s.heap.objs.size 0 .none → h'.IsTupleIter s.heap.objs.size t 0 → (∀ b o, s.heap.get? b = some o → h'.get? b = some o) → Q (.ref (s.heap.objs.size + 1)) { s with heap := h' }) :
    wpAny (model prog w) A (call (.type "enumerate") [.ref t]) Q E s := by
  obtain ⟨⟨c, dct, dt, sl⟩, hl, hc, n, hd⟩ := hT
  replace hc : c = .type "tuple" := hc
  replace hd : dt = .seq its n := hd
  subst hc hd
  refine callType_new F.called_enumerate (by decide) (F.typeCall_enumerate_1 _) (F.newCall_enumerate_1 _) (fun obj => F.args_object_init_2 obj _) F.entry_enumerate_new
    (new_enumT t its n dct sl) ⟨hl, ?_⟩
  generalize e1 : s.heap.push { cls := .type "tuple_iterator", data := .fields #[.ref t, .int 0 0] } = h1
  have hz : h1.objs.size = s.heap.objs.size + 1 := by rw [← e1]; exact Heap.size_push ..
  have k1 : ∀ b o, s.heap.get? b = some o → h1.get? b = some o := fun b o e => by rw [← e1]; exact Heap.get?_push_of_some _ e
  have i1 : h1.get? s.heap.objs.size = some { cls := .type "tuple_iterator", data := .fields #[.ref t, .int 0 0] } := by rw [← e1]; exact Heap.get?_push_size _ rfl
  show _ ∧ _
  rw [hz]
  have he : IsEnum (h1.push { cls := .type "enumerate", data := .fields #[.none, .bool false, .ref s.heap.objs.size, rawInt 0, .none, .none] }) (s.heap.objs.size + 1) s.heap.objs.size 0 .none := by
    have := Heap.get?_push_size h1 (o := { cls := .type "enumerate", data := .fields #[.none, .bool false, .ref s.heap.objs.size, rawInt 0, .none, .none] }) rfl
    rw [hz] at this
    exact this
  exact ⟨⟨_, he, rfl⟩, h _ he ⟨_, Heap.get?_push_of_some _ i1, rfl, rfl⟩ fun b o e => Heap.get?_push_of_some _ (k1 b o e)⟩
end

/-- the tuple at a at each turn, each item in a new pair -/
def IteT (K : PySem.W.Frag) (a : Addr) (n : Nat) : It :=
  ⟨fun i H => i < n ∧ ∃ (xs : List V) (x : V), SqT K H a xs ∧ xs[i]? = some x, fun i H v H' => ∃ T x, v = .ref T ∧ H T = none ∧ H' = upd H T (.tup [.int (i : Nat), x]) ∧ ∀ xs, SqT K H a xs → xs[i]? = some x, fun i H => n ≤ i ∧ ∃ xs : List V, SqT K H a xs ∧ xs.length = n⟩
theorem turn_enumT {P : Program} {w : World} {K : PySem.W.Frag} {elts : List Expr} {kk : Nat} {tpos : Pos} (a e it : Addr) (n : Nat) :
    Turn P w K (.Tuple elts kk tpos) (IteT K a n) [e, it] e (fun i h => i ≤ n ∧ (∃ old, IsEnum h e it ((i : Nat) : Int) old) ∧ h.IsTupleIter it a i ∧ e ≠ it) where
  mem := by simp
  obj := fun i h st b hb => by
    obtain ⟨_, ⟨old, he⟩, ⟨o, ho, hc, hd⟩, _⟩ := st
    rcases (by simpa using hb : b = e ∨ b = it) with rfl | rfl
    · exact ⟨_, he, fun v q => nomatch q⟩
    · exact ⟨o, ho, fun v q => by rw [hd] at q; cases q⟩
  keep := fun i h h' st k => let ⟨hin, ⟨old, he⟩, hi, hne⟩ := st; ⟨hin, ⟨old, k e (by simp) _ he⟩, hi.at fun o q => k it (by simp) o q, hne⟩
  item := by
    intro X hP hw hK hc i pins s σ H E I hf st hg
    subst hP hw hK
    obtain ⟨hin, ⟨old, he⟩, hit, hne⟩ := st
    obtain ⟨hlt0, xs, x, hq, hx⟩ := hg
    obtain ⟨its, rv, p, hz⟩ := I.tuple hq
    obtain ⟨u, hu, ru⟩ := rv.get hx
    have hel : e < s.heap.objs.size := Heap.lt_size he
    obtain ⟨oi, hoi, hci, hdi⟩ := id hit
    have hil : it < s.heap.objs.size := Heap.lt_size hoi
    obtain ⟨oa, hoa, hca, _⟩ := id p
    have hai : a ≠ it := fun z => by
      rw [z, hoi] at hoa
      cases hoa
      rw [hci] at hca
      exact absurd hca (by decide)
    have hae : a ≠ e := fun z => by
      have he' : s.heap.get? e = _ := he
      rw [z, he'] at hoa
      cases hoa
      exact absurd (Value.type.inj hca) (by decide)
    have hlt : i < its.toArray.size := by
      have := (List.getElem?_eq_some_iff.mp hu).1
      simpa using this
    refine wpAny_pyNext_enum_itemD (Draws.tuple (A := X.A.in1) (I.ok.hd hc) it a hai its.toArray) he ⟨hit, p⟩ hlt hne (by simp [hne, hae.symm]) fun y h' tk hy ho hst hT hsz hk => ?_
    have ey : y = u := by
      have hy : its.toArray[i]? = some y := hy
      rw [List.getElem?_toArray, hu] at hy
      exact (Option.some.inj hy).symm
    subst ey
    refine ⟨_, rfl, wpAny_letOwnedTupleGo_enum (s := { s with heap := h', toks := tk + 1 }) ho fun h'' he' sb => ?_⟩
    have hT2 : h''.get? s.heap.objs.size = some { cls := .type "tuple", data := .seq #[.int i tk, y] } := (sb.2 _ (Nat.ne_of_gt hel)).trans hT
    have new : ObjOk X.prog X.w (upd H s.heap.objs.size (.tup [.int (i : Nat), x])) h'' s.heap.objs.size (.tup [.int (i : Nat), x]) :=
      ⟨by show 2 ≤ sizeLine; decide, [.int i tk, y], .cons ⟨_, rfl⟩ (.cons ru .nil), ⟨_, hT2, rfl, _, rfl⟩⟩
    have I1 : Inv X pins σ (upd H s.heap.objs.size (.tup [.int (i : Nat), x])) { s with heap := h'', toks := tk + 1 } :=
      I.turnedNew (ch := [e, it]) (fun b ob hb q => by
        simp only [List.mem_cons, List.not_mem_nil, or_false, not_or] at hb
        exact (sb.2 b hb.1).trans (hk b ob hb.1 hb.2 q)) hf (Nat.le_refl _) new
    refine ⟨.ref s.heap.objs.size, _, I1, rfl, ⟨_, x, rfl, I.hok.fresh (Nat.le_refl _), rfl, fun ys hy => by rw [I.tuple_inj hy hq]; exact hx⟩, ⟨hlt0, ⟨y, ?_⟩, hst.1.at fun o q => (sb.2 it (Ne.symm hne)).trans q, hne⟩, fun b hb => ?_⟩
    · rw [show ((i + 1 : Nat) : Int) = (i : Int) + 1 by omega]; exact he'
    · have hb' : b < s.heap.objs.size := by
        rcases (by simpa using hb : b = e ∨ b = it) with rfl | rfl
        · exact hel
        · exact hil
      rw [upd_ne (Nat.ne_of_lt hb')]
      exact (hf b hb).1
  done := by
    intro X hP hw hK hc i pins s σ H E I hf st hg
    subst hP hw hK
    obtain ⟨hin, ⟨old, he⟩, hit, hne⟩ := st
    obtain ⟨hge, xs, hq, hx⟩ := hg
    obtain ⟨its, rv, p, hz⟩ := I.tuple hq
    obtain ⟨f0, f1, f2, f3, f4, f5⟩ := hf it (by simp)
    obtain ⟨oi, hoi, hci, hdi⟩ := id hit
    obtain ⟨oa, hoa, hca, _⟩ := id p
    have hai : a ≠ it := fun z => by
      rw [z, hoi] at hoa
      cases hoa
      rw [hci] at hca
      exact absurd hca (by decide)
    have hsz : i = its.toArray.size := by rw [List.size_toArray, ← rv.length, hx]; omega
    subst hsz
    exact wpAny_pyNext_enum_endD (Draws.tuple (A := X.A.in1) (I.ok.hd hc) it a hai its.toArray) he ⟨hit, p⟩ fun h' eb => ⟨rfl, I.turned (t' := s.toks) (fun b o hb q => eb b o hb q) f0 f1 f3 f4 f5⟩
  self := fun A i s Q E st h => let ⟨_, ⟨_, he⟩, _⟩ := st; wpAny_pyIter_enum he h
def iEnumT (K : PySem.W.Frag) (ta : TA) : TI := fun σ H R => ta σ H fun vs H1 => ∃ a xs, vs = [.ref a] ∧ SqT K H1 a xs ∧ R (IteT K a xs.length) H1
theorem pi_enumT {X : Cx} {e : Expr} {ta : TA} {p pos tpos : Pos} {elts : List Expr} {kk : Nat} (hg : Gl X "enumerate") (hm : X.mg "enumerate" = none) (ha : PA X [e] ta) (hs : starEach [e] X.env = [(false, eval e X.env)]) :
    PI X (.Tuple elts kk tpos) (.Call (.Name "enumerate" p) [e] [] pos) (iEnumT X.K ta) := by
  refine ⟨fun pins s σ H R I h => ?_⟩
  refine Call_ (ld_blt I hg hm boot_enumerate (PyProof.Rows.callWith_type1 (thn (ha.run pos pins s σ H _ I h) fun us s1 ⟨vs, H1, I1, r1, q1⟩ => ?_) hs rfl))
  obtain ⟨a, xs, ex, hq, q⟩ := q1
  subst ex
  obtain ⟨u, rfl, ru⟩ := vals1 r1
  cases ru
  obtain ⟨its, rv, p', hz⟩ := I1.tuple hq
  refine call_enumT p' fun h' he hit hk => wpAny_pyIter_enum he ?_
  have I2 : Inv X pins σ H1 { s1 with heap := h' } := I1.kept (t' := s1.toks) hk
  refine ⟨s1.heap.objs.size + 1, [s1.heap.objs.size + 1, s1.heap.objs.size], _, _, H1, rfl, I2, turn_enumT a (s1.heap.objs.size + 1) s1.heap.objs.size xs.length, ⟨Nat.zero_le _, ⟨.none, he⟩, hit, Nat.succ_ne_self _⟩, fun b hb => ?_, q⟩
  have hle : s1.heap.objs.size ≤ b := by
    rcases (by simpa using hb : b = s1.heap.objs.size + 1 ∨ b = s1.heap.objs.size) with rfl | rfl
    · exact Nat.le_add_right _ _
    · exact Nat.le_refl _
  exact I1.fpOk hle (I1.hok.fresh hle)
def bEnum (f : FE) : FI := fun env st => (f env st).bind fun x s => match x with
  | .tup ds => .ok (itE (itT ds)) s
  | _ => .bad
theorem ri_enum {K : PySem.W.Frag} {cl : Nat → Addr} {H0 : Hp} {m0 : List Addr} {a : Addr} {xs : List V} {ds : List D} (hs : SqT K H0 a xs) (r : RDs K H0 m0 ds xs) : RI K cl H0 m0 (itE (itT ds)) (IteT K a xs.length) := fun i H m st g s => by
  have hl := r.len
  have hs := SqT.gw g hs
  have r := r.gw g
  have eget : (itE (itT ds)).get st i = some ((ds[i]?).map fun d => .tup [.int (i : Nat), d]) := rfl
  refine ⟨fun h => ?_, fun d h => ?_⟩
  · rw [eget] at h
    cases e : ds[i]? with
    | some d => rw [e] at h; cases h
    | none =>
      have := List.getElem?_eq_none_iff.mp e
      exact ⟨by omega, _, hs, rfl⟩
  · rw [eget] at h
    cases e : ds[i]? with
    | none => rw [e] at h; cases h
    | some d0 =>
      rw [e] at h
      cases h
      obtain ⟨v, h1, h2⟩ := r.get e
      refine ⟨⟨(List.getElem?_eq_some_iff.mp h1).1, _, v, hs, h1⟩, fun x H' y => ?_⟩
      obtain ⟨T, x', rfl, hT, rfl, yx⟩ := y
      have z := yx _ hs
      rw [h1] at z
      cases z
      exact ⟨Gw.alloc hT, s.alloc hT, .tup (SqT.of upd_same) (.cons .int (.cons (h2.gw (Gw.alloc hT)) .nil))⟩
section
variable {X : Cx} {cl : Nat → Addr} {W : WX} {a : Expr} {f : FE} {elts : List Expr} {kk : Nat} {tpos pos : Pos}
theorem ki_enum {p1 : Pos} (hm : X.mg "enumerate" = none) (ha : SE X cl W a f) (hg : Gl X "enumerate" := by rfl) (hs : starEach [a] X.env = (false, eval a X.env) :: starEach [] X.env := by rfl) (hs2 : starEach [a] X.env = [(false, eval a X.env)] := by rfl) :
    SI X cl W (.Tuple elts kk tpos) (.Call (.Name "enumerate" p1) [a] [] pos) (bEnum f) := by
  refine PI.imp (pi_enumT hg hm (pa_cons ha pa_nil hs) hs2) fun σ H Q ⟨m, env, st, hE, hS, h⟩ => ?_
  refine ⟨m, env, st, hE, hS, snd_bind h fun d st1 v H1 m1 g1 s1 r1 h1 => ?_⟩
  cases r1 with
  | tup hs rs => exact ⟨_, _, rfl, hs, snd_ok h1 Gw.refl s1 (ri_enum hs rs)⟩
  | _ => exact h1.elim
end
end Kc

namespace Kc
open PySem PySem.Spec PyProof.Rows L2
/-! ### super().__init__('text') in an own error over ValueError -/
/-- what the written part says: the class at C, the cell cc of its name, its __init__ f (class own code object cda) -/
structure SupC (P : Program) (K : PySem.W.Frag) (mg : Str → Option Value) (C cc f cda : Addr) (fd : FuncData) : Prop where
  ox : OexC K C
  kf : ∃ oc od osl, K.lookup f = some ⟨oc, od, .func fd, osl⟩
  hd : ∃ ar, (fd.params.posonlyargs ++ fd.params.args).head? = some ar ∧ ar.arg = "self"
  cell : ∃ cl cld csl, K.lookup cc = some ⟨cl, cld, .cell (some (.ref C)), csl⟩
  code : ∃ ccl cdd vs ccs file tf, K.lookup cda = some ⟨ccl, cdd, .fields vs, ccs⟩ ∧ vs[2]? = some (.str file tf) ∧ ((P.main.file : Str) == file) = true
  ini : PySem.W.ks_superIn K C C "__init__" = some (some (.builtin "ValueError.__init__"))
  sub : PySem.W.subIn K (.ref C) (.type "ValueError") = some true
  me : PySem.W.mroIn K C (.ref C) = some true
  tp : PySem.W.nsIn K cStatics "thirdparty.any" = some none
  sup : mg "super" = none
  top : (P.main.scope.names.lookup ("super" : Str)).isSome = false
section
variable {prog : Program} {w : World} {A : Around} {E : Value → Shared → Prop} {K : PySem.W.Frag}
/-- the bound ValueError.__init__ is called -/
theorem sup_call {s : Shared} {x C u t : Addr} {rest : List Value} {Q : Value → Shared → Prop} {nm q : Str} {N : Addr} {bs bm : List Value} {hdct : Bool} {sn : List Str} {sub : List Value} {ab : Bool} {col : Option Bool} {dd : Option Addr} {k0 k1 k2 k3 k5 : Option Value}
    (hu : s.heap.get? u = some (PySem.W.kxs_mw "ValueError.__init__" x)) (hC : s.heap.get? C = some (excClassObj nm q C N bs bm hdct sn sub ab col dd k0 k1 k2 k3 k5 "ValueError.__new__")) (he : s.heap.get? x = some (PySem.W.excObj C t none .none)) (hz : rest.length ≤ sizeLine)
    (h : ∀ h' t', (∀ b o, b ≠ x → s.heap.get? b = some o → h'.get? b = some o) → h'.get? x = some (PySem.W.excObj C t' none .none) → Q .none { s with heap := h' }) :
    wpAny (model prog w) A (call (.ref u) rest) Q E s := by
  obtain ⟨hh, g, d, tk, os⟩ := s
  refine wpAny_call (codeAny_of_tree ?_)
  show wpAny _ A.in1 (callAny (.ref u) ⟨rest, []⟩) _ _ _
  simp only [callAny]
  refine wpAny_bind (wpAny_load hu ?_)
  simp only [PySem.W.kxs_mw, show (Value.type "method-wrapper" == Value.type "method" || Value.type "method-wrapper" == Value.type "builtin_function_or_method" || Value.type "method-wrapper" == Value.type "method-wrapper") = true by decide, if_true]
  refine PySem.W.KFB.if_so (by decide) ?_
  refine wpAny_bind (PySem.W.check_bound_init F.excBase_ValueError.toExcCallFacts hC he rfl ?_)
  refine wpAny_bind (wpAny_pure (wpAny_pure ?_))
  refine ⟨plainId_quiet F.excBase_ValueError.init.plain _, codeAny_builtin F.excBase_ValueError.initEntry ?_⟩
  exact PySem.W.exc_init_tree (cls := .ref C) (t0 := t) (dv := none) (c2 := .none) (c3 := .none) (b4 := .bool false) he hz fun h' k e' _ => h h' _ k e'
end
section
variable {X : Cx} {pins : List (Addr × Obj)} {σ : L2.St} {H : Hp} {s : Shared} {C cc f cda x : Addr} {fd : FuncData} {E : Value → Shared → Prop}
theorem sup_stmt {body : List Stmt} {pl : Sem Bool} {msg : Str} {j : Nat} {p0 p1 p2 p3 p4 p5 : Pos} (T : SupC X.prog X.K X.mg C cc f cda fd) (I : Inv X pins σ H s) (hx : H x = some (exo x C none)) (hself : ∃ m, s.heap.Ns X.env.locals m ∧ m "self" = some (.ref x))
    (hfu : X.env.func = some f) (hco : X.env.code = .ref cda) (hce : X.env.cells.lookup ("__class__" : Str) = some cc) (hk1 : X.env.scope.names.lookup ("super" : Str) = some .globalImplicit) (hk2 : X.env.scope.names.lookup ("__class__" : Str) = some .free) (hk3 : X.env.scope.names.lookup ("self" : Str) = some .local)
    (hi : interactive X.env = false := by rfl)
    (he : eval (.Call (.Attribute (.Call (.Name "super" p0) [] [] p1) "__init__" p2) [.Constant (.str msg) j p3] [] p4) X.env = (do
      let ov ← attributeBase (.Call (.Name "super" p0) [] [] p1) "__init__" X.env (eval (.Call (.Name "super" p0) [] [] p1) X.env)
      standAt p2.atName
      let (f, first) ← holding [ov] (getMethod ov "__init__" pl)
      callWith p4 f first (backTo p4 (starEach [.Constant (.str msg) j p3] X.env)) []) := by rfl)
    (hsw : swapsWith (.Call (.Attribute (.Call (.Name "super" p0) [] [] p1) "__init__" p2) [.Constant (.str msg) j p3] [] p4) none p5.line X.env = pure false := by rfl)
    (hst : starEach [.Constant (.str msg) j p3] X.env = (false, eval (.Constant (.str msg) j p3) X.env) :: starEach [] X.env := by rfl)
    (hpn : (backTo p4 (starEach [.Constant (.str msg) j p3] X.env)).any (·.1) = false := by rfl) :
    PySem.wpAt (model X.prog X.w) X.A (.func body X.env) (exec (.Expr (.Call (.Attribute (.Call (.Name "super" p0) [] [] p1) "__init__" p2) [.Constant (.str msg) j p3] [] p4) p5) X.env) (fun fl s' => fl = .next ∧ Inv X pins σ H s') E s := by
  obtain ⟨oc, od, osl, kf⟩ := T.kf
  obtain ⟨ar, har, ear⟩ := T.hd
  obtain ⟨cl, cld, csl, kc⟩ := T.cell
  obtain ⟨ccl, cdd, vs, ccs, file, tf, kcode, hvs, hfile⟩ := T.code
  obtain ⟨nm, q, N, bs, bm, sn, sub, ab, col, dd, k0, k1, k2, k3, k5, kC, hbm⟩ := T.ox.cls
  have Xk := I.kIn
  obtain ⟨t1, hx1⟩ := exo_at I.hok hx
  obtain ⟨m, hm, hms⟩ := hself
  obtain ⟨mb, hb1, hb2⟩ := I.mod.blt
  have hi2 := T.ini
  unfold PySem.W.ks_superIn at hi2
  cases hcd : PySem.W.clsIn X.K C with
  | none => rw [hcd] at hi2; cases hi2
  | some cd =>
    rw [hcd] at hi2
    refine PySem.ks_wpAt_Expr_any (PySem.ks_wpAt_MethodCall (PySem.ks_wpAt_super_base hk1 hk2 (by decide) hfu (Xk _ _ kf) rfl har hco (Xk _ _ kcode) rfl hvs hfile T.top ?_) he) hi hsw
    refine PySem.W.ks_loadName_global I.ok.kind hk1 (Calls.loadGlobal_builtin (by rw [I.ok.glob]; exact I.mod.glob.keeps I.bk) T.sup (by rw [I.ok.blt]; exact hb1.keeps I.bk) ((hb2 "super" (by decide)).trans (by decide +kernel)) ⟨rfl, ?_⟩)
    refine wpAny_loadName_free I.ok.kind hk2 hce ⟨_, Xk _ _ kc, rfl⟩ ?_
    rw [ear]
    refine wpAny_loadName_local I.ok.kind hk3 hm hms ?_
    refine PySem.ks_wpAny_isType_cls (Xk _ _ kC) rfl ⟨rfl, ?_⟩
    obtain ⟨hh, g, d, tk, os⟩ := s
    refine PySem.ks_wpAny_call_super (Xk _ _ kC) rfl hx1 rfl (fun c e => by cases e) (PySem.W.looks_mroIn Xk T.me) (fun h' e k => ?_)
    have I1 : Inv X pins σ H ⟨h', g, d, tk, os⟩ := I.kept (t' := tk) k
    have hx2 := k _ _ hx1
    have IA : PySem.W.InstAt h' x _ C none := ⟨hx2, rfl, rfl, trivial⟩
    have hI : PySem.W.Looks (model X.prog X.w) h' (isInstance (.ref x) (.type "ValueError")) true := IA.type.andThen (PySem.W.looks_subIn I1.kIn T.sub)
    refine PySem.W.kxs_getMethod PySem.W.kxs_ValueError e (PySem.W.looks_opaque I1.kIn T.tp) (l₀ := cd.mro) (fun A Q E s k q => wpAny_bind ((PySem.W.looks_clsIn I1.kIn hcd) A _ E s k (wpAny_pure q))) rfl I1.kIn hi2 hI (PySem.W.ks_ne I1.kIn IA hcd) (by decide) ?_
    have k3 : ∀ b o, h'.get? b = some o → (h'.push (PySem.W.kxs_mw "ValueError.__init__" x)).get? b = some o := fun b o e => Heap.get?_push_of_some _ e
    have I2 : Inv X pins σ H ⟨h'.push (PySem.W.kxs_mw "ValueError.__init__" x), g, d, tk + 1, os⟩ := I1.kept (t' := tk + 1) k3
    have hu : (h'.push (PySem.W.kxs_mw "ValueError.__init__" x)).get? h'.objs.size = some (PySem.W.kxs_mw "ValueError.__init__" x) := Heap.get?_push_size _ rfl
    rw [hst]
    rw [hst] at hpn
    refine PySem.W.kxs_callWith (i := "ValueError.__init__") (x := x) hpn (Calls.evalArgs_plain (Calls.spliced_cons (Calls.Constant_str (k := j) (pos := p3) (Calls.spliced_nil ⟨hu, ?_⟩))))
    have hx3 := k3 _ _ hx2
    refine sup_call (s := ⟨h'.push (PySem.W.kxs_mw "ValueError.__init__" x), g, d, tk + 1 + 1, os⟩) hu (I2.kIn _ _ kC) hx3 (by show 1 ≤ sizeLine; decide) fun h4 t4 k4 hx4 => ?_
    have I3 : Inv X pins σ H ⟨h'.push (PySem.W.kxs_mw "ValueError.__init__" x), g, d, tk + 1 + 1, os⟩ := I2.kept (t' := tk + 1 + 1) fun _ _ e => e
    have J := I3.write (t' := tk + 1 + 1) (x := x) (e := x) (o := exo x C none) (by rw [hx]; exact True.intro) (.inl rfl) k4 ⟨_, hx4⟩ (exo_ok hx4)
    have eu : upd H x (exo x C none) = H := by
      funext b
      by_cases hb : b = x
      · rw [hb, upd_same, hx]
      · rw [upd_ne hb]
    rw [eu] at J
    exact ⟨rfl, J⟩
end

/-- a def whose body begins with super().__init__(text), of a class at C -/
abbrev nfS (name qual : Str) (params : Arguments) (body : List Stmt) (scope : Scope) (cc cda : Addr) : NdefX.NF := ⟨name, qual, params, body, scope, [("__class__", cc)], cda⟩
section
variable {P : Program} {w : World} {K : PySem.W.Frag} {mg : Str → Option Value} {base : Heap} {CX : CXT}
theorem cells_S {s : Shared} {H : Hp} {C cc : Addr} {cl : Value} {cld : Option Addr} {csl : Array (Option Value)} (KX : K.In s.heap) (hH : ∀ b o, K.lookup b = some o → H b = none) (kc : K.lookup cc = some ⟨cl, cld, .cell (some (.ref C)), csl⟩) : NdefX.CellsAt [("__class__", cc)] ["__class__"] [some (.ref C)] s.heap H := by
  have look : ∀ {y : Str} {c : Addr}, ([("__class__", cc)] : List (Str × Addr)).lookup y = some c → y = "__class__" ∧ c = cc := fun {y c} e => by
    by_cases h : y = "__class__"
    · subst h
      rw [List.lookup_cons_self] at e
      cases e
      exact ⟨rfl, rfl⟩
    · have h2 : (y == ("__class__" : Str)) = false := by simpa using h
      rw [List.lookup_cons, h2] at e
      cases e
  refine ⟨rfl, fun y c e => ?_, fun x y c e1 e2 => ?_, fun i y e => ?_⟩
  · obtain ⟨_, rfl⟩ := look e
    exact ⟨hH _ _ kc, _, _, KX _ _ kc, rfl⟩
  · rw [(look e1).1, (look e2).1]
  · cases i with
    | zero =>
      cases e
      refine ⟨cc, by rw [List.lookup_cons_self], fun v hv => ?_⟩
      cases hv
      exact ⟨.ref C, rfl, _, KX _ _ kc, rfl⟩
    | succ i => simp at e

/-- a def of a class: its first statement says super().__init__(text), the rest is walked -/
theorem fnS_of {k : Nat} {f C cc cda : Addr} {name qual : Str} {params : Arguments} {body rest : List Stmt} {scope : Scope} {doc pm ct oc : Value} {an od : Option Addr} {osl : Array (Option Value)} {N ps : List Str} {sp : Sp} {pl : Sem Bool} {msg : Str} {j : Nat} {p0 p1 p2 p3 p4 p5 : Pos}
    (T : SupC P K mg C cc f cda (PySem.W.ksFn name qual params body scope .none .none doc pm an (.ref cda) ct cc)) (lk : K.lookup f = some ⟨oc, od, .func (PySem.W.ksFn name qual params body scope .none .none doc pm an (.ref cda) ct cc), osl⟩) (hcd : PySem.W.codeIn K (.ref cda) qual = true)
    (S : NdefX.NScope N (("self" : Str) :: ps) ["__class__"] scope) (hk1 : scope.names.lookup ("super" : Str) = some .globalImplicit)
    (hb : body = .Expr (.Call (.Attribute (.Call (.Name "super" p0) [] [] p1) "__init__" p2) [.Constant (.str msg) j p3] [] p4) p5 :: rest)
    (len : ∀ vs H Q E, sp vs H Q E → vs.length = (("self" : Str) :: ps).length) (hfst : ∀ vs H Q E, sp vs H Q E → ∃ x ws, vs = .ref x :: ws ∧ H x = some (exo x C none))
    (he : ∀ L : Addr, eval (.Call (.Attribute (.Call (.Name "super" p0) [] [] p1) "__init__" p2) [.Constant (.str msg) j p3] [] p4) (NdefX.envF (nfS name qual params body scope cc cda) f L) = (do
      let ov ← attributeBase (.Call (.Name "super" p0) [] [] p1) "__init__" (NdefX.envF (nfS name qual params body scope cc cda) f L) (eval (.Call (.Name "super" p0) [] [] p1) (NdefX.envF (nfS name qual params body scope cc cda) f L))
      standAt p2.atName
      let (g, first) ← holding [ov] (getMethod ov "__init__" pl)
      callWith p4 g first (backTo p4 (starEach [.Constant (.str msg) j p3] (NdefX.envF (nfS name qual params body scope cc cda) f L))) []))
    (hsw : ∀ L : Addr, swapsWith (.Call (.Attribute (.Call (.Name "super" p0) [] [] p1) "__init__" p2) [.Constant (.str msg) j p3] [] p4) none p5.line (NdefX.envF (nfS name qual params body scope cc cda) f L) = pure false)
    (hst : ∀ L : Addr, starEach [.Constant (.str msg) j p3] (NdefX.envF (nfS name qual params body scope cc cda) f L) = (false, eval (.Constant (.str msg) j p3) (NdefX.envF (nfS name qual params body scope cc cda) f L)) :: starEach [] (NdefX.envF (nfS name qual params body scope cc cda) f L))
    (hpn : ∀ L : Addr, (backTo p4 (starEach [.Constant (.str msg) j p3] (NdefX.envF (nfS name qual params body scope cc cda) f L))).any (·.1) = false)
    (hbody : ∀ (A : Around) (outer : List PySem.Env) (s : Shared) (H : Hp) (vs : List V) (Q : VK) (E : XK), Room k (A.deeper (NdefX.envF (nfS name qual params body scope cc cda) f s.heap.objs.size)) → sp vs H Q E →
      ∃ t, PSs (NdefX.ncx CX P w K mg base N (nfS name qual params body scope cc cda) f A outer s H E) rest t ∧ t { nx := fun _ H' => Q .non H', rt := Q } (NdefX.startF N vs [some (.ref C)]) H) :
    FnOk P w K mg base CX (k + 1) f (PySem.W.ksFn name qual params body scope .none .none doc pm an (.ref cda) ct cc) (("self" : Str) :: ps) sp := by
  refine ⟨len, fun A outer s H args us vs Q E hr e0 hbd r hsp => ?_⟩
  have hl := len _ _ _ _ hsp
  have KX : K.In s.heap := e0.mod.kin.keeps fun b o e => (e0.bs b o e).1
  have lim : s.heap.NoLimit := e0.mod.nolimit.keeps fun b o e => (e0.bs b o e).1
  have hH : ∀ b o, K.lookup b = some o → H b = none := fun b o e => (e0.bs b o (e0.mod.kin b o e)).2
  obtain ⟨x, ws, rfl, hx⟩ := hfst _ _ _ _ hsp
  obtain ⟨cl, cld, csl, kc⟩ := T.cell
  refine ks_codeAny_call_defAt hr.depth (KX _ _ lk) rfl lim (PySem.W.codeRec_of KX hcd) rfl hbd S.nocell (fun y hy => S.par y.1 (List.of_mem_zip hy).1) (fun h₁ hns kp => ?_) S.co S.gen S.kind
  show PySem.wpAt (model P w) (A.deeper (NdefX.envF (nfS name qual params body scope cc cda) f s.heap.objs.size)) (.func body (NdefX.envF (nfS name qual params body scope cc cda) f s.heap.objs.size)) (execs body (NdefX.envF (nfS name qual params body scope cc cda) f s.heap.objs.size)) _ _ _
  obtain ⟨t, ht, hq⟩ := hbody A outer s H (.ref x :: ws) Q E (hr.deeper _) hsp
  have I : Inv (NdefX.ncx CX P w K mg base N (nfS name qual params body scope cc cda) f A outer s H E) [] (NdefX.startF N (.ref x :: ws) [some (.ref C)]) H { s with heap := h₁, toks := s.toks + ((("self" : Str) :: ps).zip us).length } := NdefX.inv_startN S hr.hd e0 hl r (cells_S KX hH kc) hns kp
  obtain ⟨u0, us', rfl, ru, _⟩ : ∃ u0 us', us = u0 :: us' ∧ RelV (.ref x) u0 ∧ Vals ws us' := by
    cases r with
    | cons a b => exact ⟨_, _, rfl, a, b⟩
  cases ru
  have e1 : execs body (NdefX.envF (nfS name qual params body scope cc cda) f s.heap.objs.size) = execs (.Expr (.Call (.Attribute (.Call (.Name "super" p0) [] [] p1) "__init__" p2) [.Constant (.str msg) j p3] [] p4) p5 :: rest) (NdefX.envF (nfS name qual params body scope cc cda) f s.heap.objs.size) := by rw [hb]
  rw [e1]
  refine PySem.ks_wpAt_execs_cons (PySem.ks_wpAt_mono (sup_stmt (X := NdefX.ncx CX P w K mg base N (nfS name qual params body scope cc cda) f A outer s H E) (pl := pl) T I hx ⟨_, hns, ?_⟩ rfl rfl ?_ hk1 (S.frk _ List.mem_cons_self) (S.par _ List.mem_cons_self) ?_ (he _) (hsw _) (hst _) (hpn _)) (fun fl s2 h2 => ?_) fun _ _ z => z)
  · exact NdefX.zip_look (i := 0) (by
      have q := S.nd.sublist (List.take_sublist ((("self" : Str) :: ps).length + (["__class__"] : List Str).length) N)
      rw [S.pre] at q
      exact (List.nodup_append.mp q).1) rfl rfl
  · exact List.lookup_cons_self
  · show ((scope.kind == .module) && _) = false
    rw [S.kind]
    rfl
  · obtain ⟨rfl, J⟩ := h2
    refine PySem.wpAt_of_wpAny (wpAny_mono (ht.run [] s2 _ H _ J hq) (fun fl s' hs => ?_) fun e s' hs => hs)
    have fin : ∀ {σ' : L2.St} {H' : Hp} {v : V} {u : Value}, Inv (NdefX.ncx CX P w K mg base N (nfS name qual params body scope cc cda) f A outer s H E) [] σ' H' s' → RelV v u → Q v H' → CE outer P w H s Q u s' :=
      fun {σ' H' v u} J rv q => ⟨v, H', J.os, J.bare, J.base, J.hok, rv, q⟩
    cases fl with
    | ret u =>
      obtain ⟨v, σ', H', J, rv, q⟩ := hs
      exact fin J rv q
    | next =>
      obtain ⟨σ', H', J, q⟩ := hs
      exact fin (v := V.non) (u := Value.none) J rfl q
    | brk =>
      obtain ⟨_, _, _, q⟩ := hs
      exact False.elim q
    | cont =>
      obtain ⟨_, _, _, q⟩ := hs
      exact False.elim q
end
end Kc

namespace Kc
open PySem PySem.Spec PyProof.Rows L2
/-! ### raise C(..), C an own error over ValueError whose __init__ says super().__init__(text) and keeps its parameters -/
/-- the fields: of each its name and the parameter's place -/
def xkL {α : Type} (fl : List (Str × Nat)) (ys : List α) : List (Str × α) := fl.filterMap fun p => (ys[p.2]?).map fun y => (p.1, y)
theorem xkL_rf {K : PySem.W.Frag} {H : Hp} {m : List Addr} {ds : List D} {vs : List V} (r : RDs K H m ds vs) : ∀ fl : List (Str × Nat), RF K H m (xkL fl ds) (xkL fl vs)
  | [] => .nil
  | (f, i) :: fl => by
    have ih := xkL_rf r fl
    unfold xkL at ih ⊢
    rw [List.filterMap_cons, List.filterMap_cons]
    dsimp only
    cases e : ds[i]? with
    | some d =>
      obtain ⟨v, h1, h2⟩ := r.get e
      rw [h1]
      exact .cons h2 ih
    | none =>
      have : vs[i]? = none := by
        rw [List.getElem?_eq_none_iff] at e ⊢
        rw [r.len]
        exact e
      rw [this]
      exact ih
/-- what its __init__ does -/
def spX (C : Addr) (n : Nat) (fl : List (Str × Nat)) : Sp := fun vs H Q _ => ∃ x ys, vs = .ref x :: ys ∧ ys.length = n ∧ H x = some (exo x C none) ∧
  ∀ (dx : Addr) (H' : Hp), H dx = none → dx ≠ x → H' x = some (exo x C (some dx)) → H' dx = some (exd dx (xkL fl ys)) → (∀ b, b ≠ x → b ≠ dx → H' b = H b) → Q .non H'
/-- the error class c -/
structure Xk (P : Program) (w : World) (K : PySem.W.Frag) (mg : Str → Option Value) (base : Heap) (cl : Nat → Addr) (k c : Nat) (x : Str) (n : Nat) (fl : List (Str × Nat)) : Prop where
  ox : OexC K (cl c)
  name : mg x = some (.ref (cl c))
  ini : ∃ f fd ps, PySem.W.findIn K (.ref (cl c)) "__init__" = some (some (.ref f)) ∧ PySem.W.typeIn K (.ref f) = some (.type "function") ∧ Binds K fd ps [] ∧ FnOk P w K mg base (L2.CX P w) k f fd ps (spX (cl c) n fl)
def sRaise (c n : Nat) (fl : List (Str × Nat)) (g : FA) : FS := fun env st => (g env st).z env fun ds s => if ds.length = n ∧ n ≤ 1000 then .exc ⟨c, xkL fl ds⟩ env s else .bad
section
variable {X : Cx} {cl : Nat → Addr} {W : WX} {e a : Expr} {es : List Expr} {f : FE} {fa : FA} {pos : Pos}
theorem ks_raise {k c n : Nat} {x : Str} {fl : List (Str × Nat)} {p1 pc : Pos} (M : Xk X.prog X.w X.K X.mg X.base cl k c x n fl) (hr : Room (k + 1) X.A) (hc : X.calm = true) (tk : Takes X W) (hps : Passes (L2.CX X.prog X.w) X (fun _ _ _ => False)) (ha : SA X cl W (e :: es) fa) (hg : Gl X x := by rfl)
    (hdb : (x == ("__debug__" : Str)) = false := by decide) (he : starEach (e :: es) X.env = (false, eval e X.env) :: starEach es X.env := by rfl) (hpl : (backTo pc (starEach es X.env)).any (·.1) = false := by rfl) :
    SS X cl W (.Raise (some (.Call (.Name x p1) (e :: es) [] pc)) none pos) (sRaise c n fl fa) := by
  obtain ⟨fI, fd, ps, hf, ht, hb, G⟩ := M.ini
  refine PS.imp (ps_raise hc tk (pmk_oex (CX := L2.CX X.prog X.w) (k := k) M.ox hf ht G hr hb .nil hps hg M.name ha hdb he hpl)) fun Dn σ H ⟨m, env, st, hE, hS, h⟩ => ?_
  refine ⟨m, env, st, hE, hS, snd_z hE h fun ds st1 vs H1 m1 g1 s1 r1 h1 => ?_⟩
  by_cases hn : ds.length = n ∧ n ≤ 1000
  · rw [if_pos hn] at h1
    refine ⟨by rw [r1.len]; omega, fun a ha => ?_⟩
    rw [List.append_nil]
    refine ⟨a, vs, rfl, by rw [r1.len]; exact hn.1, upd_same, fun dx H' hdx hne hx hd hoth => ⟨rfl, dx, _, hx, hd, ?_, ?_⟩⟩
    · rw [upd_ne hne] at hdx
      exact hdx
    · rw [upd_ne hne] at hdx
      have eH : upd (del H' a) dx (.xd (xkL fl vs)) = upd H1 dx (.xd (xkL fl vs)) := by
        funext b
        by_cases hbd : b = dx
        · rw [hbd, upd_same, upd_same]
        · rw [upd_ne hbd, upd_ne hbd]
          by_cases hba : b = a
          · rw [hba, del_same, ha]
          · rw [del_ne hba, hoth b hba hbd, upd_ne hba]
      rw [eH]
      have g2 : Gw H1 m1 (upd H1 dx (.xd (xkL fl vs))) m1 := Gw.alloc hdx
      exact h1 _ _ σ _ m1 g2 (s1.alloc hdx) ((hE.gw g1).gw g2) ⟨rfl, dx, _, rfl, upd_same, (xkL_rf r1 fl).gw g2⟩
  · rw [if_neg hn] at h1
    exact h1.elim
end
end Kc

namespace Kc
open PySem PySem.Spec PyProof.Rows L2
/-! ### a caught own error: its fields, isinstance of it -/
/-- the context holds the exception at a, of the class c, its dict at dx -/
structure Cau (X : Cx) (cl : Nat → Addr) (a dx : Addr) (c : Nat) : Prop where
  pin : ∃ oe, (a, oe) ∈ X.pn ∧ Zc (.ref (cl c)) (some dx) oe ∧ ∃ vs, oe.data = .fields vs
theorem Cau.inst {X : Cx} {cl : Nat → Addr} {a dx : Addr} {c : Nat} (C : Cau X cl a dx c) {pins : List (Addr × Obj)} {σ : L2.St} {H : Hp} {s : Shared} {gs : List (Str × V)} (I : Inv X pins σ H s) (hd : H dx = some (.xd gs)) :
    ∃ ox od, PySem.W.InstAt s.heap a ox (cl c) (some od) ∧ ∃ mA : Str → Option Value, (∀ n, PySem.W.lookIn n od = some (mA n)) ∧ ∀ n, RelO (gs.lookup n) (mA n) := by
  obtain ⟨oe, hm, hz, vs, hv⟩ := C.pin
  obtain ⟨ha, _⟩ := I.pin (a, oe) (List.mem_append_left _ hm)
  have hx : ObjOk X.prog X.w H s.heap dx (.xd gs) := I.hok dx _ hd
  obtain ⟨mA, hns, hr⟩ := hx
  obtain ⟨od, ho, hl⟩ := lookIn_ns hns
  exact ⟨oe, od, ⟨ha, hz.1, by unfold PySem.W.notCls; rw [hv] <;> rfl, by rw [hz.2]; exact ho⟩, mA, hl, hr⟩
/-- the value is the caught exception: its fields -/
def isCau (a dx : Addr) (c : Nat) : D → Option (List (Str × D))
  | .err a' dx' c' fs => if a' = a ∧ dx' = dx ∧ c' = c then some fs else none
  | _ => none
theorem isCau_rd {K : PySem.W.Frag} {H : Hp} {m : List Addr} {a dx : Addr} {c : Nat} {d : D} {v : V} {fs : List (Str × D)} (r : RD K H m d v) (h : isCau a dx c d = some fs) : v = .ref a ∧ ∃ gs, H dx = some (.xd gs) ∧ RF K H m fs gs := by
  cases r with
  | err hd rf =>
    unfold isCau at h
    dsimp only at h
    split at h
    · rename_i z
      obtain ⟨rfl, rfl, rfl⟩ := z
      cases h
      exact ⟨rfl, _, hd, rf⟩
    · cases h
  | _ => cases h
theorem rf_look {K : PySem.W.Frag} {H : Hp} {m : List Addr} {n : Str} {d : D} : ∀ {fs : List (Str × D)} {gs : List (Str × V)}, RF K H m fs gs → fs.lookup n = some d → ∃ v, gs.lookup n = some v ∧ RD K H m d v
  | _, _, .nil, h => by cases h
  | _, _, .cons (f := f) r rs, h => by
    rw [List.lookup_cons] at h ⊢
    cases e : n == f with
    | true => rw [e] at h; cases h; exact ⟨_, rfl, r⟩
    | false => rw [e] at h; exact rf_look rs h
def bXf (a dx : Addr) (c : Nat) (n : Str) (f : FE) : FE := fun env st => (f env st).bind fun x s => match isCau a dx c x with
  | some fs => match fs.lookup n with
    | some d => .ok d s
    | none => .bad
  | none => .bad
def bIsE (a dx : Addr) (c : Nat) (t : Nat → Option Bool) (f : FE) : FE := fun env st => (f env st).bind fun x s => match isCau a dx c x with
  | some _ => match t c with
    | some b => .ok (.bl b) s
    | none => .bad
  | none => .bad
section
variable {X : Cx} {cl : Nat → Addr} {W : WX} {e e2 : Expr} {es : List Expr} {f g : FE} {fa : FA} {pos : Pos} {a dx : Addr} {c : Nat}
theorem k_xf {n : Str} (C : Cau X cl a dx c) (T : XfC X.K (cl c)) (hno : PySem.W.findIn X.K (.ref (cl c)) n = some none) (he : SE X cl W e f) (hb : attributeBase e n X.env (eval e X.env) = eval e X.env := by rfl) :
    SE X cl W (.Attribute e n pos) (bXf a dx c n f) := by
  refine ⟨fun pins s σ H Q I h => ?_⟩
  obtain ⟨m, env, st, hE, hS, h⟩ := h
  refine attr_of hb (thn (he.run pins s σ H (fun v H1 => v = .ref a ∧ ∃ gs v, H1 dx = some (.xd gs) ∧ gs.lookup n = some v ∧ Q v H1) I ⟨m, env, st, hE, hS, snd_bind h fun d st1 v H1 m1 g1 s1 r1 h1 => ?_⟩) fun u s1 hh => ?_)
  · cases e1 : isCau a dx c d with
    | none => simp only [e1] at h1; exact h1.elim
    | some fs =>
      simp only [e1] at h1
      obtain ⟨rfl, gs, hd, rf⟩ := isCau_rd r1 e1
      cases e2 : fs.lookup n with
      | none => simp only [e2] at h1; exact h1.elim
      | some d =>
        simp only [e2] at h1
        obtain ⟨v, hv, rv⟩ := rf_look rf e2
        exact ⟨rfl, gs, v, hd, hv, snd_ok h1 Gw.refl s1 rv⟩
  · obtain ⟨x, H1, I1, rx, ex, gs, v, hd, l, q⟩ := hh
    subst ex
    obtain rfl : u = Value.ref a := rx
    obtain ⟨ox, od, J, mA, hl, hr⟩ := C.inst I1 hd
    obtain ⟨u, hu, ru⟩ := RelO.some_of (v := v) (o := mA n) (by rw [← l]; exact hr n)
    exact HandSPX.exc_get I1.kIn J T.ga T.gg T.exC (PySem.W.findObj_own T.hdC hno rfl (by rw [hl, hu])) (handed_of ru) ⟨v, H1, I1.tok _, ru, q⟩
/-- what isinstance answers of the caught exception -/
def rIsC (K : PySem.W.Frag) (C a dx : Addr) : List V → Hp → VK → Prop := fun xs H Q => ∃ (cv : V) (cu : Value) (b : Bool) (gs : List (Str × V)), xs = [.ref a, cv] ∧ (∀ u, RelV cv u → u = cu) ∧ H dx = some (.xd gs) ∧ PySem.W.kitOne K (.ref C) cu = some b ∧ Q (.bl b) H
theorem call_isC (C : Cau X cl a dx c) (T : ExcC X.K (cl c)) : CallR X (.builtin "isinstance") (rIsC X.K (cl c) a dx) := by
  intro pins s σ H xs us Q I r h
  obtain ⟨cv, cu, b, gs, rfl, hcv, hd, e, q⟩ := h
  cases r with
  | cons rx rr =>
    cases rr with
    | cons rt rr =>
      cases rr
      cases rx
      have ec := hcv _ rt
      subst ec
      obtain ⟨ox, od, J, _⟩ := C.inst I hd
      obtain ⟨cdD, hcD, _⟩ := PySem.W.any_some T.hd
      exact PySem.W.kia_one (PySem.W.kitx_exc (by rw [hcD]; rfl) T.hg T.hk T.hs T.ha T.hn T.ht T.hm) I.kIn J e (fun z => nomatch z) fun tk => ⟨.bl b, H, I.kept (t' := tk) fun _ _ z => z, rfl, q⟩
theorem k_isE {x : Str} {t : Nat → Option Bool} {cv : V} {cu : Value} {p1 p2 : Pos} (C : Cau X cl a dx c) (T : ExcC X.K (cl c)) (ht : ∀ b, t c = some b → PySem.W.kitOne X.K (.ref (cl c)) cu = some b) (hcv : ∀ u, RelV cv u → u = cu) (hx : PE X (.Name x p2) (tC cv))
    (hm : X.mg "isinstance" = none) (ha : SE X cl W e f) (hg : Gl X "isinstance" := by rfl)
    (he2 : starEach [.Name x p2] X.env = (false, eval (.Name x p2) X.env) :: starEach [] X.env := by rfl)
    (he : starEach [e, .Name x p2] X.env = (false, eval e X.env) :: starEach [.Name x p2] X.env := by rfl) (hpl : (backTo pos (starEach [.Name x p2] X.env)).any (·.1) = false := by rfl) :
    SE X cl W (.Call (.Name "isinstance" p1) [e, .Name x p2] [] pos) (bIsE a dx c t f) := by
  refine PE.imp (pe_callB (call_isC C T) hg hm (by decide +kernel) (pa_cons ha (pa_cons hx pa_nil he2) he) (by decide) (by decide) he hpl) fun σ H Q ⟨m, env, st, hE, hS, h⟩ => ?_
  refine ⟨m, env, st, hE, hS, snd_bind h fun d st1 v H1 m1 g1 s1 r1 h1 => ?_⟩
  cases e1 : isCau a dx c d with
  | none => simp only [e1] at h1; exact h1.elim
  | some fs =>
    simp only [e1] at h1
    obtain ⟨rfl, gs, hd, rf⟩ := isCau_rd r1 e1
    cases e2 : t c with
    | none => simp only [e2] at h1; exact h1.elim
    | some b =>
      simp only [e2] at h1
      exact ⟨cv, cu, b, gs, rfl, hcv, hd, ht b e2, snd_ok h1 Gw.refl s1 .bl⟩
end
end Kc

namespace Kc
open PySem PySem.Spec PyProof.Rows L2
/-! ### try: .. except C as n: .. -/
/-- what does not hang on the addresses -/
noncomputable def allZ (f : Addr → Addr → Z) : Z := by
  classical
  exact if h : ∃ z, ∀ a dx, f a dx = z then h.choose else .bad
theorem allZ_eq {f : Addr → Addr → Z} {z : Z} (h : ∀ a dx, f a dx = z) : allZ f = z := by
  have hx : ∃ z, ∀ a dx, f a dx = z := ⟨z, h⟩
  unfold allZ
  rw [dif_pos hx]
  exact (hx.choose_spec 0 0).symm.trans (h 0 0)
theorem allZ_at {f : Addr → Addr → Z} : allZ f = .bad ∨ ∀ a dx, f a dx = allZ f := by
  by_cases hx : ∃ z, ∀ a dx, f a dx = z
  · refine .inr fun a dx => ?_
    unfold allZ
    rw [dif_pos hx]
    exact hx.choose_spec a dx
  · refine .inl ?_
    unfold allZ
    rw [dif_neg hx]
/-- behind the suite its name is gone -/
def Z.un (i : Nat) : Z → Z
  | .nx env s => .nx (env.set i none) s
  | .bk env s => .bk (env.set i none) s
  | .ct env s => .ct (env.set i none) s
  | .rt d s => .rt d s
  | .exc _ _ _ => .bad
  | .bad => .bad
noncomputable def sTry (i : Nat) (xb : Nat → Option Bool) (body : FS) (S : Addr → Addr → Nat → FS) : FS := fun env st => match body env st with
  | .exc x env' st' => match xb x.c with
    | some true => allZ fun a dx => (S a dx x.c (env'.set i (some (.err a dx x.c x.fs))) st').un i
    | some false => .exc x env' st'
    | none => .bad
  | z => z
abbrev WNo : WX := fun _ _ _ _ => False
theorem takes_no {X : Cx} : Takes X WNo := fun _ _ ⟨_, _, _, _, _, _, _, _, _, _, _, _, _, _, _, _, w⟩ => w.elim
section
variable {X : Cx} {cl : Nat → Addr} {W : WX}
theorem un_ok {K : PySem.W.Frag} {i : Nat} {z : Z} {H : Hp} {m : List Addr} {D : Ends} (h : SndZ K cl (z.un i) H m D W) :
    SndZ K cl z H m { nx := fun σ' H' => D.nx (σ'.set i none) H', rt := D.rt, bk := fun σ' H' => D.bk (σ'.set i none) H', ct := fun σ' H' => D.ct (σ'.set i none) H' } WNo := by
  cases z with
  | nx env st => exact fun σ' H' m' g s r => h _ H' m' g s (r.unset i)
  | rt d st => exact fun v H' m' g s r => h v H' m' g s r
  | bk env st => exact fun σ' H' m' g s r => h _ H' m' g s (r.unset i)
  | ct env st => exact fun σ' H' m' g s r => h _ H' m' g s (r.unset i)
  | exc x env st => exact h.elim
  | bad => exact h.elim
theorem ks_try {i : Nat} {x n : Str} {cv : Value} {xb : Nat → Option Bool} {body suite : List Stmt} {b₀ : Stmt} {np pos pos' : Pos} {B : FS} {S : Addr → Addr → Nat → FS} (C : Co X W) (hs : X.stack = X.env :: X.outer) (hf : X.env.frame = some X.env.locals) (hc : Names X x cv)
    (hxb : ∀ c b, xb c = some b → PySem.W.exmOne X.K (.ref (cl c)) cv = some b)
    (hb : ∀ (W' : WX) (pn : List (Addr × Obj)) (xe : Value → Shared → Prop), Co (X.tr pn xe) W' → SSs (X.tr pn xe) cl W' body B)
    (hsu : ∀ (a dx : Addr) (c : Nat) (pn : List (Addr × Obj)), xb c = some true → Cau (X.suite a pn) cl a dx c → SSs (X.suite a pn) cl WNo (b₀ :: suite) (S a dx c))
    (hi : X.N[i]? = some n := by rfl) (hln : X.env.kindOf n = some .local := by rfl) :
    SS X cl W (.Try body [.ExceptHandler (some (.Name x np)) (some n) (b₀ :: suite) pos'] [] [] pos) (sTry i xb B S) := by
  refine PS.imp (ps_try_as (tb := fun W' => tS X.K cl W' B) (ts := fun a cls d => fun D σ H => ∃ c dx, cls = .ref (cl c) ∧ d = some dx ∧ xb c = some true ∧ tS X.K cl WNo (S a dx c) D σ H) (Wout := W)
    hs hf C.nd hi hln hc C.takes (fun W' pn xe tk ps => hb W' pn xe ⟨C.calm, C.nd, tk, ps⟩) (fun a oe cls d pn hz hv => ⟨fun pins s σ H D I ⟨c, dx, e1, e2, hx, h⟩ => ?_⟩)) fun D σ H ⟨m, env, st, hE, hS, h⟩ => ?_
  · subst e1 e2
    exact (hsu a dx c ((a, oe) :: pn) hx ⟨oe, List.mem_cons_self, hz, hv⟩).run pins s σ H D I h
  · refine ⟨m, env, st, hE, hS, ?_⟩
    unfold sTry at h
    generalize B env st = z at h ⊢
    cases z with
    | nx env st => exact h
    | rt d st => exact h
    | bk env st => exact h
    | ct env st => exact h
    | bad => exact h.elim
    | exc x env' st' =>
      dsimp only at h
      intro cv' dd σ' H' m' g s r rx
      obtain ⟨rfl, dx, gs, rfl, hd, rf⟩ := rx
      cases hb1 : xb x.c with
      | none => simp only [hb1] at h; exact h.elim
      | some b =>
        simp only [hb1] at h
        refine ⟨b, hxb _ _ hb1, fun e a ha => ?_, fun e => ?_⟩
        · subst e
          refine ⟨x.c, dx, rfl, rfl, hb1, m', _, st', r.set (.err (c := x.c) hd rf) i, s, ?_⟩
          rcases allZ_at (f := fun a dx => (S a dx x.c (env'.set i (some (.err a dx x.c x.fs))) st').un i) with e | e
          · dsimp only at h
            rw [e] at h
            exact h.elim
          · dsimp only at h
            rw [← e a dx] at h
            exact un_ok (SndZ.from g h)
        · subst e
          exact h _ _ σ' H' m' g s r ⟨rfl, dx, gs, rfl, hd, rf⟩
end

/-! ### a def that is called with the caught exception -/
section
variable {P : Program} {w : World} {K : PySem.W.Frag} {mg : Str → Option Value} {base : Heap} {cl : Nat → Addr}
/-- what a def promises where the exception at a is handled -/
structure FnP (P : Program) (w : World) (K : PySem.W.Frag) (mg : Str → Option Value) (base : Heap) (cl : Nat → Addr) (CX : CXT) (k : Nat) (f : Addr) (fd : FuncData) (ps : List Str) (a dx : Addr) (c : Nat) (sp : Sp) : Prop where
  len : ∀ vs H Q E, sp vs H Q E → vs.length = ps.length
  run : ∀ (A : Around) (outer : List PySem.Env) (s : Shared) (H : Hp) (args : Args) (us : List Value) (vs : List V) (Q : VK) (E : XK) (oe : Obj), L2H.RoomH k A → Zc (.ref (cl c)) (some dx) oe → (∃ vs, oe.data = .fields vs) → L2H.PinOk outer H s (a, oe) →
    Env0 P w K mg base A outer s H → BindsTo s fd args (ps.zip us) → Vals vs us → sp vs H Q E → codeAny (model P w) A (.call (.ref f) args) (CR CX outer P w H s Q E) s
/-- what its body must read as -/
def BodyP (P : Program) (w : World) (K : PySem.W.Frag) (mg : Str → Option Value) (base : Heap) (cl : Nat → Addr) (k : Nat) (N : List Str) (qual : Str) (st : Stmt) (f : Addr) (a dx : Addr) (c : Nat) (u : FS) : Prop :=
  ∀ (cdv : Value) (A : Around) (outer : List PySem.Env) (s : Shared) (H : Hp) (E : XK) (oe : Obj), L2H.RoomH k (A.deeper (envOfC qual (defScope st) s.heap.objs.size f cdv)) →
    Cau (L2H.cxH (L2.CX P w) P w K mg base N qual (defScope st) f cdv A outer s H E (a, oe)) cl a dx c →
    Takes (L2H.cxH (L2.CX P w) P w K mg base N qual (defScope st) f cdv A outer s H E (a, oe)) (fun c d _ H => E c d H) →
    SSs (L2H.cxH (L2.CX P w) P w K mg base N qual (defScope st) f cdv A outer s H E (a, oe)) cl (fun c d _ H => E c d H) (defBody st) u
theorem fn_okP {x qual : Str} {st : Stmt} {f : Addr} {fd : FuncData} {N ps : List Str} {k : Nat} {a dx : Addr} {c : Nat} {u : FS} (F : Fun K x qual st f fd) (S : FnScope N ps (defScope st)) (h : BodyP P w K mg base cl k N qual st f a dx c u) :
    FnP P w K mg base cl (L2.CX P w) (k + 1) f fd ps a dx c (spOf K cl ps.length (runB ps.length N.length u)) := by
  obtain ⟨oc, od, kV, doc, pm, an, cdv, ct, osl, rfl, lk, hcd⟩ := F.ex
  refine ⟨fun vs H Q E h => h.1, fun A outer s H args us vs Q E oe hr hz hv hpin e0 hb r hsp => ?_⟩
  have KX : K.In s.heap := e0.mod.kin.keeps fun b o e => (e0.bs b o e).1
  have lim : s.heap.NoLimit := e0.mod.nolimit.keeps fun b o e => (e0.bs b o e).1
  have hkind : ∀ y ∈ ps.zip us, (defScope st).names.lookup y.1 = some .local ∨ ((defScope st).names.lookup y.1 = some .cell ∧ ((cellsFrom (s.heap.objs.size + 1) (defScope st).names []).lookup y.1).isSome = true) := fun y hy => by
    rcases S.par y.1 (List.of_mem_zip (a := y.1) (b := y.2) hy).1 with q | q
    · exact .inl q
    · exact .inr ⟨q, PySem.W.cellsFrom_some _ _ _ (.inl q)⟩
  refine codeAny_call_function hr.depth (KX _ _ lk) rfl S.co S.gen rfl (PySem.W.codeRec_of KX hcd) (hb _ _ _ _ ?_)
  refine wpAny_newFunctionEnv_cells S.kind hkind fun env he s1 x => ?_
  subst he
  refine ⟨lim.keeps x.toInCall.keep, codeAny_func ?_⟩
  obtain ⟨hl, m, ds, st1, rd, hS, q⟩ := hsp
  have I : Inv (L2H.cxH (L2.CX P w) P w K mg base N qual (defScope st) f cdv A outer s H E (a, oe)) [] (L2.start N vs) H s1 := L2H.inv_startH S hpin e0 hl r x
  have hd : ds.length = ps.length := rd.len.symm.trans hl
  have C : Cau (L2H.cxH (L2.CX P w) P w K mg base N qual (defScope st) f cdv A outer s H E (a, oe)) cl a dx c := ⟨oe, List.mem_cons_self, hz, hv⟩
  refine wpAny_mono ((h cdv A outer s H E oe (hr.deeper _) C (takes_of rfl rfl rfl rfl)).run [] s1 (L2.start N vs) H { nx := fun _ H' => Q .non H', rt := Q } I ⟨m, _, st1, re_start N rd, hS, ?_⟩) (fun fl s' hs => ?_) fun e s' hs => hs
  · unfold runB at q
    rw [if_pos hd] at q
    rw [hd]
    generalize u (ds.map some ++ List.replicate (N.length - ps.length) none) st1 = z at q ⊢
    cases z with
    | nx env s => exact fun σ' H' m' g s' r => q .non H' m' g s' .non
    | rt d s => exact q
    | exc x env s => exact fun c dd σ' H' m' g s' _ r => q c dd H' m' g s' r
    | bk env s => exact q.elim
    | ct env s => exact q.elim
    | bad => exact q.elim
  · have fin : ∀ {σ' : L2.St} {H' : Hp} {v : V} {u : Value}, Inv (L2H.cxH (L2.CX P w) P w K mg base N qual (defScope st) f cdv A outer s H E (a, oe)) [] σ' H' s' → RelV v u → Q v H' → CE outer P w H s Q u s' :=
      fun {σ' H' v u} J rv q => ⟨v, H', J.os, J.bare, J.base, J.hok, rv, q⟩
    cases fl with
    | ret u =>
      obtain ⟨v, σ', H', J, rv, q⟩ := hs
      exact fin J rv q
    | next =>
      obtain ⟨σ', H', J, q⟩ := hs
      exact fin (v := V.non) (u := Value.none) J rfl q
    | brk =>
      obtain ⟨_, _, _, q⟩ := hs
      exact False.elim q
    | cont =>
      obtain ⟨_, _, _, q⟩ := hs
      exact False.elim q
/-- the module's name x is a def of n parameters that does F where an exception is handled -/
structure Fp (P : Program) (w : World) (K : PySem.W.Frag) (mg : Str → Option Value) (base : Heap) (cl : Nat → Addr) (k : Nat) (x : Str) (n a dx c : Nat) (F : FD) : Prop where
  ar : ∀ ds st, ds.length ≠ n → F ds st = .bad
  ok : ∃ f fd ps, mg x = some (.ref f) ∧ PySem.W.keepIn K (.ref f) = true ∧ Binds K fd ps [] ∧ FnP P w K mg base cl (L2.CX P w) k f fd ps a dx c (spOf K cl n F)
end
section
variable {X : Cx} {cl : Nat → Addr} {W : WX} {e : Expr} {es : List Expr} {fa : FA} {pos : Pos}
theorem run_fnP {k : Nat} {f : Addr} {fd : FuncData} {ps : List Str} {sp : Sp} {E : L2.St → XK} {CX : CXT} {a dx : Addr} {c : Nat} {pins : List (Addr × Obj)} {σ : L2.St} {H : Hp} {s : Shared} {Q : VK} {us : List Value} {vs : List V}
    (F : FnP X.prog X.w X.K X.mg X.base cl CX k f fd ps a dx c sp) (hr : L2H.RoomH k X.A) (C : Cau X cl a dx c) (hb : Binds X.K fd ps []) (hx : PassesAt CX X σ (E σ))
    (I : Inv X pins σ H s) (r : Vals vs us) (h : sp vs H Q (E σ)) : wpAny (model X.prog X.w) X.A (call (.ref f) us) (EP X pins σ Q) X.xe s := by
  obtain ⟨oe, hp, hz, hv⟩ := C.pin
  have hl : us.length = ps.length := by rw [← r.length]; exact F.len _ _ _ _ h
  have b := hb s us I.kIn (by rw [List.append_nil]; exact hl)
  rw [List.append_nil] at b
  obtain ⟨p1, p2, p3, p4, p5⟩ := I.pin (a, oe) (List.mem_append_left _ hp)
  have hpin : L2H.PinOk X.stack H s (a, oe) := ⟨p1, p2, fun hm => (List.mem_cons.mp (I.stkSub a hm)).elim p3 p4, p5⟩
  refine wpAny_call (codeAny_mono (F.run X.A X.stack s H ⟨us, []⟩ us vs Q (E σ) oe hr hz hv hpin I.env0 b r h) fun r s' hq => ?_)
  cases r with
  | error e => exact hx pins H s e s' I hq
  | ok fl =>
    cases fl with
    | ret u => exact I.after hq
    | next => exact False.elim hq
    | brk => exact False.elim hq
    | cont => exact False.elim hq
theorem k_callP {k n : Nat} {a dx c : Nat} {x : Str} {p1 : Pos} {F : FD} (C : Cau X cl a dx c) (F1 : Fp X.prog X.w X.K X.mg X.base cl k x n a dx c F) (hr : L2H.RoomH k X.A) (tk : Takes X W) (ha : SA X cl W (e :: es) fa) (hg : Gl X x := by rfl)
    (hdb : (x == ("__debug__" : Str)) = false := by decide) (he : starEach (e :: es) X.env = (false, eval e X.env) :: starEach es X.env := by rfl) (hpl : (backTo pos (starEach es X.env)).any (·.1) = false := by rfl) :
    SE X cl W (.Call (.Name x p1) (e :: es) [] pos) (bCall F fa) := by
  obtain ⟨f, fd, ps, hm, hk, hb, G⟩ := F1.ok
  refine ⟨fun pins s σ H Q I ⟨m, env, st, hE, hS, h⟩ => ?_⟩
  refine Call_ (ld_glob I hg hm ?_ hdb)
  refine PySem.W.callWith_K (h₀ := X.base) I.ok.mod.kin hk (thn (ha.run pos pins s σ H (fun vs H1 => spOf X.K cl n F vs H1 Q (fun c d H' => W c d σ H')) I ⟨m, env, st, hE, hS, snd_bind h fun ds st1 vs H1 m1 g1 s1 r1 h1 => ?_⟩) fun us s1 ⟨vs, H1, I1, r, q⟩ => ⟨I1.kIn, ?_⟩) he hpl
  · exact ⟨by rw [r1.len]; exact arOf F1.ar h1, m1, ds, st1, r1, s1, h1⟩
  · exact run_fnP (E := WE W) G hr C hb (passAt tk σ) I1 r q
end
end Kc

namespace Kc
open PySem PySem.Spec PyProof.Rows L2
/-! ### __init__ of an own error with one field: super().__init__(text); self.f = x -/
section
variable {P : Program} {w : World} {K : PySem.W.Frag} {mg : Str → Option Value} {base : Heap}
theorem init1 {k : Nat} {f C cc cda : Addr} {name qual fx px : Str} {params : Arguments} {body : List Stmt} {scope : Scope} {doc pm ct oc : Value} {an od : Option Addr} {osl : Array (Option Value)} {pl : Sem Bool} {msg : Str} {j : Nat} {p0 p1 p2 p3 p4 p5 q1 q2 q3 q4 : Pos}
    (T : SupC P K mg C cc f cda (PySem.W.ksFn name qual params body scope .none .none doc pm an (.ref cda) ct cc)) (lk : K.lookup f = some ⟨oc, od, .func (PySem.W.ksFn name qual params body scope .none .none doc pm an (.ref cda) ct cc), osl⟩) (hcd : PySem.W.codeIn K (.ref cda) qual = true)
    (hno : PySem.W.findIn K (.ref C) fx = some none)
    (S : NdefX.NScope ["self", px, "__class__"] ["self", px] ["__class__"] scope) (hk1 : scope.names.lookup ("super" : Str) = some .globalImplicit)
    (hb : body = [.Expr (.Call (.Attribute (.Call (.Name "super" p0) [] [] p1) "__init__" p2) [.Constant (.str msg) j p3] [] p4) p5, .Assign [.Attribute (.Name "self" q1) fx q2] (.Name px q3) q4])
    (he : ∀ L : Addr, eval (.Call (.Attribute (.Call (.Name "super" p0) [] [] p1) "__init__" p2) [.Constant (.str msg) j p3] [] p4) (NdefX.envF (nfS name qual params body scope cc cda) f L) = (do
      let ov ← attributeBase (.Call (.Name "super" p0) [] [] p1) "__init__" (NdefX.envF (nfS name qual params body scope cc cda) f L) (eval (.Call (.Name "super" p0) [] [] p1) (NdefX.envF (nfS name qual params body scope cc cda) f L))
      standAt p2.atName
      let (g, first) ← holding [ov] (getMethod ov "__init__" pl)
      callWith p4 g first (backTo p4 (starEach [.Constant (.str msg) j p3] (NdefX.envF (nfS name qual params body scope cc cda) f L))) []))
    (hsw : ∀ L : Addr, swapsWith (.Call (.Attribute (.Call (.Name "super" p0) [] [] p1) "__init__" p2) [.Constant (.str msg) j p3] [] p4) none p5.line (NdefX.envF (nfS name qual params body scope cc cda) f L) = pure false)
    (hst : ∀ L : Addr, starEach [.Constant (.str msg) j p3] (NdefX.envF (nfS name qual params body scope cc cda) f L) = (false, eval (.Constant (.str msg) j p3) (NdefX.envF (nfS name qual params body scope cc cda) f L)) :: starEach [] (NdefX.envF (nfS name qual params body scope cc cda) f L))
    (hpn : ∀ L : Addr, (backTo p4 (starEach [.Constant (.str msg) j p3] (NdefX.envF (nfS name qual params body scope cc cda) f L))).any (·.1) = false)
    (hsw2 : ∀ L : Addr, swapsWith (.Name px q3) (some (.Attribute (.Name "self" q1) fx q2)) q4.line (NdefX.envF (nfS name qual params body scope cc cda) f L) = pure false)
    (hd : (px == ("__debug__" : Str)) = false := by decide) (hcdn : (px == ("__classdict__" : Str)) = false := by decide) :
    FnOk P w K mg base (L2.CX P w) (k + 1) f (PySem.W.ksFn name qual params body scope .none .none doc pm an (.ref cda) ct cc) ["self", px] (spX C 1 [(fx, 0)]) := by
  refine fnS_of (N := ["self", px, "__class__"]) (ps := [px]) T lk hcd S hk1 hb (fun vs H Q E ⟨x, ys, e, l, _⟩ => by rw [e]; simp [l]) (fun vs H Q E ⟨x, ys, e, l, h, _⟩ => ⟨x, ys, e, h⟩) he hsw hst hpn fun A outer s H vs Q E hr ⟨x, ys, e, l, hx, q⟩ => ?_
  subst e
  obtain ⟨y, rfl⟩ : ∃ y, ys = [y] := by
    match ys, l with
    | [y], _ => exact ⟨y, rfl⟩
  refine ⟨_, pss_one (ps_ost (pe_var (i := 0) (x := "self") rfl (.inl (S.par _ List.mem_cons_self))) (pe_var (i := 1) (x := px) rfl (.inl (S.par _ (List.mem_cons_of_mem _ List.mem_cons_self))) hd hcdn) (hsw2 _)), ?_⟩
  refine ⟨y, rfl, .ref x, rfl, x, C, rfl, T.ox, hno, .inl ⟨hx, fun dx h1 h2 => ?_⟩⟩
  refine q dx _ h1 h2 upd_same ?_ fun b hb1 hb2 => ?_
  · rw [upd_ne h2, upd_same]
    rfl
  · rw [upd_ne hb1, upd_ne hb2]
end
end Kc

namespace Kw
open PySem PySem.Spec PyProof.Rows L2 Kc
def topS (i : Nat) : Stmt := PySem.Challenge.pw_bytescribe_k21_steps_applied.main.body.getD i (.Pass ⟨0, 0, 0, 0⟩)
abbrev s_BadSteps___init__ : Stmt := inClass (topS 4) 0
theorem sc_BadSteps___init__ : NdefX.NScope ["self", "index", "__class__"] ["self", "index"] ["__class__"] (defScope s_BadSteps___init__) := ⟨rfl, rfl, rfl, by decide +kernel, rfl, by decide +kernel, by decide +kernel, by decide +kernel, by decide +kernel⟩
def xin (c : Nat) : Bool := c == 3
def kt_ScribeError (c : Nat) : Option Bool := if c = 3 then some true else none
theorem xin_ScribeError (c : Nat) (h : kt_ScribeError c = some true) : xin c = true := by unfold kt_ScribeError at h; unfold xin; (split at h; (rename_i e; subst e; rfl); cases h)
def kt_ValueError (c : Nat) : Option Bool := if c = 3 then some true else none
theorem xin_ValueError (c : Nat) (h : kt_ValueError c = some true) : xin c = true := by unfold kt_ValueError at h; unfold xin; (split at h; (rename_i e; subst e; rfl); cases h)
def kt_Refused (c : Nat) : Option Bool := if c = 3 then some false else none
theorem xin_Refused (c : Nat) (h : kt_Refused c = some true) : xin c = true := by unfold kt_Refused at h; unfold xin; (split at h; (rename_i e; subst e; rfl); cases h)
def kt_NoText (c : Nat) : Option Bool := if c = 3 then some false else none
theorem xin_NoText (c : Nat) (h : kt_NoText c = some true) : xin c = true := by unfold kt_NoText at h; unfold xin; (split at h; (rename_i e; subst e; rfl); cases h)
def kt_TooFar (c : Nat) : Option Bool := if c = 3 then some false else none
theorem xin_TooFar (c : Nat) (h : kt_TooFar c = some true) : xin c = true := by unfold kt_TooFar at h; unfold xin; (split at h; (rename_i e; subst e; rfl); cases h)
def kt_BadNotation (c : Nat) : Option Bool := if c = 3 then some false else none
theorem xin_BadNotation (c : Nat) (h : kt_BadNotation c = some true) : xin c = true := by unfold kt_BadNotation at h; unfold xin; (split at h; (rename_i e; subst e; rfl); cases h)
def kt_BadSteps (c : Nat) : Option Bool := if c = 3 then some true else none
theorem xin_BadSteps (c : Nat) (h : kt_BadSteps c = some true) : xin c = true := by unfold kt_BadSteps at h; unfold xin; (split at h; (rename_i e; subst e; rfl); cases h)
structure Txt (K : PySem.W.Frag) (mg : Str → Option Value) (cl : Nat → Addr) : Prop where
  len : mg "len" = none
  list : mg "list" = none
  range : mg "range" = none
  tuple : mg "tuple" = none
  isinstance : mg "isinstance" = none
  int : mg "int" = none
  bool : mg "bool" = none
  ValueError : mg "ValueError" = none
  enumerate : mg "enumerate" = none
  exc : ∀ c, xin c = true → ExcC K (cl c)
  xf : ∀ c, xin c = true → XfC K (cl c)
  xno_index : ∀ c, xin c = true → PySem.W.findIn K (.ref (cl c)) "index" = some none
  kit_ScribeError : ∀ c b, kt_ScribeError c = some b → PySem.W.kitOne K (.ref (cl c)) (.ref (cl 0)) = some b
  exm_ScribeError : ∀ c b, kt_ScribeError c = some b → PySem.W.exmOne K (.ref (cl c)) (.ref (cl 0)) = some b
  nam_ScribeError : mg "ScribeError" = some (.ref (cl 0))
  kit_ValueError : ∀ c b, kt_ValueError c = some b → PySem.W.kitOne K (.ref (cl c)) (.type "ValueError") = some b
  kit_Refused : ∀ c b, kt_Refused c = some b → PySem.W.kitOne K (.ref (cl c)) (.ref (cl 1)) = some b
  exm_Refused : ∀ c b, kt_Refused c = some b → PySem.W.exmOne K (.ref (cl c)) (.ref (cl 1)) = some b
  nam_Refused : mg "Refused" = some (.ref (cl 1))
  kit_NoText : ∀ c b, kt_NoText c = some b → PySem.W.kitOne K (.ref (cl c)) (.ref (cl 2)) = some b
  exm_NoText : ∀ c b, kt_NoText c = some b → PySem.W.exmOne K (.ref (cl c)) (.ref (cl 2)) = some b
  nam_NoText : mg "NoText" = some (.ref (cl 2))
  kit_TooFar : ∀ c b, kt_TooFar c = some b → PySem.W.kitOne K (.ref (cl c)) (.ref (cl 4)) = some b
  exm_TooFar : ∀ c b, kt_TooFar c = some b → PySem.W.exmOne K (.ref (cl c)) (.ref (cl 4)) = some b
  nam_TooFar : mg "TooFar" = some (.ref (cl 4))
  kit_BadNotation : ∀ c b, kt_BadNotation c = some b → PySem.W.kitOne K (.ref (cl c)) (.ref (cl 5)) = some b
  exm_BadNotation : ∀ c b, kt_BadNotation c = some b → PySem.W.exmOne K (.ref (cl c)) (.ref (cl 5)) = some b
  nam_BadNotation : mg "BadNotation" = some (.ref (cl 5))
  kit_BadSteps : ∀ c b, kt_BadSteps c = some b → PySem.W.kitOne K (.ref (cl c)) (.ref (cl 3)) = some b
  exm_BadSteps : ∀ c b, kt_BadSteps c = some b → PySem.W.exmOne K (.ref (cl c)) (.ref (cl 3)) = some b
  nam_BadSteps : mg "BadSteps" = some (.ref (cl 3))
theorem tk0 {X : Cx} : Takes X W0 := takes0
section
variable {P : Program} {w : World} {K : PySem.W.Frag} {mg : Str → Option Value} {base : Heap} {cl : Nat → Addr}
abbrev s_cost_of : Stmt := topS 9
def N_cost_of : List Str := ["steps", "step"]
theorem sc_cost_of : FnScope N_cost_of ["steps"] (defScope s_cost_of) := ⟨rfl, rfl, rfl, by decide +kernel, rfl, by decide +kernel, by decide +kernel⟩
def B_cost_of : FS := (sRet (bCall cLen (bCons (bComp (bIter (bVar 0)) [1] (cNm 1) (bBool (bOp dNe (bOp dIx (bVar 1) (bK (.int 0))) (bK (.str "keep")))) (bVar 1)) bNil)))
def F_cost_of : FD := runB 1 2 B_cost_of
set_option maxHeartbeats 4000000 in
theorem ok_cost_of {f : Addr} (T : Txt K mg cl)  : BodyOk P w K mg base cl 0 N_cost_of "cost_of" s_cost_of f B_cost_of := fun cdv A outer s H E hr C => by
  have hu := hr.units
  have hcm : (cxOf (L2.CX P w) P w K mg base N_cost_of "cost_of" (defScope s_cost_of) f cdv A outer s H E).calm = true := rfl
  exact (ks_one (ks_ret (k_bi c_len T.len (k_cons (k_comp (own := [("step", 1)]) rfl C.nd (ki_any (k_var (i := 0))) (blkOk_by (N := N_cost_of) (sc := defScope s_cost_of) (by decide +kernel)) (ct_nm (by decide)) (fun _ _ _ _ _ => pg_name (i := 1) C.nd rfl (Or.inl rfl)) (fun _ _ _ _ _ => (kts_one (kt_cmp (o_ne hu) (k_ix (k_var (i := 1)) k_int) k_str))) (fun _ _ _ _ _ => (k_var (i := 1)))) k_nil))))
abbrev s_law_box : Stmt := topS 11
def N_law_box : List Str := ["script"]
theorem sc_law_box : FnScope N_law_box ["script"] (defScope s_law_box) := ⟨rfl, rfl, rfl, by decide +kernel, rfl, by decide +kernel, by decide +kernel⟩
def B_law_box : FS := (sRet (bLst (bCons (bCall cList (bCons (bSl (bVar 0) bNo (bPart (bK (.int 63)))) bNil)) (bCons (bK (.int 0)) (bCons (bK (.int 0)) (bCons (bOp dAdd (bK (.int 1)) (bOp dMod (bCall cLen (bCons (bVar 0) bNil)) (bK (.int 64)))) (bCons (bK (.int 0)) bNil)))))))
def F_law_box : FD := runB 1 1 B_law_box
set_option maxHeartbeats 4000000 in
theorem ok_law_box {f : Addr} (T : Txt K mg cl)  : BodyOk P w K mg base cl 0 N_law_box "_law_box" s_law_box f B_law_box := fun cdv A outer s H E hr C => by
  have hu := hr.units
  have hcm : (cxOf (L2.CX P w) P w K mg base N_law_box "_law_box" (defScope s_law_box) f cdv A outer s H E).calm = true := rfl
  exact (ks_one (ks_ret (k_lst (k_cons (k_ty c_list T.list (k_cons (k_sl (k_var (i := 0)) k_po0 (k_po k_int)) k_nil)) (k_cons k_int (k_cons k_int (k_cons (k_bin o_add k_int (k_bin o_mod (k_bi c_len T.len (k_cons (k_var (i := 0)) k_nil)) k_int)) (k_cons k_int k_nil))))))))
abbrev s_law_cell : Stmt := topS 12
def N_law_cell : List Str := ["box"]
theorem sc_law_cell : FnScope N_law_cell ["box"] (defScope s_law_cell) := ⟨rfl, rfl, rfl, by decide +kernel, rfl, by decide +kernel, by decide +kernel⟩
def B_law_cell : FS := (sSeq (sIf (bBool (bOp dGe (bOp dIx (bVar 0) (bK (.int 1))) (bCall cLen (bCons (bOp dIx (bVar 0) (bK (.int 0))) bNil)))) (sRet (bK (.int 0))) sNext) (sSeq (sAsg (bOp dAdd (bOp dIx (bVar 0) (bK (.int 1))) (bK (.int 1))) (gIx (bVar 0) (bK (.int 1)))) (sRet (bOp dIx (bOp dIx (bVar 0) (bK (.int 0))) (bOp dSub (bOp dIx (bVar 0) (bK (.int 1))) (bK (.int 1)))))))
def F_law_cell : FD := runB 1 1 B_law_cell
set_option maxHeartbeats 4000000 in
theorem ok_law_cell {f : Addr} (T : Txt K mg cl)  : BodyOk P w K mg base cl 0 N_law_cell "_law_cell" s_law_cell f B_law_cell := fun cdv A outer s H E hr C => by
  have hu := hr.units
  have hcm : (cxOf (L2.CX P w) P w K mg base N_law_cell "_law_cell" (defScope s_law_cell) f cdv A outer s H E).calm = true := rfl
  exact (ks_cons (ks_if (kt_cmp o_ge (k_ix (k_var (i := 0)) k_int) (k_bi c_len T.len (k_cons (k_ix (k_var (i := 0)) k_int) k_nil))) (ks_one (ks_ret k_int)) ks_nil) (ks_cons (ks_asg (k_bin o_add (k_ix (k_var (i := 0)) k_int) k_int) (kg_ix (k_var (i := 0)) k_int)) (ks_one (ks_ret (k_ix (k_ix (k_var (i := 0)) k_int) (k_bin o_sub (k_ix (k_var (i := 0)) k_int) k_int))))))
abbrev s_law_due : Stmt := topS 19
def N_law_due : List Str := ["text", "steps", "made", "here", "k", "word"]
theorem sc_law_due : FnScope N_law_due ["text", "steps"] (defScope s_law_due) := ⟨rfl, rfl, rfl, by decide +kernel, rfl, by decide +kernel, by decide +kernel⟩
def B_law_due : FS := (sSeq (sAsg (bLst bNil) (gNm 2)) (sSeq (sAsg (bK (.int 0)) (gNm 3)) (sSeq (sFor (bRng1 (bCall cLen (bCons (bVar 1) bNil))) (gNm 4) (sSeq (sAsg (bOp dIx (bOp dIx (bVar 1) (bVar 4)) (bK (.int 0))) (gNm 5)) (sIf (bBool (bOp dEq (bVar 5) (bK (.str "put")))) (sDrop (bMeth mAppend (bVar 2) (bCons (bOp dIx (bOp dIx (bVar 1) (bVar 4)) (bK (.int 1))) bNil))) (sSeq (sIf (bBool (bOp dEq (bVar 3) (bCall cLen (bCons (bVar 0) bNil)))) (sRet (bTup (bCons (bVar 4) (bCons (bTup bNil) bNil)))) sNext) (sSeq (sIf (bBool (bOp dEq (bVar 5) (bK (.str "keep")))) (sDrop (bMeth mAppend (bVar 2) (bCons (bOp dIx (bVar 0) (bVar 3)) bNil))) sNext) (sSeq (sIf (bBool (bOp dEq (bVar 5) (bK (.str "swap")))) (sDrop (bMeth mAppend (bVar 2) (bCons (bOp dIx (bOp dIx (bVar 1) (bVar 4)) (bK (.int 1))) bNil))) sNext) (sAsg (bOp dAdd (bVar 3) (bK (.int 1))) (gNm 3)))))))) (sSeq (sIf (bBool (bOp dLt (bVar 3) (bCall cLen (bCons (bVar 0) bNil)))) (sRet (bTup (bCons (bCall cLen (bCons (bVar 1) bNil)) (bCons (bTup bNil) bNil)))) sNext) (sRet (bTup (bCons (bUn dNeg (bK (.int 1))) (bCons (bCall cTuple (bCons (bVar 2) bNil)) bNil))))))))
def F_law_due : FD := runB 2 6 B_law_due
set_option maxHeartbeats 4000000 in
theorem ok_law_due {f : Addr} (T : Txt K mg cl)  : BodyOk P w K mg base cl 0 N_law_due "_law_due" s_law_due f B_law_due := fun cdv A outer s H E hr C => by
  have hu := hr.units
  have hcm : (cxOf (L2.CX P w) P w K mg base N_law_due "_law_due" (defScope s_law_due) f cdv A outer s H E).calm = true := rfl
  exact (ks_cons (ks_set (i := 2) C.nd (k_lst k_nil)) (ks_cons (ks_set (i := 3) C.nd k_int) (ks_cons (ks_for C (ki_rng1 T.range (k_bi c_len T.len (k_cons (k_var (i := 1)) k_nil))) (kg_nm (i := 4) C.nd) (ks_cons (ks_set (i := 5) C.nd (k_ix (k_ix (k_var (i := 1)) (k_var (i := 4))) k_int)) (ks_one (ks_if (kt_cmp (o_eq hu) (k_var (i := 5)) k_str) (ks_one (ks_expr (k_bm m_append PySem.F.slot_list_append PySem.F.type_list_append (k_var (i := 2)) (k_cons (k_ix (k_ix (k_var (i := 1)) (k_var (i := 4))) k_int) k_nil)))) (ks_cons (ks_if (kt_cmp (o_eq hu) (k_var (i := 3)) (k_bi c_len T.len (k_cons (k_var (i := 0)) k_nil))) (ks_one (ks_ret (k_tup (k_cons (k_var (i := 4)) (k_cons (k_tup k_nil) k_nil))))) ks_nil) (ks_cons (ks_if (kt_cmp (o_eq hu) (k_var (i := 5)) k_str) (ks_one (ks_expr (k_bm m_append PySem.F.slot_list_append PySem.F.type_list_append (k_var (i := 2)) (k_cons (k_ix (k_var (i := 0)) (k_var (i := 3))) k_nil)))) ks_nil) (ks_cons (ks_if (kt_cmp (o_eq hu) (k_var (i := 5)) k_str) (ks_one (ks_expr (k_bm m_append PySem.F.slot_list_append PySem.F.type_list_append (k_var (i := 2)) (k_cons (k_ix (k_ix (k_var (i := 1)) (k_var (i := 4))) k_int) k_nil)))) ks_nil) (ks_one (ks_set (i := 3) C.nd (k_bin o_add (k_var (i := 3)) k_int)))))))))) (ks_cons (ks_if (kt_cmp o_lt (k_var (i := 3)) (k_bi c_len T.len (k_cons (k_var (i := 0)) k_nil))) (ks_one (ks_ret (k_tup (k_cons (k_bi c_len T.len (k_cons (k_var (i := 1)) k_nil)) (k_cons (k_tup k_nil) k_nil))))) ks_nil) (ks_one (ks_ret (k_tup (k_cons (k_un o_neg k_int) (k_cons (k_ty c_tuple T.tuple (k_cons (k_var (i := 2)) k_nil)) k_nil)))))))))
abbrev s_law_is_integer : Stmt := topS 20
def N_law_is_integer : List Str := ["thing"]
theorem sc_law_is_integer : FnScope N_law_is_integer ["thing"] (defScope s_law_is_integer) := ⟨rfl, rfl, rfl, by decide +kernel, rfl, by decide +kernel, by decide +kernel⟩
def B_law_is_integer : FS := (sRet (bAndV (bIsi "int" (bVar 0)) (bNotV (bIsi "bool" (bVar 0)))))
def F_law_is_integer : FD := runB 1 1 B_law_is_integer
set_option maxHeartbeats 4000000 in
theorem ok_law_is_integer {f : Addr} (T : Txt K mg cl)  : BodyOk P w K mg base cl 0 N_law_is_integer "_law_is_integer" s_law_is_integer f B_law_is_integer := fun cdv A outer s H E hr C => by
  have hu := hr.units
  have hcm : (cxOf (L2.CX P w) P w K mg base N_law_is_integer "_law_is_integer" (defScope s_law_is_integer) f cdv A outer s H E).calm = true := rfl
  exact (ks_one (ks_ret (k_and (k_isi T.isinstance T.int (k_var (i := 0))) (k_one (k_not (k_isi T.isinstance T.bool (k_var (i := 0))))))))
abbrev s_law_alone : Stmt := topS 21
def N_law_alone : List Str := ["error"]
theorem sc_law_alone : FnScope N_law_alone ["error"] (defScope s_law_alone) := ⟨rfl, rfl, rfl, by decide +kernel, rfl, by decide +kernel, by decide +kernel⟩
def B_law_alone (a dx : Addr) (c : Nat) : FS := (sSeq (sIf (bOr (bNot (bTru (bIsE a dx c kt_ScribeError (bVar 0)))) (bNot (bTru (bIsE a dx c kt_ValueError (bVar 0))))) (sRet (bK (.bl false))) sNext) (sSeq (sIf (bOr (bTru (bIsE a dx c kt_Refused (bVar 0))) (bTru (bIsE a dx c kt_NoText (bVar 0)))) (sRet (bK (.bl false))) sNext) (sRet (bAndV (bNotV (bIsE a dx c kt_TooFar (bVar 0))) (bNotV (bIsE a dx c kt_BadNotation (bVar 0)))))))
def F_law_alone (a dx : Addr) (c : Nat) : FD := runB 1 1 (B_law_alone a dx c)
set_option maxHeartbeats 4000000 in
theorem ok_law_alone {f : Addr} {a dx : Addr} {c : Nat} (hx : xin c = true) (T : Txt K mg cl)  : BodyP P w K mg base cl 0 N_law_alone "_law_alone" s_law_alone f a dx c (B_law_alone a dx c) := fun cdv A outer s H E oe hr Cq tk => by
  exact (ks_cons (ks_if (kw_pt (kw_or (kt_not (kt_tru (k_isE Cq (T.exc c hx) (T.kit_ScribeError c) (cv := .ref (cl 0)) (fun u h => h) (pe_glob rfl T.nam_ScribeError rfl) T.isinstance (k_var (i := 0))))) (kw_or1 (kt_not (kt_tru (k_isE Cq (T.exc c hx) (T.kit_ValueError c) (cv := .ty "ValueError") (fun u h => h) (pe_bltn rfl T.ValueError (by decide +kernel) rfl) T.isinstance (k_var (i := 0)))))))) (ks_one (ks_ret k_bl)) ks_nil) (ks_cons (ks_if (kw_pt (kw_or (kt_tru (k_isE Cq (T.exc c hx) (T.kit_Refused c) (cv := .ref (cl 1)) (fun u h => h) (pe_glob rfl T.nam_Refused rfl) T.isinstance (k_var (i := 0)))) (kw_or1 (kt_tru (k_isE Cq (T.exc c hx) (T.kit_NoText c) (cv := .ref (cl 2)) (fun u h => h) (pe_glob rfl T.nam_NoText rfl) T.isinstance (k_var (i := 0))))))) (ks_one (ks_ret k_bl)) ks_nil) (ks_one (ks_ret (k_and (k_not (k_isE Cq (T.exc c hx) (T.kit_TooFar c) (cv := .ref (cl 4)) (fun u h => h) (pe_glob rfl T.nam_TooFar rfl) T.isinstance (k_var (i := 0)))) (k_one (k_not (k_isE Cq (T.exc c hx) (T.kit_BadNotation c) (cv := .ref (cl 5)) (fun u h => h) (pe_glob rfl T.nam_BadNotation rfl) T.isinstance (k_var (i := 0))))))))))
abbrev s_law_draw : Stmt := topS 13
def N_law_draw : List Str := ["box", "many", "cell", "twice", "digit"]
theorem sc_law_draw : FnScope N_law_draw ["box", "many"] (defScope s_law_draw) := ⟨rfl, rfl, rfl, by decide +kernel, rfl, by decide +kernel, by decide +kernel⟩
def B_law_draw : FS := (sSeq (sIf (bBool (bOp dLe (bOp dIx (bVar 0) (bK (.int 2))) (bK (.int 1)))) (sSeq (sAsg (bCall F_law_cell (bCons (bVar 0) bNil)) (gNm 2)) (sSeq (sIf (bBool (bOp dLt (bVar 2) (bOp dPow (bK (.int 10)) (bK (.int 18))))) (sSeq (sAsg (bOp dAdd (bOp dIx (bVar 0) (bK (.int 4))) (bK (.int 1))) (gIx (bVar 0) (bK (.int 4)))) (sSeq (sAsg (bOp dMod (bOp dAdd (bOp dAdd (bOp dMul (bOp dIx (bVar 0) (bK (.int 3))) (bK (.int 48271))) (bOp dMul (bOp dMod (bCall cInt (bCons (bVar 2) bNil)) (bK (.int 1000003))) (bK (.int 69621)))) (bOp dIx (bVar 0) (bK (.int 4)))) (bK (.int 2147483647))) (gIx (bVar 0) (bK (.int 3)))) (sSeq (sAsg (bOp dMod (bOp dAdd (bOp dAdd (bOp dMul (bOp dFdv (bOp dIx (bVar 0) (bK (.int 3))) (bK (.int 3))) (bK (.int 39373))) (bOp dMul (bOp dIx (bVar 0) (bK (.int 4))) (bK (.int 40692)))) (bK (.int 1013))) (bK (.int 2147483399))) (gNm 3)) (sRet (bOp dMod (bVar 3) (bVar 1)))))) sNext) (sAsg (bVar 2) (gIx (bVar 0) (bK (.int 2)))))) sNext) (sSeq (sAsg (bOp dMod (bCall cInt (bCons (bOp dIx (bVar 0) (bK (.int 2))) bNil)) (bVar 1)) (gNm 4)) (sSeq (sAsg (bOp dFdv (bOp dIx (bVar 0) (bK (.int 2))) (bVar 1)) (gIx (bVar 0) (bK (.int 2)))) (sRet (bVar 4)))))
def F_law_draw : FD := runB 2 5 B_law_draw
set_option maxHeartbeats 4000000 in
theorem ok_law_draw {f : Addr} (T : Txt K mg cl) (G_law_cell : Fk P w K mg base cl 1 "_law_cell" 1 F_law_cell) : BodyOk P w K mg base cl 1 N_law_draw "_law_draw" s_law_draw f B_law_draw := fun cdv A outer s H E hr C => by
  have hu := hr.units
  have hcm : (cxOf (L2.CX P w) P w K mg base N_law_draw "_law_draw" (defScope s_law_draw) f cdv A outer s H E).calm = true := rfl
  exact (ks_cons (ks_if (kt_cmp o_le (k_ix (k_var (i := 0)) k_int) k_int) (ks_cons (ks_set (i := 2) C.nd (k_call G_law_cell hr C.takes (k_cons (k_var (i := 0)) k_nil))) (ks_cons (ks_if (kt_cmp o_lt (k_var (i := 2)) (k_bin o_pow k_int k_int)) (ks_cons (ks_asg (k_bin o_add (k_ix (k_var (i := 0)) k_int) k_int) (kg_ix (k_var (i := 0)) k_int)) (ks_cons (ks_asg (k_bin o_mod (k_bin o_add (k_bin o_add (k_bin o_mul (k_ix (k_var (i := 0)) k_int) k_int) (k_bin o_mul (k_bin o_mod (k_ty c_int T.int (k_cons (k_var (i := 2)) k_nil)) k_int) k_int)) (k_ix (k_var (i := 0)) k_int)) k_int) (kg_ix (k_var (i := 0)) k_int)) (ks_cons (ks_set (i := 3) C.nd (k_bin o_mod (k_bin o_add (k_bin o_add (k_bin o_mul (k_bin o_fdv (k_ix (k_var (i := 0)) k_int) k_int) k_int) (k_bin o_mul (k_ix (k_var (i := 0)) k_int) k_int)) k_int) k_int)) (ks_one (ks_ret (k_bin o_mod (k_var (i := 3)) (k_var (i := 1)))))))) ks_nil) (ks_one (ks_asg (k_var (i := 2)) (kg_ix (k_var (i := 0)) k_int))))) ks_nil) (ks_cons (ks_set (i := 4) C.nd (k_bin o_mod (k_ty c_int T.int (k_cons (k_ix (k_var (i := 0)) k_int) k_nil)) (k_var (i := 1)))) (ks_cons (ks_asg (k_bin o_fdv (k_ix (k_var (i := 0)) k_int) (k_var (i := 1))) (kg_ix (k_var (i := 0)) k_int)) (ks_one (ks_ret (k_var (i := 4)))))))
abbrev s_apply_steps : Stmt := topS 8
def N_apply_steps : List Str := ["text", "steps", "made", "at", "index", "step"]
theorem sc_apply_steps : FnScope N_apply_steps ["text", "steps"] (defScope s_apply_steps) := ⟨rfl, rfl, rfl, by decide +kernel, rfl, by decide +kernel, by decide +kernel⟩
def B_apply_steps : FS := (sSeq (sAsg (bLst bNil) (gNm 2)) (sSeq (sAsg (bK (.int 0)) (gNm 3)) (sSeq (sFor (bEnum (bVar 1)) (gTp [4, 5]) (sSeq (sIf (bAnd (bBool (bOp dNe (bOp dIx (bVar 5) (bK (.int 0))) (bK (.str "put")))) (bBool (bOp dGe (bVar 3) (bCall cLen (bCons (bVar 0) bNil))))) (sRaise 3 1 [("index", 0)] (bCons (bVar 4) bNil)) sNext) (sSeq (sIf (bBool (bOp dEq (bOp dIx (bVar 5) (bK (.int 0))) (bK (.str "keep")))) (sDrop (bMeth mAppend (bVar 2) (bCons (bOp dIx (bVar 0) (bVar 3)) bNil))) (sIf (bBool (bOp dNe (bOp dIx (bVar 5) (bK (.int 0))) (bK (.str "drop")))) (sDrop (bMeth mAppend (bVar 2) (bCons (bOp dIx (bVar 5) (bK (.int 1))) bNil))) sNext)) (sIf (bBool (bOp dNe (bOp dIx (bVar 5) (bK (.int 0))) (bK (.str "put")))) (sAsg (bOp dAdd (bVar 3) (bK (.int 1))) (gNm 3)) sNext)))) (sSeq (sIf (bBool (bOp dLt (bVar 3) (bCall cLen (bCons (bVar 0) bNil)))) (sRaise 3 1 [("index", 0)] (bCons (bCall cLen (bCons (bVar 1) bNil)) bNil)) sNext) (sRet (bCall cTuple (bCons (bVar 2) bNil)))))))
def F_apply_steps : FD := runB 2 6 B_apply_steps
set_option maxHeartbeats 4000000 in
theorem ok_apply_steps {f : Addr} (T : Txt K mg cl) (X_BadSteps : Xk P w K mg base cl 1 3 "BadSteps" 1 [("index", 0)]) : BodyOk P w K mg base cl 2 N_apply_steps "apply_steps" s_apply_steps f B_apply_steps := fun cdv A outer s H E hr C => by
  have hu := hr.units
  have hcm : (cxOf (L2.CX P w) P w K mg base N_apply_steps "apply_steps" (defScope s_apply_steps) f cdv A outer s H E).calm = true := rfl
  exact (ks_cons (ks_set (i := 2) C.nd (k_lst k_nil)) (ks_cons (ks_set (i := 3) C.nd k_int) (ks_cons (ks_for C (ki_enum T.enumerate (k_var (i := 1))) (kg_tup rfl (kg_cons (i := 4) C.nd (kg_cons (i := 5) C.nd kg_nil))) (ks_cons (ks_if (kw_pt (kw_and (kt_cmp (o_ne hu) (k_ix (k_var (i := 5)) k_int) k_str) (kw_and1 (kt_cmp o_ge (k_var (i := 3)) (k_bi c_len T.len (k_cons (k_var (i := 0)) k_nil)))))) (ks_one (ks_raise X_BadSteps (hr.mono (by decide)) hcm C.takes (passes_call C.takes fun _ _ _ _ z => z.elim) (k_cons (k_var (i := 4)) k_nil))) ks_nil) (ks_cons (ks_if (kt_cmp (o_eq hu) (k_ix (k_var (i := 5)) k_int) k_str) (ks_one (ks_expr (k_bm m_append PySem.F.slot_list_append PySem.F.type_list_append (k_var (i := 2)) (k_cons (k_ix (k_var (i := 0)) (k_var (i := 3))) k_nil)))) (ks_one (ks_if (kt_cmp (o_ne hu) (k_ix (k_var (i := 5)) k_int) k_str) (ks_one (ks_expr (k_bm m_append PySem.F.slot_list_append PySem.F.type_list_append (k_var (i := 2)) (k_cons (k_ix (k_var (i := 5)) k_int) k_nil)))) ks_nil))) (ks_one (ks_if (kt_cmp (o_ne hu) (k_ix (k_var (i := 5)) k_int) k_str) (ks_one (ks_set (i := 3) C.nd (k_bin o_add (k_var (i := 3)) k_int))) ks_nil))))) (ks_cons (ks_if (kt_cmp o_lt (k_var (i := 3)) (k_bi c_len T.len (k_cons (k_var (i := 0)) k_nil))) (ks_one (ks_raise X_BadSteps (hr.mono (by decide)) hcm C.takes (passes_call C.takes fun _ _ _ _ z => z.elim) (k_cons (k_bi c_len T.len (k_cons (k_var (i := 1)) k_nil)) k_nil))) ks_nil) (ks_one (ks_ret (k_ty c_tuple T.tuple (k_cons (k_var (i := 2)) k_nil))))))))
abbrev s_law_text : Stmt := topS 14
def N_law_text : List Str := ["box", "text", "k"]
theorem sc_law_text : FnScope N_law_text ["box"] (defScope s_law_text) := ⟨rfl, rfl, rfl, by decide +kernel, rfl, by decide +kernel, by decide +kernel⟩
def B_law_text : FS := (sSeq (sAsg (bLst bNil) (gNm 1)) (sSeq (sFor (bRng1 (bCall F_law_draw (bCons (bVar 0) (bCons (bK (.int 41)) bNil)))) (gNm 2) (sDrop (bMeth mAppend (bVar 1) (bCons (bCall F_law_draw (bCons (bVar 0) (bCons (bK (.int 256)) bNil))) bNil)))) (sSeq (sIf (bBool (bOp dEq (bCall F_law_draw (bCons (bVar 0) (bCons (bK (.int 8)) bNil))) (bK (.int 1)))) (sAsg (bOp dMul (bVar 1) (bOp dAdd (bK (.int 1)) (bCall F_law_draw (bCons (bVar 0) (bCons (bK (.int 10)) bNil))))) (gNm 1)) sNext) (sRet (bCall cTuple (bCons (bVar 1) bNil))))))
def F_law_text : FD := runB 1 3 B_law_text
set_option maxHeartbeats 4000000 in
theorem ok_law_text {f : Addr} (T : Txt K mg cl) (G_law_draw : Fk P w K mg base cl 2 "_law_draw" 2 F_law_draw) : BodyOk P w K mg base cl 2 N_law_text "_law_text" s_law_text f B_law_text := fun cdv A outer s H E hr C => by
  have hu := hr.units
  have hcm : (cxOf (L2.CX P w) P w K mg base N_law_text "_law_text" (defScope s_law_text) f cdv A outer s H E).calm = true := rfl
  exact (ks_cons (ks_set (i := 1) C.nd (k_lst k_nil)) (ks_cons (ks_for C (ki_rng1 T.range (k_call G_law_draw hr C.takes (k_cons (k_var (i := 0)) (k_cons k_int k_nil)))) (kg_nm (i := 2) C.nd) (ks_one (ks_expr (k_bm m_append PySem.F.slot_list_append PySem.F.type_list_append (k_var (i := 1)) (k_cons (k_call G_law_draw hr C.takes (k_cons (k_var (i := 0)) (k_cons k_int k_nil))) k_nil))))) (ks_cons (ks_if (kt_cmp (o_eq hu) (k_call G_law_draw hr C.takes (k_cons (k_var (i := 0)) (k_cons k_int k_nil))) k_int) (ks_one (ks_set (i := 1) C.nd (k_bin o_mul (k_var (i := 1)) (k_bin o_add k_int (k_call G_law_draw hr C.takes (k_cons (k_var (i := 0)) (k_cons k_int k_nil))))))) ks_nil) (ks_one (ks_ret (k_ty c_tuple T.tuple (k_cons (k_var (i := 1)) k_nil)))))))
abbrev s_law_taking : Stmt := topS 15
def N_law_taking : List Str := ["box", "byte", "kind"]
theorem sc_law_taking : FnScope N_law_taking ["box", "byte"] (defScope s_law_taking) := ⟨rfl, rfl, rfl, by decide +kernel, rfl, by decide +kernel, by decide +kernel⟩
def B_law_taking : FS := (sSeq (sAsg (bCall F_law_draw (bCons (bVar 0) (bCons (bK (.int 6)) bNil))) (gNm 2)) (sSeq (sIf (bBool (bOp dLt (bVar 2) (bK (.int 2)))) (sRet (bTup (bCons (bK (.str "keep")) bNil))) sNext) (sSeq (sIf (bBool (bOp dEq (bVar 2) (bK (.int 2)))) (sRet (bTup (bCons (bK (.str "drop")) bNil))) sNext) (sSeq (sIf (bBool (bOp dEq (bCall F_law_draw (bCons (bVar 0) (bCons (bK (.int 4)) bNil))) (bK (.int 1)))) (sRet (bTup (bCons (bK (.str "swap")) (bCons (bVar 1) bNil)))) sNext) (sRet (bTup (bCons (bK (.str "swap")) (bCons (bCall F_law_draw (bCons (bVar 0) (bCons (bK (.int 256)) bNil))) bNil))))))))
def F_law_taking : FD := runB 2 3 B_law_taking
set_option maxHeartbeats 4000000 in
theorem ok_law_taking {f : Addr} (T : Txt K mg cl) (G_law_draw : Fk P w K mg base cl 2 "_law_draw" 2 F_law_draw) : BodyOk P w K mg base cl 2 N_law_taking "_law_taking" s_law_taking f B_law_taking := fun cdv A outer s H E hr C => by
  have hu := hr.units
  have hcm : (cxOf (L2.CX P w) P w K mg base N_law_taking "_law_taking" (defScope s_law_taking) f cdv A outer s H E).calm = true := rfl
  exact (ks_cons (ks_set (i := 2) C.nd (k_call G_law_draw hr C.takes (k_cons (k_var (i := 0)) (k_cons k_int k_nil)))) (ks_cons (ks_if (kt_cmp o_lt (k_var (i := 2)) k_int) (ks_one (ks_ret (k_tup (k_cons k_str k_nil)))) ks_nil) (ks_cons (ks_if (kt_cmp (o_eq hu) (k_var (i := 2)) k_int) (ks_one (ks_ret (k_tup (k_cons k_str k_nil)))) ks_nil) (ks_cons (ks_if (kt_cmp (o_eq hu) (k_call G_law_draw hr C.takes (k_cons (k_var (i := 0)) (k_cons k_int k_nil))) k_int) (ks_one (ks_ret (k_tup (k_cons k_str (k_cons (k_var (i := 1)) k_nil))))) ks_nil) (ks_one (ks_ret (k_tup (k_cons k_str (k_cons (k_call G_law_draw hr C.takes (k_cons (k_var (i := 0)) (k_cons k_int k_nil))) k_nil)))))))))
abbrev s_law_fitting : Stmt := topS 16
def N_law_fitting : List Str := ["box", "text", "steps", "byte", "k"]
theorem sc_law_fitting : FnScope N_law_fitting ["box", "text"] (defScope s_law_fitting) := ⟨rfl, rfl, rfl, by decide +kernel, rfl, by decide +kernel, by decide +kernel⟩
def B_law_fitting : FS := (sSeq (sAsg (bLst bNil) (gNm 2)) (sSeq (sFor (bIter (bVar 1)) (gNm 3) (sSeq (sIf (bBool (bOp dEq (bCall F_law_draw (bCons (bVar 0) (bCons (bK (.int 3)) bNil))) (bK (.int 1)))) (sDrop (bMeth mAppend (bVar 2) (bCons (bTup (bCons (bK (.str "put")) (bCons (bCall F_law_draw (bCons (bVar 0) (bCons (bK (.int 256)) bNil))) bNil))) bNil))) sNext) (sDrop (bMeth mAppend (bVar 2) (bCons (bCall F_law_taking (bCons (bVar 0) (bCons (bVar 3) bNil))) bNil))))) (sSeq (sFor (bRng1 (bCall F_law_draw (bCons (bVar 0) (bCons (bK (.int 3)) bNil)))) (gNm 4) (sDrop (bMeth mAppend (bVar 2) (bCons (bTup (bCons (bK (.str "put")) (bCons (bCall F_law_draw (bCons (bVar 0) (bCons (bK (.int 256)) bNil))) bNil))) bNil)))) (sRet (bVar 2)))))
def F_law_fitting : FD := runB 2 5 B_law_fitting
set_option maxHeartbeats 4000000 in
theorem ok_law_fitting {f : Addr} (T : Txt K mg cl) (G_law_draw : Fk P w K mg base cl 2 "_law_draw" 2 F_law_draw) (G_law_taking : Fk P w K mg base cl 3 "_law_taking" 2 F_law_taking) : BodyOk P w K mg base cl 3 N_law_fitting "_law_fitting" s_law_fitting f B_law_fitting := fun cdv A outer s H E hr C => by
  have hu := hr.units
  have hcm : (cxOf (L2.CX P w) P w K mg base N_law_fitting "_law_fitting" (defScope s_law_fitting) f cdv A outer s H E).calm = true := rfl
  exact (ks_cons (ks_set (i := 2) C.nd (k_lst k_nil)) (ks_cons (ks_for C (ki_any (k_var (i := 1))) (kg_nm (i := 3) C.nd) (ks_cons (ks_if (kt_cmp (o_eq hu) (k_call G_law_draw (hr.mono (by decide)) C.takes (k_cons (k_var (i := 0)) (k_cons k_int k_nil))) k_int) (ks_one (ks_expr (k_bm m_append PySem.F.slot_list_append PySem.F.type_list_append (k_var (i := 2)) (k_cons (k_tup (k_cons k_str (k_cons (k_call G_law_draw (hr.mono (by decide)) C.takes (k_cons (k_var (i := 0)) (k_cons k_int k_nil))) k_nil))) k_nil)))) ks_nil) (ks_one (ks_expr (k_bm m_append PySem.F.slot_list_append PySem.F.type_list_append (k_var (i := 2)) (k_cons (k_call G_law_taking hr C.takes (k_cons (k_var (i := 0)) (k_cons (k_var (i := 3)) k_nil))) k_nil)))))) (ks_cons (ks_for C (ki_rng1 T.range (k_call G_law_draw (hr.mono (by decide)) C.takes (k_cons (k_var (i := 0)) (k_cons k_int k_nil)))) (kg_nm (i := 4) C.nd) (ks_one (ks_expr (k_bm m_append PySem.F.slot_list_append PySem.F.type_list_append (k_var (i := 2)) (k_cons (k_tup (k_cons k_str (k_cons (k_call G_law_draw (hr.mono (by decide)) C.takes (k_cons (k_var (i := 0)) (k_cons k_int k_nil))) k_nil))) k_nil))))) (ks_one (ks_ret (k_var (i := 2)))))))
abbrev s_law_below_base : Stmt := topS 22
def N_law_below_base : List Str := ["text", "steps", "raised"]
theorem sc_law_below_base : FnScope N_law_below_base ["text", "steps"] (defScope s_law_below_base) := ⟨rfl, rfl, rfl, by decide +kernel, rfl, by decide +kernel, by decide +kernel⟩
noncomputable def B_law_below_base : FS := (sSeq (sTry 2 kt_ScribeError (sDrop (bCall F_apply_steps (bCons (bVar 0) (bCons (bVar 1) bNil)))) (fun a dx c => (sRet (bIsE a dx c kt_BadSteps (bVar 2))))) (sRet (bK (.bl false))))
noncomputable def F_law_below_base : FD := runB 2 3 B_law_below_base
set_option maxHeartbeats 4000000 in
theorem ok_law_below_base {f : Addr} (T : Txt K mg cl) (G_apply_steps : Fk P w K mg base cl 3 "apply_steps" 2 F_apply_steps) : BodyOk P w K mg base cl 3 N_law_below_base "_law_below_base" s_law_below_base f B_law_below_base := fun cdv A outer s H E hr C => by
  have hu := hr.units
  have hcm : (cxOf (L2.CX P w) P w K mg base N_law_below_base "_law_below_base" (defScope s_law_below_base) f cdv A outer s H E).calm = true := rfl
  exact (ks_cons (ks_try (i := 2) C rfl rfl ⟨rfl, by decide, .inl T.nam_ScribeError⟩ T.exm_ScribeError (fun W' pn xe C => (ks_one (ks_expr (k_call G_apply_steps hr C.takes (k_cons (k_var (i := 0)) (k_cons (k_var (i := 1)) k_nil)))))) (fun a dx c pn hb Cq => have hx := xin_ScribeError c hb; (ks_one (ks_ret (k_isE Cq (T.exc c hx) (T.kit_BadSteps c) (cv := .ref (cl 3)) (fun u h => h) (pe_glob rfl T.nam_BadSteps rfl) T.isinstance (k_var (i := 2))))))) (ks_one (ks_ret k_bl)))
abbrev s_law_steps : Stmt := topS 17
def N_law_steps : List Str := ["box", "text", "way", "steps", "k", "one", "at", "needing"]
theorem sc_law_steps : FnScope N_law_steps ["box", "text", "way"] (defScope s_law_steps) := ⟨rfl, rfl, rfl, by decide +kernel, rfl, by decide +kernel, by decide +kernel⟩
def B_law_steps : FS := (sSeq (sIf (bBool (bOp dEq (bVar 2) (bK (.int 7)))) (sRet (bTup bNil)) sNext) (sSeq (sIf (bBool (bOp dEq (bVar 2) (bK (.int 6)))) (sRet (bCall cTuple (bCons (bComp (bRng1 (bCall F_law_draw (bCons (bVar 0) (bCons (bK (.int 41)) bNil)))) [4] (cNm 4) bYes (bTup (bCons (bK (.str "put")) (bCons (bCall F_law_draw (bCons (bVar 0) (bCons (bK (.int 256)) bNil))) bNil)))) bNil))) sNext) (sSeq (sIf (bBool (bOp dEq (bVar 2) (bK (.int 0)))) (sSeq (sAsg (bLst bNil) (gNm 3)) (sSeq (sFor (bRng1 (bCall F_law_draw (bCons (bVar 0) (bCons (bK (.int 41)) bNil)))) (gNm 4) (sSeq (sAsg (bTup (bCons (bK (.str "put")) (bCons (bCall F_law_draw (bCons (bVar 0) (bCons (bK (.int 256)) bNil))) bNil))) (gNm 5)) (sSeq (sIf (bBool (bOp dGt (bCall F_law_draw (bCons (bVar 0) (bCons (bK (.int 3)) bNil))) (bK (.int 0)))) (sAsg (bCall F_law_taking (bCons (bVar 0) (bCons (bCall F_law_draw (bCons (bVar 0) (bCons (bK (.int 256)) bNil))) bNil))) (gNm 5)) sNext) (sDrop (bMeth mAppend (bVar 3) (bCons (bVar 5) bNil)))))) (sRet (bCall cTuple (bCons (bVar 3) bNil))))) sNext) (sSeq (sAsg (bCall F_law_fitting (bCons (bVar 0) (bCons (bVar 1) bNil))) (gNm 3)) (sSeq (sIf (bBool (bOp dEq (bVar 2) (bK (.int 4)))) (sSeq (sAsg (bCall F_law_draw (bCons (bVar 0) (bCons (bOp dAdd (bCall cLen (bCons (bVar 3) bNil)) (bK (.int 1))) bNil))) (gNm 6)) (sDrop (bMeth mInsert (bVar 3) (bCons (bVar 6) (bCons (bCall F_law_taking (bCons (bVar 0) (bCons (bK (.int 7)) bNil))) bNil))))) sNext) (sSeq (sIf (bAnd (bBool (bOp dEq (bVar 2) (bK (.int 5)))) (bBool (bOp dGt (bCall cLen (bCons (bVar 1) bNil)) (bK (.int 0))))) (sSeq (sAsg (bComp (bRng1 (bCall cLen (bCons (bVar 3) bNil))) [4] (cNm 4) (bBool (bOp dNe (bOp dIx (bOp dIx (bVar 3) (bVar 4)) (bK (.int 0))) (bK (.str "put")))) (bVar 4)) (gNm 7)) (sSeq (sAsg (bOp dIx (bVar 7) (bCall F_law_draw (bCons (bVar 0) (bCons (bCall cLen (bCons (bVar 7) bNil)) bNil)))) (gNm 6)) (sAsg (bOp dAdd (bSl (bVar 3) bNo (bPart (bVar 6))) (bSl (bVar 3) (bPart (bOp dAdd (bVar 6) (bK (.int 1)))) bNo)) (gNm 3)))) sNext) (sRet (bCall cTuple (bCons (bVar 3) bNil)))))))))
def F_law_steps : FD := runB 3 8 B_law_steps
set_option maxHeartbeats 4000000 in
theorem ok_law_steps {f : Addr} (T : Txt K mg cl) (G_law_draw : Fk P w K mg base cl 2 "_law_draw" 2 F_law_draw) (G_law_taking : Fk P w K mg base cl 3 "_law_taking" 2 F_law_taking) (G_law_fitting : Fk P w K mg base cl 4 "_law_fitting" 2 F_law_fitting) : BodyOk P w K mg base cl 4 N_law_steps "_law_steps" s_law_steps f B_law_steps := fun cdv A outer s H E hr C => by
  have hu := hr.units
  have hcm : (cxOf (L2.CX P w) P w K mg base N_law_steps "_law_steps" (defScope s_law_steps) f cdv A outer s H E).calm = true := rfl
  exact (ks_cons (ks_if (kt_cmp (o_eq hu) (k_var (i := 2)) k_int) (ks_one (ks_ret (k_tup k_nil))) ks_nil) (ks_cons (ks_if (kt_cmp (o_eq hu) (k_var (i := 2)) k_int) (ks_one (ks_ret (k_ty c_tuple T.tuple (k_cons (k_comp (own := [("k", 4)]) rfl C.nd (ki_rng1 T.range (k_call G_law_draw (hr.mono (by decide)) C.takes (k_cons (k_var (i := 0)) (k_cons k_int k_nil)))) (blkOk_by (N := N_law_steps) (sc := defScope s_law_steps) (by decide +kernel)) (ct_nm (by decide)) (fun _ _ _ _ _ => pg_name (i := 4) C.nd rfl (Or.inl rfl)) (fun _ _ _ _ _ => kts_nil) (fun _ _ _ _ _ => (k_tup (k_cons k_str (k_cons (k_call G_law_draw (hr.mono (by decide)) tk0 (k_cons (k_var (i := 0)) (k_cons k_int k_nil))) k_nil))))) k_nil)))) ks_nil) (ks_cons (ks_if (kt_cmp (o_eq hu) (k_var (i := 2)) k_int) (ks_cons (ks_set (i := 3) C.nd (k_lst k_nil)) (ks_cons (ks_for C (ki_rng1 T.range (k_call G_law_draw (hr.mono (by decide)) C.takes (k_cons (k_var (i := 0)) (k_cons k_int k_nil)))) (kg_nm (i := 4) C.nd) (ks_cons (ks_set (i := 5) C.nd (k_tup (k_cons k_str (k_cons (k_call G_law_draw (hr.mono (by decide)) C.takes (k_cons (k_var (i := 0)) (k_cons k_int k_nil))) k_nil)))) (ks_cons (ks_if (kt_cmp o_gt (k_call G_law_draw (hr.mono (by decide)) C.takes (k_cons (k_var (i := 0)) (k_cons k_int k_nil))) k_int) (ks_one (ks_set (i := 5) C.nd (k_call G_law_taking (hr.mono (by decide)) C.takes (k_cons (k_var (i := 0)) (k_cons (k_call G_law_draw (hr.mono (by decide)) C.takes (k_cons (k_var (i := 0)) (k_cons k_int k_nil))) k_nil))))) ks_nil) (ks_one (ks_expr (k_bm m_append PySem.F.slot_list_append PySem.F.type_list_append (k_var (i := 3)) (k_cons (k_var (i := 5)) k_nil))))))) (ks_one (ks_ret (k_ty c_tuple T.tuple (k_cons (k_var (i := 3)) k_nil)))))) ks_nil) (ks_cons (ks_set (i := 3) C.nd (k_call G_law_fitting hr C.takes (k_cons (k_var (i := 0)) (k_cons (k_var (i := 1)) k_nil)))) (ks_cons (ks_if (kt_cmp (o_eq hu) (k_var (i := 2)) k_int) (ks_cons (ks_set (i := 6) C.nd (k_call G_law_draw (hr.mono (by decide)) C.takes (k_cons (k_var (i := 0)) (k_cons (k_bin o_add (k_bi c_len T.len (k_cons (k_var (i := 3)) k_nil)) k_int) k_nil)))) (ks_one (ks_expr (k_bm m_insert PySem.F.slot_list_insert PySem.F.type_list_insert (k_var (i := 3)) (k_cons (k_var (i := 6)) (k_cons (k_call G_law_taking (hr.mono (by decide)) C.takes (k_cons (k_var (i := 0)) (k_cons k_int k_nil))) k_nil)))))) ks_nil) (ks_cons (ks_if (kw_pt (kw_and (kt_cmp (o_eq hu) (k_var (i := 2)) k_int) (kw_and1 (kt_cmp o_gt (k_bi c_len T.len (k_cons (k_var (i := 1)) k_nil)) k_int)))) (ks_cons (ks_setc (i := 7) (own := [("k", 4)]) rfl C.nd (ki_rng1 T.range (k_bi c_len T.len (k_cons (k_var (i := 3)) k_nil))) (blkOk_by (N := N_law_steps) (sc := defScope s_law_steps) (by decide +kernel)) (ct_nm (by decide)) (fun _ _ _ _ _ => pg_name (i := 4) C.nd rfl (Or.inl rfl)) (fun _ _ _ _ _ => (kts_one (kt_cmp (o_ne hu) (k_ix (k_ix (k_var (i := 3)) (k_var (i := 4))) k_int) k_str))) (fun _ _ _ _ _ => (k_var (i := 4)))) (ks_cons (ks_set (i := 6) C.nd (k_ix (k_var (i := 7)) (k_call G_law_draw (hr.mono (by decide)) C.takes (k_cons (k_var (i := 0)) (k_cons (k_bi c_len T.len (k_cons (k_var (i := 7)) k_nil)) k_nil))))) (ks_one (ks_set (i := 3) C.nd (k_bin o_add (k_sl (k_var (i := 3)) k_po0 (k_po (k_var (i := 6)))) (k_sl (k_var (i := 3)) (k_po (k_bin o_add (k_var (i := 6)) k_int)) k_po0)))))) ks_nil) (ks_one (ks_ret (k_ty c_tuple T.tuple (k_cons (k_var (i := 3)) k_nil))))))))))
abbrev s_law_same : Stmt := topS 23
def N_law_same : List Str := ["text", "steps", "due", "cost", "step", "told", "made", "index", "alone", "raised", "byte"]
theorem sc_law_same : FnScope N_law_same ["text", "steps"] (defScope s_law_same) := ⟨rfl, rfl, rfl, by decide +kernel, rfl, by decide +kernel, by decide +kernel⟩
noncomputable def B_law_same : FS := (sSeq (sAsg (bCall F_law_due (bCons (bVar 0) (bCons (bVar 1) bNil))) (gNm 2)) (sSeq (sAsg (bK (.int 0)) (gNm 3)) (sSeq (sFor (bIter (bVar 1)) (gNm 4) (sIf (bBool (bOp dNe (bOp dIx (bVar 4) (bK (.int 0))) (bK (.str "keep")))) (sAsg (bOp dAdd (bVar 3) (bK (.int 1))) (gNm 3)) sNext)) (sSeq (sAsg (bCall F_cost_of (bCons (bVar 1) bNil)) (gNm 5)) (sSeq (sIf (bOr (bNot (bTru (bCall F_law_is_integer (bCons (bVar 5) bNil)))) (bBool (bOp dNe (bVar 5) (bVar 3)))) (sRet (bK (.bl false))) sNext) (sSeq (sAsg (bK .non) (gNm 6)) (sSeq (sAsg (bUn dNeg (bK (.int 1))) (gNm 7)) (sSeq (sAsg (bK (.bl true)) (gNm 8)) (sSeq (sTry 9 kt_BadSteps (sAsg (bCall F_apply_steps (bCons (bVar 0) (bCons (bVar 1) bNil))) (gNm 6)) (fun a dx c => (sSeq (sAsg (bXf a dx c "index" (bVar 9)) (gNm 7)) (sAsg (bCall (F_law_alone a dx c) (bCons (bVar 9) bNil)) (gNm 8))))) (sSeq (sIf (bOr (bNot (bTru (bCall F_law_is_integer (bCons (bVar 7) bNil)))) (bOr (bBool (bOp dNe (bVar 7) (bOp dIx (bVar 2) (bK (.int 0))))) (bNot (bTru (bVar 8))))) (sRet (bK (.bl false))) sNext) (sSeq (sIf (bBool (bOp dGe (bOp dIx (bVar 2) (bK (.int 0))) (bK (.int 0)))) (sRet (bAndV (bOp dIs (bVar 6) (bK .non)) (bCall F_law_below_base (bCons (bVar 0) (bCons (bVar 1) bNil))))) sNext) (sSeq (sIf (bOr (bNot (bTru (bIsi "tuple" (bVar 6)))) (bBool (bOp dNe (bVar 6) (bOp dIx (bVar 2) (bK (.int 1)))))) (sRet (bK (.bl false))) sNext) (sSeq (sFor (bIter (bVar 6)) (gNm 10) (sIf (bNot (bTru (bCall F_law_is_integer (bCons (bVar 10) bNil)))) (sRet (bK (.bl false))) sNext)) (sRet (bK (.bl true))))))))))))))))
noncomputable def F_law_same : FD := runB 2 11 B_law_same
set_option maxHeartbeats 4000000 in
theorem ok_law_same {f : Addr} (T : Txt K mg cl) (G_law_due : Fk P w K mg base cl 1 "_law_due" 2 F_law_due) (G_cost_of : Fk P w K mg base cl 1 "cost_of" 1 F_cost_of) (G_law_is_integer : Fk P w K mg base cl 1 "_law_is_integer" 1 F_law_is_integer) (G_apply_steps : Fk P w K mg base cl 3 "apply_steps" 2 F_apply_steps) (G_law_below_base : Fk P w K mg base cl 4 "_law_below_base" 2 F_law_below_base) (GP_law_alone : ∀ (a dx : Addr) (c : Nat), xin c = true → Fp P w K mg base cl 1 "_law_alone" 1 a dx c (F_law_alone a dx c)) : BodyOk P w K mg base cl 4 N_law_same "_law_same" s_law_same f B_law_same := fun cdv A outer s H E hr C => by
  have hu := hr.units
  have hcm : (cxOf (L2.CX P w) P w K mg base N_law_same "_law_same" (defScope s_law_same) f cdv A outer s H E).calm = true := rfl
  exact (ks_cons (ks_set (i := 2) C.nd (k_call G_law_due (hr.mono (by decide)) C.takes (k_cons (k_var (i := 0)) (k_cons (k_var (i := 1)) k_nil)))) (ks_cons (ks_set (i := 3) C.nd k_int) (ks_cons (ks_for C (ki_any (k_var (i := 1))) (kg_nm (i := 4) C.nd) (ks_one (ks_if (kt_cmp (o_ne hu) (k_ix (k_var (i := 4)) k_int) k_str) (ks_one (ks_set (i := 3) C.nd (k_bin o_add (k_var (i := 3)) k_int))) ks_nil))) (ks_cons (ks_set (i := 5) C.nd (k_call G_cost_of (hr.mono (by decide)) C.takes (k_cons (k_var (i := 1)) k_nil))) (ks_cons (ks_if (kw_pt (kw_or (kt_not (kt_tru (k_call G_law_is_integer (hr.mono (by decide)) C.takes (k_cons (k_var (i := 5)) k_nil)))) (kw_or1 (kt_cmp (o_ne hu) (k_var (i := 5)) (k_var (i := 3)))))) (ks_one (ks_ret k_bl)) ks_nil) (ks_cons (ks_set (i := 6) C.nd k_non) (ks_cons (ks_set (i := 7) C.nd (k_un o_neg k_int)) (ks_cons (ks_set (i := 8) C.nd k_bl) (ks_cons (ks_try (i := 9) C rfl rfl ⟨rfl, by decide, .inl T.nam_BadSteps⟩ T.exm_BadSteps (fun W' pn xe C => (ks_one (ks_set (i := 6) C.nd (k_call G_apply_steps (hr.mono (by decide)) C.takes (k_cons (k_var (i := 0)) (k_cons (k_var (i := 1)) k_nil)))))) (fun a dx c pn hb Cq => have hx := xin_BadSteps c hb; (ks_cons (ks_set (i := 7) C.nd (k_xf Cq (T.xf c hx) (T.xno_index c hx) (k_var (i := 9)))) (ks_one (ks_set (i := 8) C.nd (k_callP Cq (GP_law_alone a dx c hx) (L2H.RoomH.mono (k := 4) ⟨hr.dp, hr.un⟩ (by decide)) takes_no (k_cons (k_var (i := 9)) k_nil))))))) (ks_cons (ks_if (kw_pt (kw_or (kt_not (kt_tru (k_call G_law_is_integer (hr.mono (by decide)) C.takes (k_cons (k_var (i := 7)) k_nil)))) (kw_or (kt_cmp (o_ne hu) (k_var (i := 7)) (k_ix (k_var (i := 2)) k_int)) (kw_or1 (kt_not (kt_tru (k_var (i := 8)))))))) (ks_one (ks_ret k_bl)) ks_nil) (ks_cons (ks_if (kt_cmp o_ge (k_ix (k_var (i := 2)) k_int) k_int) (ks_one (ks_ret (k_and (k_cmp o_is (k_var (i := 6)) k_non) (k_one (k_call G_law_below_base hr C.takes (k_cons (k_var (i := 0)) (k_cons (k_var (i := 1)) k_nil))))))) ks_nil) (ks_cons (ks_if (kw_pt (kw_or (kt_not (kt_tru (k_isi T.isinstance T.tuple (k_var (i := 6))))) (kw_or1 (kt_cmp (o_ne hu) (k_var (i := 6)) (k_ix (k_var (i := 2)) k_int))))) (ks_one (ks_ret k_bl)) ks_nil) (ks_cons (ks_for C (ki_any (k_var (i := 6))) (kg_nm (i := 10) C.nd) (ks_one (ks_if (kt_not (kt_tru (k_call G_law_is_integer (hr.mono (by decide)) C.takes (k_cons (k_var (i := 10)) k_nil)))) (ks_one (ks_ret k_bl)) ks_nil))) (ks_one (ks_ret k_bl)))))))))))))))
abbrev s_law_pair : Stmt := topS 18
def N_law_pair : List Str := ["box", "way", "text"]
theorem sc_law_pair : FnScope N_law_pair ["box"] (defScope s_law_pair) := ⟨rfl, rfl, rfl, by decide +kernel, rfl, by decide +kernel, by decide +kernel⟩
def B_law_pair : FS := (sSeq (sAsg (bCall F_law_draw (bCons (bVar 0) (bCons (bK (.int 8)) bNil))) (gNm 1)) (sSeq (sAsg (bCall F_law_text (bCons (bVar 0) bNil)) (gNm 2)) (sSeq (sIf (bAnd (bBool (bOp dGt (bVar 1) (bK (.int 5)))) (bBool (bOp dEq (bCall F_law_draw (bCons (bVar 0) (bCons (bK (.int 2)) bNil))) (bK (.int 0))))) (sAsg (bTup bNil) (gNm 2)) sNext) (sRet (bTup (bCons (bVar 2) (bCons (bCall F_law_steps (bCons (bVar 0) (bCons (bVar 2) (bCons (bVar 1) bNil)))) bNil)))))))
def F_law_pair : FD := runB 1 3 B_law_pair
set_option maxHeartbeats 4000000 in
theorem ok_law_pair {f : Addr} (T : Txt K mg cl) (G_law_draw : Fk P w K mg base cl 2 "_law_draw" 2 F_law_draw) (G_law_text : Fk P w K mg base cl 3 "_law_text" 1 F_law_text) (G_law_steps : Fk P w K mg base cl 5 "_law_steps" 3 F_law_steps) : BodyOk P w K mg base cl 5 N_law_pair "_law_pair" s_law_pair f B_law_pair := fun cdv A outer s H E hr C => by
  have hu := hr.units
  have hcm : (cxOf (L2.CX P w) P w K mg base N_law_pair "_law_pair" (defScope s_law_pair) f cdv A outer s H E).calm = true := rfl
  exact (ks_cons (ks_set (i := 1) C.nd (k_call G_law_draw (hr.mono (by decide)) C.takes (k_cons (k_var (i := 0)) (k_cons k_int k_nil)))) (ks_cons (ks_set (i := 2) C.nd (k_call G_law_text (hr.mono (by decide)) C.takes (k_cons (k_var (i := 0)) k_nil))) (ks_cons (ks_if (kw_pt (kw_and (kt_cmp o_gt (k_var (i := 1)) k_int) (kw_and1 (kt_cmp (o_eq hu) (k_call G_law_draw (hr.mono (by decide)) C.takes (k_cons (k_var (i := 0)) (k_cons k_int k_nil))) k_int)))) (ks_one (ks_set (i := 2) C.nd (k_tup k_nil))) ks_nil) (ks_one (ks_ret (k_tup (k_cons (k_var (i := 2)) (k_cons (k_call G_law_steps hr C.takes (k_cons (k_var (i := 0)) (k_cons (k_var (i := 2)) (k_cons (k_var (i := 1)) k_nil)))) k_nil))))))))
abbrev s_law : Stmt := topS 24
def N_law : List Str := ["script", "box", "first", "second"]
theorem sc_law : FnScope N_law ["script"] (defScope s_law) := ⟨rfl, rfl, rfl, by decide +kernel, rfl, by decide +kernel, by decide +kernel⟩
noncomputable def B_law : FS := (sSeq (sAsg (bCall F_law_box (bCons (bVar 0) bNil)) (gNm 1)) (sSeq (sAsg (bCall F_law_pair (bCons (bVar 1) bNil)) (gNm 2)) (sSeq (sAsg (bCall F_law_pair (bCons (bVar 1) bNil)) (gNm 3)) (sSeq (sIf (bOr (bNot (bTru (bCall F_law_same (bCons (bOp dIx (bVar 2) (bK (.int 0))) (bCons (bOp dIx (bVar 2) (bK (.int 1))) bNil))))) (bNot (bTru (bCall F_law_same (bCons (bOp dIx (bVar 3) (bK (.int 0))) (bCons (bOp dIx (bVar 3) (bK (.int 1))) bNil)))))) (sRet (bK (.bl false))) sNext) (sRet (bCall F_law_same (bCons (bOp dIx (bVar 2) (bK (.int 0))) (bCons (bOp dIx (bVar 2) (bK (.int 1))) bNil))))))))
noncomputable def F_law : FD := runB 1 4 B_law
set_option maxHeartbeats 4000000 in
theorem ok_law {f : Addr} (T : Txt K mg cl) (G_law_box : Fk P w K mg base cl 1 "_law_box" 1 F_law_box) (G_law_pair : Fk P w K mg base cl 6 "_law_pair" 1 F_law_pair) (G_law_same : Fk P w K mg base cl 5 "_law_same" 2 F_law_same) : BodyOk P w K mg base cl 6 N_law "law" s_law f B_law := fun cdv A outer s H E hr C => by
  have hu := hr.units
  have hcm : (cxOf (L2.CX P w) P w K mg base N_law "law" (defScope s_law) f cdv A outer s H E).calm = true := rfl
  exact (ks_cons (ks_set (i := 1) C.nd (k_call G_law_box (hr.mono (by decide)) C.takes (k_cons (k_var (i := 0)) k_nil))) (ks_cons (ks_set (i := 2) C.nd (k_call G_law_pair hr C.takes (k_cons (k_var (i := 1)) k_nil))) (ks_cons (ks_set (i := 3) C.nd (k_call G_law_pair hr C.takes (k_cons (k_var (i := 1)) k_nil))) (ks_cons (ks_if (kw_pt (kw_or (kt_not (kt_tru (k_call G_law_same (hr.mono (by decide)) C.takes (k_cons (k_ix (k_var (i := 2)) k_int) (k_cons (k_ix (k_var (i := 2)) k_int) k_nil))))) (kw_or1 (kt_not (kt_tru (k_call G_law_same (hr.mono (by decide)) C.takes (k_cons (k_ix (k_var (i := 3)) k_int) (k_cons (k_ix (k_var (i := 3)) k_int) k_nil)))))))) (ks_one (ks_ret k_bl)) ks_nil) (ks_one (ks_ret (k_call G_law_same (hr.mono (by decide)) C.takes (k_cons (k_ix (k_var (i := 2)) k_int) (k_cons (k_ix (k_var (i := 2)) k_int) k_nil)))))))))
end

set_option maxHeartbeats 8000000 in
theorem all_mk {l : PySem.W.OpenLaw} {w : World} {K : PySem.W.Frag} {h : Heap} {mg : Str → Option Value} {fa f0 f1 f2 f3 f4 f5 f6 f7 f8 f9 f10 f11 f12 f13 f14 f15 C0 C1 C2 C3 C4 C5 fx3 cc3 cda3 : Addr} (X : K.In h) (G : h.Ns mainGlobals mg) (hfa : mg "law" = some (.ref fa))
    {od0 an0 od1 an1 od2 an2 od3 an3 od4 an4 od5 an5 od6 an6 od7 an7 od8 an8 od9 an9 od10 an10 od11 an11 od12 an12 od13 an13 od14 an14 od15 an15 : Option Addr} {sl0 sl1 sl2 sl3 sl4 sl5 sl6 sl7 sl8 sl9 sl10 sl11 sl12 sl13 sl14 sl15 : Array (Option Value)} {oc0 kV0 dc0 pm0 cd0 ct0 oc1 kV1 dc1 pm1 cd1 ct1 oc2 kV2 dc2 pm2 cd2 ct2 oc3 kV3 dc3 pm3 cd3 ct3 oc4 kV4 dc4 pm4 cd4 ct4 oc5 kV5 dc5 pm5 cd5 ct5 oc6 kV6 dc6 pm6 cd6 ct6 oc7 kV7 dc7 pm7 cd7 ct7 oc8 kV8 dc8 pm8 cd8 ct8 oc9 kV9 dc9 pm9 cd9 ct9 oc10 kV10 dc10 pm10 cd10 ct10 oc11 kV11 dc11 pm11 cd11 ct11 oc12 kV12 dc12 pm12 cd12 ct12 oc13 kV13 dc13 pm13 cd13 ct13 oc14 kV14 dc14 pm14 cd14 ct14 oc15 kV15 dc15 pm15 cd15 ct15 : Value}
    {nm3 q3 : Str} {N3 : Addr} {bs3 bm3 : List Value} {sn3 : List Str} {sub3 : List Value} {ab3 : Bool} {col3 : Option Bool} {dd3 : Option Addr} {m03 m13 m23 m33 m53 : Option Value}
    {odx3 anx3 cld3 cdd3 : Option Addr} {slx3 csl3 ccs3 : Array (Option Value)} {ocx3 dcx3 pmx3 ctx3 clc3 ccl3 : Value} {vs3 : Array Value} {file3 : Str} {tf3 : Tok}
    (a0 : PySem.W.nsIn K mainGlobals "cost_of" = some (some (.ref f0)))
    (l0 : K.lookup f0 = some ⟨oc0, od0, .func (PySem.W.fnOf "cost_of" "cost_of" (defArgs s_cost_of) (defBody s_cost_of) (defScope s_cost_of) .none kV0 dc0 pm0 an0 cd0 ct0), sl0⟩) (c0 : PySem.W.codeIn K cd0 "cost_of" = true) (k0 : PySem.W.keepIn K (.ref f0) = true)
    (a1 : PySem.W.nsIn K mainGlobals "_law_box" = some (some (.ref f1)))
    (l1 : K.lookup f1 = some ⟨oc1, od1, .func (PySem.W.fnOf "_law_box" "_law_box" (defArgs s_law_box) (defBody s_law_box) (defScope s_law_box) .none kV1 dc1 pm1 an1 cd1 ct1), sl1⟩) (c1 : PySem.W.codeIn K cd1 "_law_box" = true) (k1 : PySem.W.keepIn K (.ref f1) = true)
    (a2 : PySem.W.nsIn K mainGlobals "_law_cell" = some (some (.ref f2)))
    (l2 : K.lookup f2 = some ⟨oc2, od2, .func (PySem.W.fnOf "_law_cell" "_law_cell" (defArgs s_law_cell) (defBody s_law_cell) (defScope s_law_cell) .none kV2 dc2 pm2 an2 cd2 ct2), sl2⟩) (c2 : PySem.W.codeIn K cd2 "_law_cell" = true) (k2 : PySem.W.keepIn K (.ref f2) = true)
    (a3 : PySem.W.nsIn K mainGlobals "_law_due" = some (some (.ref f3)))
    (l3 : K.lookup f3 = some ⟨oc3, od3, .func (PySem.W.fnOf "_law_due" "_law_due" (defArgs s_law_due) (defBody s_law_due) (defScope s_law_due) .none kV3 dc3 pm3 an3 cd3 ct3), sl3⟩) (c3 : PySem.W.codeIn K cd3 "_law_due" = true) (k3 : PySem.W.keepIn K (.ref f3) = true)
    (a4 : PySem.W.nsIn K mainGlobals "_law_is_integer" = some (some (.ref f4)))
    (l4 : K.lookup f4 = some ⟨oc4, od4, .func (PySem.W.fnOf "_law_is_integer" "_law_is_integer" (defArgs s_law_is_integer) (defBody s_law_is_integer) (defScope s_law_is_integer) .none kV4 dc4 pm4 an4 cd4 ct4), sl4⟩) (c4 : PySem.W.codeIn K cd4 "_law_is_integer" = true) (k4 : PySem.W.keepIn K (.ref f4) = true)
    (a5 : PySem.W.nsIn K mainGlobals "_law_alone" = some (some (.ref f5)))
    (l5 : K.lookup f5 = some ⟨oc5, od5, .func (PySem.W.fnOf "_law_alone" "_law_alone" (defArgs s_law_alone) (defBody s_law_alone) (defScope s_law_alone) .none kV5 dc5 pm5 an5 cd5 ct5), sl5⟩) (c5 : PySem.W.codeIn K cd5 "_law_alone" = true) (k5 : PySem.W.keepIn K (.ref f5) = true)
    (a6 : PySem.W.nsIn K mainGlobals "_law_draw" = some (some (.ref f6)))
    (l6 : K.lookup f6 = some ⟨oc6, od6, .func (PySem.W.fnOf "_law_draw" "_law_draw" (defArgs s_law_draw) (defBody s_law_draw) (defScope s_law_draw) .none kV6 dc6 pm6 an6 cd6 ct6), sl6⟩) (c6 : PySem.W.codeIn K cd6 "_law_draw" = true) (k6 : PySem.W.keepIn K (.ref f6) = true)
    (a7 : PySem.W.nsIn K mainGlobals "apply_steps" = some (some (.ref f7)))
    (l7 : K.lookup f7 = some ⟨oc7, od7, .func (PySem.W.fnOf "apply_steps" "apply_steps" (defArgs s_apply_steps) (defBody s_apply_steps) (defScope s_apply_steps) .none kV7 dc7 pm7 an7 cd7 ct7), sl7⟩) (c7 : PySem.W.codeIn K cd7 "apply_steps" = true) (k7 : PySem.W.keepIn K (.ref f7) = true)
    (a8 : PySem.W.nsIn K mainGlobals "_law_text" = some (some (.ref f8)))
    (l8 : K.lookup f8 = some ⟨oc8, od8, .func (PySem.W.fnOf "_law_text" "_law_text" (defArgs s_law_text) (defBody s_law_text) (defScope s_law_text) .none kV8 dc8 pm8 an8 cd8 ct8), sl8⟩) (c8 : PySem.W.codeIn K cd8 "_law_text" = true) (k8 : PySem.W.keepIn K (.ref f8) = true)
    (a9 : PySem.W.nsIn K mainGlobals "_law_taking" = some (some (.ref f9)))
    (l9 : K.lookup f9 = some ⟨oc9, od9, .func (PySem.W.fnOf "_law_taking" "_law_taking" (defArgs s_law_taking) (defBody s_law_taking) (defScope s_law_taking) .none kV9 dc9 pm9 an9 cd9 ct9), sl9⟩) (c9 : PySem.W.codeIn K cd9 "_law_taking" = true) (k9 : PySem.W.keepIn K (.ref f9) = true)
    (a10 : PySem.W.nsIn K mainGlobals "_law_fitting" = some (some (.ref f10)))
    (l10 : K.lookup f10 = some ⟨oc10, od10, .func (PySem.W.fnOf "_law_fitting" "_law_fitting" (defArgs s_law_fitting) (defBody s_law_fitting) (defScope s_law_fitting) .none kV10 dc10 pm10 an10 cd10 ct10), sl10⟩) (c10 : PySem.W.codeIn K cd10 "_law_fitting" = true) (k10 : PySem.W.keepIn K (.ref f10) = true)
    (a11 : PySem.W.nsIn K mainGlobals "_law_below_base" = some (some (.ref f11)))
    (l11 : K.lookup f11 = some ⟨oc11, od11, .func (PySem.W.fnOf "_law_below_base" "_law_below_base" (defArgs s_law_below_base) (defBody s_law_below_base) (defScope s_law_below_base) .none kV11 dc11 pm11 an11 cd11 ct11), sl11⟩) (c11 : PySem.W.codeIn K cd11 "_law_below_base" = true) (k11 : PySem.W.keepIn K (.ref f11) = true)
    (a12 : PySem.W.nsIn K mainGlobals "_law_steps" = some (some (.ref f12)))
    (l12 : K.lookup f12 = some ⟨oc12, od12, .func (PySem.W.fnOf "_law_steps" "_law_steps" (defArgs s_law_steps) (defBody s_law_steps) (defScope s_law_steps) .none kV12 dc12 pm12 an12 cd12 ct12), sl12⟩) (c12 : PySem.W.codeIn K cd12 "_law_steps" = true) (k12 : PySem.W.keepIn K (.ref f12) = true)
    (a13 : PySem.W.nsIn K mainGlobals "_law_same" = some (some (.ref f13)))
    (l13 : K.lookup f13 = some ⟨oc13, od13, .func (PySem.W.fnOf "_law_same" "_law_same" (defArgs s_law_same) (defBody s_law_same) (defScope s_law_same) .none kV13 dc13 pm13 an13 cd13 ct13), sl13⟩) (c13 : PySem.W.codeIn K cd13 "_law_same" = true) (k13 : PySem.W.keepIn K (.ref f13) = true)
    (a14 : PySem.W.nsIn K mainGlobals "_law_pair" = some (some (.ref f14)))
    (l14 : K.lookup f14 = some ⟨oc14, od14, .func (PySem.W.fnOf "_law_pair" "_law_pair" (defArgs s_law_pair) (defBody s_law_pair) (defScope s_law_pair) .none kV14 dc14 pm14 an14 cd14 ct14), sl14⟩) (c14 : PySem.W.codeIn K cd14 "_law_pair" = true) (k14 : PySem.W.keepIn K (.ref f14) = true)
    (a15 : PySem.W.nsIn K mainGlobals "law" = some (some (.ref f15)))
    (l15 : K.lookup f15 = some ⟨oc15, od15, .func (PySem.W.fnOf "law" "law" (defArgs s_law) (defBody s_law) (defScope s_law) .none kV15 dc15 pm15 an15 cd15 ct15), sl15⟩) (c15 : PySem.W.codeIn K cd15 "law" = true) (k15 : PySem.W.keepIn K (.ref f15) = true)
    (z_len : PySem.W.nsIn K mainGlobals "len" = some none)
    (z_list : PySem.W.nsIn K mainGlobals "list" = some none)
    (z_range : PySem.W.nsIn K mainGlobals "range" = some none)
    (z_tuple : PySem.W.nsIn K mainGlobals "tuple" = some none)
    (z_isinstance : PySem.W.nsIn K mainGlobals "isinstance" = some none)
    (z_int : PySem.W.nsIn K mainGlobals "int" = some none)
    (z_bool : PySem.W.nsIn K mainGlobals "bool" = some none)
    (z_ValueError : PySem.W.nsIn K mainGlobals "ValueError" = some none)
    (z_enumerate : PySem.W.nsIn K mainGlobals "enumerate" = some none)
    (z_super : PySem.W.nsIn K mainGlobals "super" = some none)
    (hnG : PySem.W.specialIn K (.builtin "object.__class__") "__get__" = some (some (.builtin "getset_descriptor.__get__")))
    (htG : PySem.W.takesIn K (.builtin "object.__class__") = some true)
    (aC0 : PySem.W.nsIn K mainGlobals "ScribeError" = some (some (.ref C0)))
    (bx0 : PySem.W.subIn K (.ref C0) (.type "BaseException") = some true)
    (dx0 : PySem.W.hasDictIn K C0 = true)
    (tx0 : PySem.W.typeIn K (.ref C0) = some (.type "type"))
    (aC1 : PySem.W.nsIn K mainGlobals "Refused" = some (some (.ref C1)))
    (bx1 : PySem.W.subIn K (.ref C1) (.type "BaseException") = some true)
    (dx1 : PySem.W.hasDictIn K C1 = true)
    (tx1 : PySem.W.typeIn K (.ref C1) = some (.type "type"))
    (aC2 : PySem.W.nsIn K mainGlobals "NoText" = some (some (.ref C2)))
    (bx2 : PySem.W.subIn K (.ref C2) (.type "BaseException") = some true)
    (dx2 : PySem.W.hasDictIn K C2 = true)
    (tx2 : PySem.W.typeIn K (.ref C2) = some (.type "type"))
    (aC3 : PySem.W.nsIn K mainGlobals "BadSteps" = some (some (.ref C3)))
    (bx3 : PySem.W.subIn K (.ref C3) (.type "BaseException") = some true)
    (dx3 : PySem.W.hasDictIn K C3 = true)
    (tx3 : PySem.W.typeIn K (.ref C3) = some (.type "type"))
    (aC4 : PySem.W.nsIn K mainGlobals "TooFar" = some (some (.ref C4)))
    (bx4 : PySem.W.subIn K (.ref C4) (.type "BaseException") = some true)
    (dx4 : PySem.W.hasDictIn K C4 = true)
    (tx4 : PySem.W.typeIn K (.ref C4) = some (.type "type"))
    (aC5 : PySem.W.nsIn K mainGlobals "BadNotation" = some (some (.ref C5)))
    (bx5 : PySem.W.subIn K (.ref C5) (.type "BaseException") = some true)
    (dx5 : PySem.W.hasDictIn K C5 = true)
    (tx5 : PySem.W.typeIn K (.ref C5) = some (.type "type"))
    (xL3 : K.lookup C3 = some (excClassObj nm3 q3 C3 N3 bs3 bm3 true sn3 sub3 ab3 col3 dd3 m03 m13 m23 m33 m53 "ValueError.__new__"))
    (xb3 : PySem.HandSPX.refsVE bm3 = true)
    (xs3 : PySem.W.findIn K (.ref C3) "__setattr__" = some (some (.builtin "object.__setattr__")))
    (xk3 : PySem.W.keepIn K (.ref C3) = true)
    (xg3 : PySem.W.findIn K (.ref C3) "__getattribute__" = some (some (.builtin "BaseException.__getattribute__")))
    (xh3 : PySem.W.findIn K (.ref C3) "__getattr__" = some none)
    (xc3 : PySem.W.findIn K (.ref C3) "__class__" = some (some (.builtin "object.__class__")))
    (xo3 : PySem.W.mroIn K C3 (.type "object") = some true)
    (xi3 : PySem.W.findIn K (.ref C3) "__init__" = some (some (.ref fx3)))
    (xt3 : PySem.W.typeIn K (.ref fx3) = some (.type "function"))
    (xl3 : K.lookup fx3 = some ⟨ocx3, odx3, .func (PySem.W.ksFn "__init__" "BadSteps.__init__" (defArgs s_BadSteps___init__) (defBody s_BadSteps___init__) (defScope s_BadSteps___init__) .none .none dcx3 pmx3 anx3 (.ref cda3) ctx3 cc3), slx3⟩)
    (xd3 : PySem.W.codeIn K (.ref cda3) "BadSteps.__init__" = true)
    (xe3 : K.lookup cc3 = some ⟨clc3, cld3, .cell (some (.ref C3)), csl3⟩)
    (xf3 : K.lookup cda3 = some ⟨ccl3, cdd3, .fields vs3, ccs3⟩)
    (xv3 : vs3[2]? = some (.str file3 tf3))
    (xw3 : ((l.prog.main.file : Str) == file3) = true)
    (xy3 : PySem.W.ks_superIn K C3 C3 "__init__" = some (some (.builtin "ValueError.__init__")))
    (xz3 : PySem.W.subIn K (.ref C3) (.type "ValueError") = some true)
    (xm3 : PySem.W.mroIn K C3 (.ref C3) = some true)
    (xn3_index : PySem.W.findIn K (.ref C3) "index" = some none)
    (kt3_ScribeError : PySem.W.kitOne K (.ref C3) (.ref C0) = some true)
    (sb3_ScribeError : PySem.W.subIn K (.ref C3) (.ref C0) = some true)
    (kt3_ValueError : PySem.W.kitOne K (.ref C3) (.type "ValueError") = some true)
    (kt3_Refused : PySem.W.kitOne K (.ref C3) (.ref C1) = some false)
    (sb3_Refused : PySem.W.subIn K (.ref C3) (.ref C1) = some false)
    (kt3_NoText : PySem.W.kitOne K (.ref C3) (.ref C2) = some false)
    (sb3_NoText : PySem.W.subIn K (.ref C3) (.ref C2) = some false)
    (kt3_TooFar : PySem.W.kitOne K (.ref C3) (.ref C4) = some false)
    (sb3_TooFar : PySem.W.subIn K (.ref C3) (.ref C4) = some false)
    (kt3_BadNotation : PySem.W.kitOne K (.ref C3) (.ref C5) = some false)
    (sb3_BadNotation : PySem.W.subIn K (.ref C3) (.ref C5) = some false)
    (kt3_BadSteps : PySem.W.kitOne K (.ref C3) (.ref C3) = some true)
    (sb3_BadSteps : PySem.W.subIn K (.ref C3) (.ref C3) = some true)
    (tpG : PySem.W.nsIn K cStatics "thirdparty.any" = some none)
    (topG : (l.prog.main.scope.names.lookup ("super" : Str)).isSome = false)
    : ∃ fd : FuncData, (∀ (s : Shared) (v : Value), BindsTo s fd ⟨[v], []⟩ [("script", v)]) ∧ ∀ base : Heap, K.In base → base.Ns mainGlobals mg → FnOk l.prog w K mg base (L2.CX l.prog w) 7 fa fd ["script"] (spL F_law K) := by
  have e := hfa.symm.trans (PySem.W.mg_of X G a15)
  cases e
  let cl : Nat → Addr := (fun n => match n with | 0 => C0 | 1 => C1 | 2 => C2 | 3 => C3 | 4 => C4 | 5 => C5 | _ => 0)
  have T : Txt K mg cl := ⟨PySem.W.mg_none_of X G z_len, PySem.W.mg_none_of X G z_list, PySem.W.mg_none_of X G z_range, PySem.W.mg_none_of X G z_tuple, PySem.W.mg_none_of X G z_isinstance, PySem.W.mg_none_of X G z_int, PySem.W.mg_none_of X G z_bool, PySem.W.mg_none_of X G z_ValueError, PySem.W.mg_none_of X G z_enumerate, (fun c hx => by unfold xin at hx; simp only [beq_iff_eq] at hx; subst hx; exact ⟨xg3, xh3, bx3, dx3, xc3, hnG, htG, xo3⟩), (fun c hx => by unfold xin at hx; simp only [beq_iff_eq] at hx; subst hx; exact ⟨xg3, xh3, bx3, dx3⟩), (fun c hx => by unfold xin at hx; simp only [beq_iff_eq] at hx; subst hx; exact xn3_index), (fun c b h => by unfold kt_ScribeError at h; split at h; (rename_i e; subst e; cases h; exact kt3_ScribeError); cases h), (fun c b h => by unfold kt_ScribeError at h; split at h; (rename_i e; subst e; cases h; exact PySem.W.exm_ref bx0 dx0 tx0 sb3_ScribeError); cases h), PySem.W.mg_of X G aC0, (fun c b h => by unfold kt_ValueError at h; split at h; (rename_i e; subst e; cases h; exact kt3_ValueError); cases h), (fun c b h => by unfold kt_Refused at h; split at h; (rename_i e; subst e; cases h; exact kt3_Refused); cases h), (fun c b h => by unfold kt_Refused at h; split at h; (rename_i e; subst e; cases h; exact PySem.W.exm_ref bx1 dx1 tx1 sb3_Refused); cases h), PySem.W.mg_of X G aC1, (fun c b h => by unfold kt_NoText at h; split at h; (rename_i e; subst e; cases h; exact kt3_NoText); cases h), (fun c b h => by unfold kt_NoText at h; split at h; (rename_i e; subst e; cases h; exact PySem.W.exm_ref bx2 dx2 tx2 sb3_NoText); cases h), PySem.W.mg_of X G aC2, (fun c b h => by unfold kt_TooFar at h; split at h; (rename_i e; subst e; cases h; exact kt3_TooFar); cases h), (fun c b h => by unfold kt_TooFar at h; split at h; (rename_i e; subst e; cases h; exact PySem.W.exm_ref bx4 dx4 tx4 sb3_TooFar); cases h), PySem.W.mg_of X G aC4, (fun c b h => by unfold kt_BadNotation at h; split at h; (rename_i e; subst e; cases h; exact kt3_BadNotation); cases h), (fun c b h => by unfold kt_BadNotation at h; split at h; (rename_i e; subst e; cases h; exact PySem.W.exm_ref bx5 dx5 tx5 sb3_BadNotation); cases h), PySem.W.mg_of X G aC5, (fun c b h => by unfold kt_BadSteps at h; split at h; (rename_i e; subst e; cases h; exact kt3_BadSteps); cases h), (fun c b h => by unfold kt_BadSteps at h; split at h; (rename_i e; subst e; cases h; exact PySem.W.exm_ref bx3 dx3 tx3 sb3_BadSteps); cases h), PySem.W.mg_of X G aC3⟩
  have X0 := fun_mk (st := s_cost_of) l0 c0 k0
  have X1 := fun_mk (st := s_law_box) l1 c1 k1
  have X2 := fun_mk (st := s_law_cell) l2 c2 k2
  have X3 := fun_mk (st := s_law_due) l3 c3 k3
  have X4 := fun_mk (st := s_law_is_integer) l4 c4 k4
  have X5 := fun_mk (st := s_law_alone) l5 c5 k5
  have X6 := fun_mk (st := s_law_draw) l6 c6 k6
  have X7 := fun_mk (st := s_apply_steps) l7 c7 k7
  have X8 := fun_mk (st := s_law_text) l8 c8 k8
  have X9 := fun_mk (st := s_law_taking) l9 c9 k9
  have X10 := fun_mk (st := s_law_fitting) l10 c10 k10
  have X11 := fun_mk (st := s_law_below_base) l11 c11 k11
  have X12 := fun_mk (st := s_law_steps) l12 c12 k12
  have X13 := fun_mk (st := s_law_same) l13 c13 k13
  have X14 := fun_mk (st := s_law_pair) l14 c14 k14
  have X15 := fun_mk (st := s_law) l15 c15 k15
  refine ⟨PySem.W.fnOf "law" "law" (defArgs s_law) (defBody s_law) (defScope s_law) .none kV15 dc15 pm15 an15 cd15 ct15, fun s v => .of_eq rfl, fun base _ _ => ?_⟩
  have ox3 : OexC K (cl 3) := ⟨⟨_, _, _, _, _, _, _, _, _, _, _, _, _, _, _, xL3, xb3⟩, xs3, bx3, tx3, xk3⟩
  have su3 : SupC l.prog K mg (cl 3) cc3 fx3 cda3 (PySem.W.ksFn "__init__" "BadSteps.__init__" (defArgs s_BadSteps___init__) (defBody s_BadSteps___init__) (defScope s_BadSteps___init__) .none .none dcx3 pmx3 anx3 (.ref cda3) ctx3 cc3) := ⟨ox3, ⟨_, _, _, xl3⟩, ⟨_, rfl, rfl⟩, ⟨_, _, _, xe3⟩, ⟨_, _, _, _, _, _, xf3, xv3, xw3⟩, xy3, xz3, xm3, tpG, PySem.W.mg_none_of X G z_super, topG⟩
  have X_BadSteps : Xk l.prog w K mg base cl 1 3 "BadSteps" 1 [("index", 0)] := ⟨ox3, PySem.W.mg_of X G aC3, _, _, ["self", "index"], xi3, xt3, .all fun us hl => match us, hl with | [_, _], _ => rfl, init1 (k := 0) su3 xl3 xd3 xn3_index sc_BadSteps___init__ (by decide +kernel) rfl (fun _ => rfl) (fun _ => rfl) (fun _ => rfl) (fun _ => rfl) (fun _ => rfl)⟩
  have b0 := X0.binds (ps := ["steps"]) fun _ _ _ _ _ _ us hl => match us, hl with | [_], _ => rfl
  have G_cost_of : Fk l.prog w K mg base cl 1 "cost_of" 1 F_cost_of := ⟨runB_ar, _, _, _, PySem.W.mg_of X G a0, k0, b0, fn_ok X0 sc_cost_of (ok_cost_of T )⟩
  have b1 := X1.binds (ps := ["script"]) fun _ _ _ _ _ _ us hl => match us, hl with | [_], _ => rfl
  have G_law_box : Fk l.prog w K mg base cl 1 "_law_box" 1 F_law_box := ⟨runB_ar, _, _, _, PySem.W.mg_of X G a1, k1, b1, fn_ok X1 sc_law_box (ok_law_box T )⟩
  have b2 := X2.binds (ps := ["box"]) fun _ _ _ _ _ _ us hl => match us, hl with | [_], _ => rfl
  have G_law_cell : Fk l.prog w K mg base cl 1 "_law_cell" 1 F_law_cell := ⟨runB_ar, _, _, _, PySem.W.mg_of X G a2, k2, b2, fn_ok X2 sc_law_cell (ok_law_cell T )⟩
  have b3 := X3.binds (ps := ["text", "steps"]) fun _ _ _ _ _ _ us hl => match us, hl with | [_, _], _ => rfl
  have G_law_due : Fk l.prog w K mg base cl 1 "_law_due" 2 F_law_due := ⟨runB_ar, _, _, _, PySem.W.mg_of X G a3, k3, b3, fn_ok X3 sc_law_due (ok_law_due T )⟩
  have b4 := X4.binds (ps := ["thing"]) fun _ _ _ _ _ _ us hl => match us, hl with | [_], _ => rfl
  have G_law_is_integer : Fk l.prog w K mg base cl 1 "_law_is_integer" 1 F_law_is_integer := ⟨runB_ar, _, _, _, PySem.W.mg_of X G a4, k4, b4, fn_ok X4 sc_law_is_integer (ok_law_is_integer T )⟩
  have b5 := X5.binds (ps := ["error"]) fun _ _ _ _ _ _ us hl => match us, hl with | [_], _ => rfl
  have GP_law_alone : ∀ (a dx : Addr) (c : Nat), xin c = true → Fp l.prog w K mg base cl 1 "_law_alone" 1 a dx c (F_law_alone a dx c) := fun a dx c hx => ⟨runB_ar, _, _, _, PySem.W.mg_of X G a5, k5, b5, fn_okP X5 sc_law_alone (ok_law_alone hx T )⟩
  have b6 := X6.binds (ps := ["box", "many"]) fun _ _ _ _ _ _ us hl => match us, hl with | [_, _], _ => rfl
  have G_law_draw : Fk l.prog w K mg base cl 2 "_law_draw" 2 F_law_draw := ⟨runB_ar, _, _, _, PySem.W.mg_of X G a6, k6, b6, fn_ok X6 sc_law_draw (ok_law_draw T G_law_cell)⟩
  have b7 := X7.binds (ps := ["text", "steps"]) fun _ _ _ _ _ _ us hl => match us, hl with | [_, _], _ => rfl
  have G_apply_steps : Fk l.prog w K mg base cl 3 "apply_steps" 2 F_apply_steps := ⟨runB_ar, _, _, _, PySem.W.mg_of X G a7, k7, b7, fn_ok X7 sc_apply_steps (ok_apply_steps T X_BadSteps)⟩
  have b8 := X8.binds (ps := ["box"]) fun _ _ _ _ _ _ us hl => match us, hl with | [_], _ => rfl
  have G_law_text : Fk l.prog w K mg base cl 3 "_law_text" 1 F_law_text := ⟨runB_ar, _, _, _, PySem.W.mg_of X G a8, k8, b8, fn_ok X8 sc_law_text (ok_law_text T G_law_draw)⟩
  have b9 := X9.binds (ps := ["box", "byte"]) fun _ _ _ _ _ _ us hl => match us, hl with | [_, _], _ => rfl
  have G_law_taking : Fk l.prog w K mg base cl 3 "_law_taking" 2 F_law_taking := ⟨runB_ar, _, _, _, PySem.W.mg_of X G a9, k9, b9, fn_ok X9 sc_law_taking (ok_law_taking T G_law_draw)⟩
  have b10 := X10.binds (ps := ["box", "text"]) fun _ _ _ _ _ _ us hl => match us, hl with | [_, _], _ => rfl
  have G_law_fitting : Fk l.prog w K mg base cl 4 "_law_fitting" 2 F_law_fitting := ⟨runB_ar, _, _, _, PySem.W.mg_of X G a10, k10, b10, fn_ok X10 sc_law_fitting (ok_law_fitting T G_law_draw G_law_taking)⟩
  have b11 := X11.binds (ps := ["text", "steps"]) fun _ _ _ _ _ _ us hl => match us, hl with | [_, _], _ => rfl
  have G_law_below_base : Fk l.prog w K mg base cl 4 "_law_below_base" 2 F_law_below_base := ⟨runB_ar, _, _, _, PySem.W.mg_of X G a11, k11, b11, fn_ok X11 sc_law_below_base (ok_law_below_base T G_apply_steps)⟩
  have b12 := X12.binds (ps := ["box", "text", "way"]) fun _ _ _ _ _ _ us hl => match us, hl with | [_, _, _], _ => rfl
  have G_law_steps : Fk l.prog w K mg base cl 5 "_law_steps" 3 F_law_steps := ⟨runB_ar, _, _, _, PySem.W.mg_of X G a12, k12, b12, fn_ok X12 sc_law_steps (ok_law_steps T G_law_draw G_law_taking G_law_fitting)⟩
  have b13 := X13.binds (ps := ["text", "steps"]) fun _ _ _ _ _ _ us hl => match us, hl with | [_, _], _ => rfl
  have G_law_same : Fk l.prog w K mg base cl 5 "_law_same" 2 F_law_same := ⟨runB_ar, _, _, _, PySem.W.mg_of X G a13, k13, b13, fn_ok X13 sc_law_same (ok_law_same T G_law_due G_cost_of G_law_is_integer G_apply_steps G_law_below_base GP_law_alone)⟩
  have b14 := X14.binds (ps := ["box"]) fun _ _ _ _ _ _ us hl => match us, hl with | [_], _ => rfl
  have G_law_pair : Fk l.prog w K mg base cl 6 "_law_pair" 1 F_law_pair := ⟨runB_ar, _, _, _, PySem.W.mg_of X G a14, k14, b14, fn_ok X14 sc_law_pair (ok_law_pair T G_law_draw G_law_text G_law_steps)⟩
  exact (fn_ok X15 sc_law (ok_law T G_law_box G_law_pair G_law_same)).imp fun vs H Q E h => h cl
end Kw

namespace Kc
open PySem PySem.Spec PyProof.Rows L2
/-! ### what a reading gives: by its ends -/
def RW0 {α : Type} (r : R α) (Q : α → Sto → Prop) (X : Ex → Sto → Prop) : Prop := match r with
  | .ok a s => Q a s
  | .exc x s => X x s
  | .bad => False
structure RW {α : Type} (r : R α) (Q : α → Sto → Prop) (X : Ex → Sto → Prop) : Prop where
  out : RW0 r Q X
structure Po where
  nx : Env → Sto → Prop
  rt : D → Sto → Prop
  bk : Env → Sto → Prop
  ct : Env → Sto → Prop
  xc : Ex → Env → Sto → Prop
def ZW0 (z : Z) (P : Po) : Prop := match z with
  | .nx e s => P.nx e s
  | .rt d s => P.rt d s
  | .bk e s => P.bk e s
  | .ct e s => P.ct e s
  | .exc x e s => P.xc x e s
  | .bad => False
structure ZW (z : Z) (P : Po) : Prop where
  out : ZW0 z P
def noX : Ex → Sto → Prop := fun _ _ => False
section
variable {α β : Type} {Q : α → Sto → Prop} {X : Ex → Sto → Prop} {P : Po}
theorem RW.of {a : α} {s : Sto} (h : Q a s) : RW (.ok a s) Q X := ⟨h⟩
theorem ZW.ofN {e : Env} {s : Sto} (h : P.nx e s) : ZW (.nx e s) P := ⟨h⟩
theorem ZW.ofR {d : D} {s : Sto} (h : P.rt d s) : ZW (.rt d s) P := ⟨h⟩
theorem ZW.ofB {e : Env} {s : Sto} (h : P.bk e s) : ZW (.bk e s) P := ⟨h⟩
theorem ZW.ofC {e : Env} {s : Sto} (h : P.ct e s) : ZW (.ct e s) P := ⟨h⟩
theorem rw_ok {a : α} {s : Sto} : RW (.ok a s) Q X = Q a s := propext ⟨fun h => h.out, fun h => ⟨h⟩⟩
theorem rw_bad : RW (.bad : R α) Q X = False := propext ⟨fun h => h.out, fun h => ⟨h⟩⟩
theorem rw_exc {x : Ex} {s : Sto} : RW (.exc x s : R α) Q X = X x s := propext ⟨fun h => h.out, fun h => ⟨h⟩⟩
theorem rw_bind {r : R β} {k : β → Sto → R α} : RW (r.bind k) Q X = RW r (fun b s => RW (k b s) Q X) X := by
  cases r with
  | ok a s => rw [rw_ok]; rfl
  | exc x s => rw [rw_exc]; exact rw_exc
  | bad => rw [rw_bad]; exact rw_bad
theorem zw_nx {e : Env} {s : Sto} : ZW (.nx e s) P = P.nx e s := propext ⟨fun h => h.out, fun h => ⟨h⟩⟩
theorem zw_rt {d : D} {s : Sto} : ZW (.rt d s) P = P.rt d s := propext ⟨fun h => h.out, fun h => ⟨h⟩⟩
theorem zw_bk {e : Env} {s : Sto} : ZW (.bk e s) P = P.bk e s := propext ⟨fun h => h.out, fun h => ⟨h⟩⟩
theorem zw_ct {e : Env} {s : Sto} : ZW (.ct e s) P = P.ct e s := propext ⟨fun h => h.out, fun h => ⟨h⟩⟩
theorem zw_exc {x : Ex} {e : Env} {s : Sto} : ZW (.exc x e s) P = P.xc x e s := propext ⟨fun h => h.out, fun h => ⟨h⟩⟩
theorem zw_bad : ZW .bad P = False := propext ⟨fun h => h.out, fun h => ⟨h⟩⟩
theorem rw_z {r : R β} {env : Env} {k : β → Sto → Z} : ZW (r.z env k) P = RW r (fun b s => ZW (k b s) P) fun x s => P.xc x env s := by
  cases r with
  | ok a s => rw [rw_ok]; rfl
  | exc x s => rw [rw_exc]; exact zw_exc
  | bad => rw [rw_bad]; exact zw_bad
theorem zw_then {z : Z} {g : FS} : ZW (z.then g) P = ZW z { P with nx := fun e s => ZW (g e s) P } := by
  cases z with
  | nx e s => rw [zw_nx]; rfl
  | rt d s => rw [zw_rt]; exact zw_rt
  | bk d s => rw [zw_bk]; exact zw_bk
  | ct d s => rw [zw_ct]; exact zw_ct
  | exc x e s => rw [zw_exc]; exact zw_exc
  | bad => rw [zw_bad]; exact zw_bad
theorem RW.mono {r : R α} {Q' : α → Sto → Prop} {X' : Ex → Sto → Prop} (h : RW r Q X) (hq : ∀ a s, Q a s → Q' a s) (hx : ∀ x s, X x s → X' x s) : RW r Q' X' := by
  cases r with
  | ok a s => exact ⟨hq a s h.out⟩
  | exc x s => exact ⟨hx x s h.out⟩
  | bad => exact ⟨h.out⟩
/-- of what never raises -/
theorem RW.to {r : R α} {Q' : α → Sto → Prop} {X' : Ex → Sto → Prop} (h : RW r Q noX) (hq : ∀ a s, Q a s → Q' a s) : RW r Q' X' := h.mono hq fun _ _ z => z.elim
theorem ZW.mono {z : Z} {P' : Po} (h : ZW z P) (h1 : ∀ e s, P.nx e s → P'.nx e s) (h2 : ∀ d s, P.rt d s → P'.rt d s) (h3 : ∀ e s, P.bk e s → P'.bk e s) (h4 : ∀ e s, P.ct e s → P'.ct e s) (h5 : ∀ x e s, P.xc x e s → P'.xc x e s) : ZW z P' := by
  cases z with
  | nx e s => exact ⟨h1 e s h.out⟩
  | rt d s => exact ⟨h2 d s h.out⟩
  | bk e s => exact ⟨h3 e s h.out⟩
  | ct e s => exact ⟨h4 e s h.out⟩
  | exc x e s => exact ⟨h5 x e s h.out⟩
  | bad => exact ⟨h.out⟩
/-- a def's run -/
def endP (Q : D → Sto → Prop) (X : Ex → Sto → Prop) : Po := ⟨fun _ s => Q .non s, Q, fun _ _ => False, fun _ _ => False, fun x _ s => X x s⟩
theorem rw_run {n N : Nat} {f : FS} {ds : List D} {st : Sto} {Q : D → Sto → Prop} (hl : ds.length = n) (h : ZW (f (ds.map some ++ List.replicate (N - n) none) st) (endP Q X)) : RW (runB n N f ds st) Q X := by
  unfold runB
  rw [if_pos hl]
  generalize f (ds.map some ++ List.replicate (N - n) none) st = z at h
  cases z with
  | nx e s => exact ⟨h.out⟩
  | rt d s => exact ⟨h.out⟩
  | bk e s => exact h.out.elim
  | ct e s => exact h.out.elim
  | exc x e s => exact ⟨h.out⟩
  | bad => exact h.out.elim
theorem rw_eq {r : R α} {a : α} {s : Sto} (h : r = .ok a s) (q : Q a s) : RW r Q X := by rw [h]; exact ⟨q⟩
theorem rw_iff {r : R α} : RW r Q noX ↔ ∃ a s, r = .ok a s ∧ Q a s := by
  cases r with
  | ok a s => exact ⟨fun h => ⟨a, s, rfl, h.out⟩, fun ⟨_, _, e, h⟩ => by cases e; exact ⟨h⟩⟩
  | exc x s => exact ⟨fun h => h.out.elim, fun ⟨_, _, e, _⟩ => by cases e⟩
  | bad => exact ⟨fun h => h.out.elim, fun ⟨_, _, e, _⟩ => by cases e⟩
theorem zw_for {it : Itn} {g : FG} {body : FS} {env : Env} {st : Sto} (n : Nat) (Inv : Nat → Env → Sto → Prop) (hn : n < fuel) (h0 : Inv 0 env st)
    (step : ∀ i env st, i < n → Inv i env st → ∃ d, it.get st i = some (some d) ∧ RW (g d env st) (fun env' s => ZW (body env' s) { P with nx := Inv (i + 1), ct := Inv (i + 1), bk := P.nx }) (fun x s => P.xc x env s))
    (fin : ∀ env st, Inv n env st → it.get st n = some none ∧ P.nx env st) : ZW (forI it g body fuel 0 env st) P := by
  have key : ∀ k i env st, i ≤ n → n - i < k → Inv i env st → ZW (forI it g body k i env st) P := by
    intro k
    induction k with
    | zero => intro i env st _ h; omega
    | succ k ih =>
      intro i env st hi hk hI
      unfold forI
      rcases Nat.lt_or_eq_of_le hi with hlt | he
      · obtain ⟨d, e, h⟩ := step i env st hlt hI
        rw [e]
        dsimp only
        rw [rw_z]
        refine h.mono (fun env' s hb => ?_) fun _ _ z => z
        have nx : ∀ e s, Inv (i + 1) e s → ZW (forI it g body k (i + 1) e s) P := fun e s q => ih (i + 1) e s hlt (by omega) q
        generalize body env' s = z at hb
        cases z with
        | nx e s => exact nx e s hb.out
        | ct e s => exact nx e s hb.out
        | bk e s => exact ⟨hb.out⟩
        | rt d s => exact ⟨hb.out⟩
        | exc x e s => exact ⟨hb.out⟩
        | bad => exact ⟨hb.out⟩
      · subst he
        obtain ⟨e, h⟩ := fin env st hI
        rw [e]
        exact ⟨h⟩
  exact key fuel 0 env st (Nat.zero_le _) (by omega) h0
theorem rw_comp {it : Itn} {tg : D → Env → Option Env} {cond : FB} {elt : FE} {env : Env} {st : Sto} {Q : List D → Sto → Prop} (n : Nat) (Inv : Nat → List D → Sto → Prop) (hn : n < fuel) (h0 : Inv 0 [] st)
    (step : ∀ i acc st, i < n → Inv i acc st → ∃ d env', it.get st i = some (some d) ∧ tg d env = some env' ∧ RW (cond env' st) (fun b s => (b = true → RW (elt env' s) (fun y s => acc.length < sizeLine ∧ Inv (i + 1) (acc ++ [y]) s) noX) ∧ (b = false → Inv (i + 1) acc s)) noX)
    (fin : ∀ acc st, Inv n acc st → it.get st n = some none ∧ Q acc st) : RW (compI it tg cond elt env fuel 0 [] st) Q X := by
  have key : ∀ k i acc st, i ≤ n → n - i < k → Inv i acc st → RW (compI it tg cond elt env k i acc st) Q X := by
    intro k
    induction k with
    | zero => intro i acc st _ h; omega
    | succ k ih =>
      intro i acc st hi hk hI
      unfold compI
      rcases Nat.lt_or_eq_of_le hi with hlt | he
      · obtain ⟨d, env', e, et, h⟩ := step i acc st hlt hI
        rw [e]
        dsimp only
        rw [et]
        dsimp only
        obtain ⟨b, s, eb, hb⟩ := rw_iff.mp h
        rw [eb]
        show RW (if b = true then _ else _) Q X
        cases b with
        | false =>
          rw [if_neg (by decide)]
          exact ih (i + 1) acc s hlt (by omega) (hb.2 rfl)
        | true =>
          rw [if_pos rfl]
          obtain ⟨y, s2, ey, hz, hy⟩ := rw_iff.mp (hb.1 rfl)
          rw [ey]
          show RW (if acc.length < sizeLine then _ else _) Q X
          rw [if_pos hz]
          exact ih (i + 1) _ s2 hlt (by omega) hy
      · subst he
        obtain ⟨e, h⟩ := fin acc st hI
        rw [e]
        exact ⟨h⟩
  exact key fuel 0 [] st (Nat.zero_le _) (by omega) h0
theorem zw_while {c : FB} {body : FS} {env : Env} {st : Sto} (n : Nat) (Inv : Nat → Env → Sto → Prop) (hn : n < fuel) (h0 : Inv n env st)
    (step : ∀ i env st, Inv i env st → RW (c env st) (fun b s => (b = true → 0 < i ∧ ZW (body env s) { P with nx := fun e s => ∃ j, j < i ∧ Inv j e s, ct := fun e s => ∃ j, j < i ∧ Inv j e s, bk := P.nx }) ∧ (b = false → P.nx env s)) fun x s => P.xc x env s) : ZW (whileI c body fuel env st) P := by
  have key : ∀ k i env st, i < k → Inv i env st → ZW (whileI c body k env st) P := by
    intro k
    induction k with
    | zero => intro i env st h; omega
    | succ k ih =>
      intro i env st hi hI
      unfold whileI
      rw [rw_z]
      refine (step i env st hI).mono (fun b s hb => ?_) fun _ _ z => z
      cases b with
      | false =>
        rw [if_neg (by decide)]
        exact ⟨hb.2 rfl⟩
      | true =>
        rw [if_pos rfl]
        obtain ⟨h0, hb⟩ := hb.1 rfl
        generalize body env s = z at hb
        cases z with
        | nx e s => obtain ⟨j, hj, q⟩ := hb.out; exact ih j e s (by omega) q
        | ct e s => obtain ⟨j, hj, q⟩ := hb.out; exact ih j e s (by omega) q
        | bk e s => exact ⟨hb.out⟩
        | rt d s => exact ⟨hb.out⟩
        | exc x e s => exact ⟨hb.out⟩
        | bad => exact ⟨hb.out⟩
  exact key fuel n env st hn h0
end
/-! ### the store: an object of the store changes, new ones come -/
/-- all but the places in ps stays -/
structure Ext (ps : List Nat) (st st' : Sto) : Prop where
  len : st.length ≤ st'.length
  at_ : ∀ l, l ∉ ps → l < st.length → st'[l]? = st[l]?
theorem Ext.refl {ps : List Nat} {st : Sto} : Ext ps st st := ⟨Nat.le_refl _, fun _ _ _ => rfl⟩
theorem Ext.trans {ps : List Nat} {a b c : Sto} (x : Ext ps a b) (y : Ext ps b c) : Ext ps a c := ⟨Nat.le_trans x.len y.len, fun l h h2 => (y.at_ l h (Nat.lt_of_lt_of_le h2 x.len)).trans (x.at_ l h h2)⟩
theorem Ext.mono {ps qs : List Nat} {a b : Sto} (x : Ext ps a b) (h : ∀ l ∈ ps, l ∈ qs) : Ext qs a b := ⟨x.len, fun l hl => x.at_ l fun z => hl (h l z)⟩
theorem Ext.get {ps : List Nat} {a b : Sto} (x : Ext ps a b) {l : Nat} {o : O} (h : a[l]? = some o) (hl : l ∉ ps) : b[l]? = some o := (x.at_ l hl (List.getElem?_eq_some_iff.mp h).1).trans h
theorem Ext.push {ps : List Nat} {st : Sto} {o : O} : Ext ps st (st ++ [o]) := ⟨by simp, fun l _ h => by rw [List.getElem?_append_left h]⟩
theorem Ext.set {ps : List Nat} {st : Sto} {o : O} {l : Nat} (h : l ∈ ps) : Ext ps st (st.set l o) := ⟨by simp, fun k hk _ => by rw [List.getElem?_set_ne (fun e => hk (by rw [← e]; exact h))]⟩
/-- a place that is not old may change -/
theorem Ext.setNew {ps : List Nat} {a b : Sto} {o : O} {l : Nat} (x : Ext ps a b) (h : a.length ≤ l) : Ext ps a (b.set l o) := ⟨by rw [List.length_set]; exact x.len, fun k hk hl => by rw [List.getElem?_set_ne (by omega)]; exact x.at_ k hk hl⟩
theorem push_at {st : Sto} {o : O} : (st ++ [o])[st.length]? = some o := by rw [List.getElem?_append_right (Nat.le_refl _)]; simp
theorem set_at {st : Sto} {o x : O} {l : Nat} (h : st[l]? = some x) : (st.set l o)[l]? = some o := by rw [List.getElem?_set_self (List.getElem?_eq_some_iff.mp h).1]
theorem set_ne {st : Sto} {o : O} {l k : Nat} (h : l ≠ k) : (st.set l o)[k]? = st[k]? := List.getElem?_set_ne h
end Kc

namespace Kc
open PySem PySem.Spec PyProof.Rows L2
/-! ### one rule for each reading: backwards -/
section
variable {α : Type} {env : Env} {st : Sto} {P : Po} {Q : D → Sto → Prop} {QA : List D → Sto → Prop} {QB : Bool → Sto → Prop} {QI : Itn → Sto → Prop} {QE : Env → Sto → Prop} {QO : Option Int → Sto → Prop} {X : Ex → Sto → Prop} {f g h : FE} {fa : FA} {p q : FB} {u v : FS} {ι : FI} {gg : FG} {lo hi : FO}
theorem zs_seq (k : ZW (u env st) { P with nx := fun e s => ZW (v e s) P }) : ZW (sSeq u v env st) P := by unfold sSeq; rw [zw_then]; first | exact k | exact RW.of k | exact k.mono (fun _ _ h => ⟨h⟩) fun _ _ z => z | exact k.mono (fun _ _ h => h.mono (fun _ _ h => ⟨h⟩) fun _ _ z => z) fun _ _ z => z
theorem zq_asg (k : ZW (sAsg f gg env st) { P with nx := fun e s => ZW (v e s) P }) : ZW (sSeq (sAsg f gg) v env st) P := zs_seq k
theorem zq_drop (k : ZW (sDrop f env st) { P with nx := fun e s => ZW (v e s) P }) : ZW (sSeq (sDrop f) v env st) P := zs_seq k
theorem zs_asg (k : RW (f env st) (fun d s => RW (gg d env s) (fun e s => P.nx e s) fun x s => P.xc x env s) fun x s => P.xc x env s) : ZW (sAsg f gg env st) P := by unfold sAsg; rw [rw_z]; simp only [rw_z, zw_nx]; first | exact k | exact RW.of k | exact k.mono (fun _ _ h => ⟨h⟩) fun _ _ z => z | exact k.mono (fun _ _ h => h.mono (fun _ _ h => ⟨h⟩) fun _ _ z => z) fun _ _ z => z
theorem zs_drop (k : RW (f env st) (fun _ s => P.nx env s) fun x s => P.xc x env s) : ZW (sDrop f env st) P := by unfold sDrop; rw [rw_z]; first | exact k | exact RW.of k | exact k.mono (fun _ _ h => ⟨h⟩) fun _ _ z => z | exact k.mono (fun _ _ h => h.mono (fun _ _ h => ⟨h⟩) fun _ _ z => z) fun _ _ z => z
theorem zs_ret (k : RW (f env st) (fun d s => P.rt d s) fun x s => P.xc x env s) : ZW (sRet f env st) P := by unfold sRet; rw [rw_z]; first | exact k | exact RW.of k | exact k.mono (fun _ _ h => ⟨h⟩) fun _ _ z => z | exact k.mono (fun _ _ h => h.mono (fun _ _ h => ⟨h⟩) fun _ _ z => z) fun _ _ z => z
theorem zs_retN (k : P.rt .non st) : ZW (sRetN env st) P := by first | exact k | exact RW.of k | exact ZW.ofN k | exact ZW.ofR k | exact ZW.ofB k | exact ZW.ofC k
theorem zs_next (k : P.nx env st) : ZW (sNext env st) P := by first | exact k | exact RW.of k | exact ZW.ofN k | exact ZW.ofR k | exact ZW.ofB k | exact ZW.ofC k
theorem zs_brk (k : P.bk env st) : ZW (sBrk env st) P := by first | exact k | exact RW.of k | exact ZW.ofN k | exact ZW.ofR k | exact ZW.ofB k | exact ZW.ofC k
theorem zs_cnt (k : P.ct env st) : ZW (sCnt env st) P := by first | exact k | exact RW.of k | exact ZW.ofN k | exact ZW.ofR k | exact ZW.ofB k | exact ZW.ofC k
theorem zs_if (k : RW (p env st) (fun b s => ZW (if b = true then u env s else v env s) P) fun x s => P.xc x env s) : ZW (sIf p u v env st) P := by unfold sIf; rw [rw_z]; first | exact k | exact RW.of k | exact k.mono (fun _ _ h => ⟨h⟩) fun _ _ z => z | exact k.mono (fun _ _ h => h.mono (fun _ _ h => ⟨h⟩) fun _ _ z => z) fun _ _ z => z
theorem zs_for (k : RW (ι env st) (fun it s => ZW (forI it gg u fuel 0 env s) P) fun x s => P.xc x env s) : ZW (sFor ι gg u env st) P := by unfold sFor; rw [rw_z]; first | exact k | exact RW.of k | exact k.mono (fun _ _ h => ⟨h⟩) fun _ _ z => z | exact k.mono (fun _ _ h => h.mono (fun _ _ h => ⟨h⟩) fun _ _ z => z) fun _ _ z => z
theorem zs_while (k : ZW (whileI p u fuel env st) P) : ZW (sWhile p u env st) P := by first | exact k | exact RW.of k | exact ZW.ofN k | exact ZW.ofR k | exact ZW.ofB k | exact ZW.ofC k
theorem z_true {a b : Z} (k : ZW a P) : ZW (if true = true then a else b) P := by first | exact k | exact RW.of k | exact ZW.ofN k | exact ZW.ofR k | exact ZW.ofB k | exact ZW.ofC k
theorem z_false {a b : Z} (k : ZW b P) : ZW (if false = true then a else b) P := by first | exact k | exact RW.of k | exact ZW.ofN k | exact ZW.ofR k | exact ZW.ofB k | exact ZW.ofC k
theorem z_ite {a b : Z} {c : Bool} (h1 : c = true → ZW a P) (h2 : c = false → ZW b P) : ZW (if c = true then a else b) P := by
  cases c with
  | true => exact h1 rfl
  | false => exact h2 rfl
theorem z_dec {a b : Z} {c : Prop} [Decidable c] (h1 : c → ZW a P) (h2 : ¬ c → ZW b P) : ZW (if decide c = true then a else b) P := by
  by_cases h : c
  · rw [decide_eq_true h]; exact h1 h
  · rw [decide_eq_false h]; exact h2 h
theorem z_ndec {a b : Z} {c : Prop} [Decidable c] (h1 : ¬ c → ZW a P) (h2 : c → ZW b P) : ZW (if (!decide c) = true then a else b) P := by
  by_cases h : c
  · rw [decide_eq_true h]; exact h2 h
  · rw [decide_eq_false h]; exact h1 h
theorem r_var {i : Nat} {d : D} (e : env[i]? = some (some d)) (k : Q d st) : RW (bVar i env st) Q X := by unfold bVar; rw [e]; first | exact k | exact RW.of k | exact k.mono (fun _ _ h => ⟨h⟩) fun _ _ z => z | exact k.mono (fun _ _ h => h.mono (fun _ _ h => ⟨h⟩) fun _ _ z => z) fun _ _ z => z
theorem r_k {d : D} (k : Q d st) : RW (bK d env st) Q X := by first | exact k | exact RW.of k | exact ZW.ofN k | exact ZW.ofR k | exact ZW.ofB k | exact ZW.ofC k
theorem r_op {o : D → D → Sto → R D} (k : RW (f env st) (fun x s => RW (g env s) (fun y s => RW (o x y s) Q X) X) X) : RW (bOp o f g env st) Q X := by unfold bOp; rw [rw_bind]; simp only [rw_bind]; first | exact k | exact RW.of k | exact k.mono (fun _ _ h => ⟨h⟩) fun _ _ z => z | exact k.mono (fun _ _ h => h.mono (fun _ _ h => ⟨h⟩) fun _ _ z => z) fun _ _ z => z
theorem r_un {o : D → Sto → R D} (k : RW (f env st) (fun x s => RW (o x s) Q X) X) : RW (bUn o f env st) Q X := by unfold bUn; rw [rw_bind]; first | exact k | exact RW.of k | exact k.mono (fun _ _ h => ⟨h⟩) fun _ _ z => z | exact k.mono (fun _ _ h => h.mono (fun _ _ h => ⟨h⟩) fun _ _ z => z) fun _ _ z => z
theorem r_nil (k : QA [] st) : RW (bNil env st) QA X := by first | exact k | exact RW.of k | exact ZW.ofN k | exact ZW.ofR k | exact ZW.ofB k | exact ZW.ofC k
theorem r_cons (k : RW (f env st) (fun x s => RW (fa env s) (fun xs s => QA (x :: xs) s) X) X) : RW (bCons f fa env st) QA X := by unfold bCons; rw [rw_bind]; simp only [rw_bind, rw_ok]; first | exact k | exact RW.of k | exact k.mono (fun _ _ h => ⟨h⟩) fun _ _ z => z | exact k.mono (fun _ _ h => h.mono (fun _ _ h => ⟨h⟩) fun _ _ z => z) fun _ _ z => z
def mkT (xs : List D) (s : Sto) : R D := if xs.length ≤ sizeLine then .ok (.tup xs) s else .bad
def mkP (xs : List D) (s : Sto) : R D := if xs.length ≤ sizeLine then .ok (.ptp xs) s else .bad
def mkL (xs : List D) (s : Sto) : R D := if xs.length ≤ sizeLine then newL xs s else .bad
theorem r_tup (k : RW (fa env st) (fun xs s => RW (mkT xs s) Q X) X) : RW (bTup fa env st) Q X := by unfold bTup; rw [rw_bind]; first | exact k | exact RW.of k | exact k.mono (fun _ _ h => ⟨h⟩) fun _ _ z => z | exact k.mono (fun _ _ h => h.mono (fun _ _ h => ⟨h⟩) fun _ _ z => z) fun _ _ z => z
theorem r_ptp (k : RW (fa env st) (fun xs s => RW (mkP xs s) Q X) X) : RW (bPtp fa env st) Q X := by unfold bPtp; rw [rw_bind]; first | exact k | exact RW.of k | exact k.mono (fun _ _ h => ⟨h⟩) fun _ _ z => z | exact k.mono (fun _ _ h => h.mono (fun _ _ h => ⟨h⟩) fun _ _ z => z) fun _ _ z => z
theorem r_lst (k : RW (fa env st) (fun xs s => RW (mkL xs s) Q X) X) : RW (bLst fa env st) Q X := by unfold bLst; rw [rw_bind]; first | exact k | exact RW.of k | exact k.mono (fun _ _ h => ⟨h⟩) fun _ _ z => z | exact k.mono (fun _ _ h => h.mono (fun _ _ h => ⟨h⟩) fun _ _ z => z) fun _ _ z => z
theorem r_mkT {xs : List D} (z : xs.length ≤ sizeLine) (k : Q (.tup xs) st) : RW (mkT xs st) Q X := by unfold mkT; rw [if_pos z]; first | exact k | exact RW.of k | exact k.mono (fun _ _ h => ⟨h⟩) fun _ _ z => z | exact k.mono (fun _ _ h => h.mono (fun _ _ h => ⟨h⟩) fun _ _ z => z) fun _ _ z => z
theorem r_mkP {xs : List D} (z : xs.length ≤ sizeLine) (k : Q (.ptp xs) st) : RW (mkP xs st) Q X := by unfold mkP; rw [if_pos z]; first | exact k | exact RW.of k | exact k.mono (fun _ _ h => ⟨h⟩) fun _ _ z => z | exact k.mono (fun _ _ h => h.mono (fun _ _ h => ⟨h⟩) fun _ _ z => z) fun _ _ z => z
theorem r_mkL {xs : List D} (z : xs.length ≤ sizeLine) (k : Q (.obj st.length) (st ++ [.lst xs])) : RW (mkL xs st) Q X := by unfold mkL; rw [if_pos z]; first | exact k | exact RW.of k | exact k.mono (fun _ _ h => ⟨h⟩) fun _ _ z => z | exact k.mono (fun _ _ h => h.mono (fun _ _ h => ⟨h⟩) fun _ _ z => z) fun _ _ z => z
theorem r_newL {xs : List D} (k : Q (.obj st.length) (st ++ [.lst xs])) : RW (newL xs st) Q X := by first | exact k | exact RW.of k | exact ZW.ofN k | exact ZW.ofR k | exact ZW.ofB k | exact ZW.ofC k
theorem r_ife (k : RW (p env st) (fun b s => RW (if b = true then f env s else g env s) Q X) X) : RW (bIf p f g env st) Q X := by unfold bIf; rw [rw_bind]; first | exact k | exact RW.of k | exact k.mono (fun _ _ h => ⟨h⟩) fun _ _ z => z | exact k.mono (fun _ _ h => h.mono (fun _ _ h => ⟨h⟩) fun _ _ z => z) fun _ _ z => z
theorem r_if1 {a b : R α} {Q : α → Sto → Prop} (k : RW a Q X) : RW (if true = true then a else b) Q X := by first | exact k | exact RW.of k | exact ZW.ofN k | exact ZW.ofR k | exact ZW.ofB k | exact ZW.ofC k
theorem r_if0 {a b : R α} {Q : α → Sto → Prop} (k : RW b Q X) : RW (if false = true then a else b) Q X := by first | exact k | exact RW.of k | exact ZW.ofN k | exact ZW.ofR k | exact ZW.ofB k | exact ZW.ofC k
theorem r_dec {a b : R α} {c : Prop} [Decidable c] {Q : α → Sto → Prop} (h1 : c → RW a Q X) (h2 : ¬ c → RW b Q X) : RW (if decide c = true then a else b) Q X := by
  by_cases h : c
  · rw [decide_eq_true h]; exact h1 h
  · rw [decide_eq_false h]; exact h2 h
theorem r_and (k : RW (p env st) (fun b s => RW (if b = true then q env s else .ok false s) QB X) X) : RW (bAnd p q env st) QB X := by unfold bAnd; rw [rw_bind]; first | exact k | exact RW.of k | exact k.mono (fun _ _ h => ⟨h⟩) fun _ _ z => z | exact k.mono (fun _ _ h => h.mono (fun _ _ h => ⟨h⟩) fun _ _ z => z) fun _ _ z => z
theorem r_or (k : RW (p env st) (fun b s => RW (if b = true then .ok true s else q env s) QB X) X) : RW (bOr p q env st) QB X := by unfold bOr; rw [rw_bind]; first | exact k | exact RW.of k | exact k.mono (fun _ _ h => ⟨h⟩) fun _ _ z => z | exact k.mono (fun _ _ h => h.mono (fun _ _ h => ⟨h⟩) fun _ _ z => z) fun _ _ z => z
theorem r_not (k : RW (p env st) (fun b s => QB (!b) s) X) : RW (bNot p env st) QB X := by unfold bNot; rw [rw_bind]; first | exact k | exact RW.of k | exact k.mono (fun _ _ h => ⟨h⟩) fun _ _ z => z | exact k.mono (fun _ _ h => h.mono (fun _ _ h => ⟨h⟩) fun _ _ z => z) fun _ _ z => z
theorem r_ok {a : α} {Q : α → Sto → Prop} (k : Q a st) : RW (.ok a st) Q X := by first | exact k | exact RW.of k | exact ZW.ofN k | exact ZW.ofR k | exact ZW.ofB k | exact ZW.ofC k
def asB (x : D) (s : Sto) : R Bool := match x with
  | .bl b => .ok b s
  | _ => .bad
theorem r_bool (k : RW (f env st) (fun x s => RW (asB x s) QB X) X) : RW (bBool f env st) QB X := by unfold bBool; rw [rw_bind]; first | exact k | exact RW.of k | exact k.mono (fun _ _ h => ⟨h⟩) fun _ _ z => z | exact k.mono (fun _ _ h => h.mono (fun _ _ h => ⟨h⟩) fun _ _ z => z) fun _ _ z => z
theorem r_asB {b : Bool} (k : QB b st) : RW (asB (.bl b) st) QB X := by first | exact k | exact RW.of k | exact ZW.ofN k | exact ZW.ofR k | exact ZW.ofB k | exact ZW.ofC k
def asTru (x : D) (s : Sto) : R Bool := match truth s x with
  | some b => .ok b s
  | none => .bad
theorem r_tru (k : RW (f env st) (fun x s => RW (asTru x s) QB X) X) : RW (bTru f env st) QB X := by unfold bTru; rw [rw_bind]; first | exact k | exact RW.of k | exact k.mono (fun _ _ h => ⟨h⟩) fun _ _ z => z | exact k.mono (fun _ _ h => h.mono (fun _ _ h => ⟨h⟩) fun _ _ z => z) fun _ _ z => z
theorem r_truB {b : Bool} (k : QB b st) : RW (asTru (.bl b) st) QB X := by first | exact k | exact RW.of k | exact ZW.ofN k | exact ZW.ofR k | exact ZW.ofB k | exact ZW.ofC k
theorem r_truI {i : Int} (k : QB (i != 0) st) : RW (asTru (.int i) st) QB X := by first | exact k | exact RW.of k | exact ZW.ofN k | exact ZW.ofR k | exact ZW.ofB k | exact ZW.ofC k
theorem r_truO {l : Nat} {ds : List D} (e : st[l]? = some (.lst ds)) (k : QB (!ds.isEmpty) st) : RW (asTru (.obj l) st) QB X := by
  have : truth st (.obj l) = some (!ds.isEmpty) := by
    show (lstOf st (.obj l)).map _ = _
    unfold lstOf
    dsimp only
    rw [e]
    rfl
  unfold asTru
  rw [this]
  first | exact k | exact RW.of k | exact k.mono (fun _ _ h => ⟨h⟩) fun _ _ z => z | exact k.mono (fun _ _ h => h.mono (fun _ _ h => ⟨h⟩) fun _ _ z => z) fun _ _ z => z
def andV (x : D) (g : FE) (env : Env) (s : Sto) : R D := match x with
  | .bl true => g env s
  | .bl false => .ok (.bl false) s
  | _ => .bad
def orV (x : D) (g : FE) (env : Env) (s : Sto) : R D := match x with
  | .bl true => .ok (.bl true) s
  | .bl false => g env s
  | _ => .bad
theorem r_andV (k : RW (f env st) (fun x s => RW (andV x g env s) Q X) X) : RW (bAndV f g env st) Q X := by unfold bAndV; rw [rw_bind]; first | exact k | exact RW.of k | exact k.mono (fun _ _ h => ⟨h⟩) fun _ _ z => z | exact k.mono (fun _ _ h => h.mono (fun _ _ h => ⟨h⟩) fun _ _ z => z) fun _ _ z => z
theorem r_orV (k : RW (f env st) (fun x s => RW (orV x g env s) Q X) X) : RW (bOrV f g env st) Q X := by unfold bOrV; rw [rw_bind]; first | exact k | exact RW.of k | exact k.mono (fun _ _ h => ⟨h⟩) fun _ _ z => z | exact k.mono (fun _ _ h => h.mono (fun _ _ h => ⟨h⟩) fun _ _ z => z) fun _ _ z => z
theorem r_andV1 (k : RW (g env st) Q X) : RW (andV (.bl true) g env st) Q X := by first | exact k | exact RW.of k | exact ZW.ofN k | exact ZW.ofR k | exact ZW.ofB k | exact ZW.ofC k
theorem r_andV0 (k : Q (.bl false) st) : RW (andV (.bl false) g env st) Q X := by first | exact k | exact RW.of k | exact ZW.ofN k | exact ZW.ofR k | exact ZW.ofB k | exact ZW.ofC k
theorem r_orV1 (k : Q (.bl true) st) : RW (orV (.bl true) g env st) Q X := by first | exact k | exact RW.of k | exact ZW.ofN k | exact ZW.ofR k | exact ZW.ofB k | exact ZW.ofC k
theorem r_orV0 (k : RW (g env st) Q X) : RW (orV (.bl false) g env st) Q X := by first | exact k | exact RW.of k | exact ZW.ofN k | exact ZW.ofR k | exact ZW.ofB k | exact ZW.ofC k
theorem r_notV (k : RW (f env st) (fun x s => RW (asTru x s) (fun b s => Q (.bl !b) s) X) X) : RW (bNotV f env st) Q X := by
  unfold bNotV; rw [rw_bind]
  refine k.mono (fun a s z => ?_) fun _ _ z => z
  unfold asTru at z
  cases e : truth s a with
  | none => rw [e] at z; exact z.out.elim
  | some b => rw [e] at z; exact ⟨z.out⟩
theorem r_call {F : FD} (k : RW (fa env st) (fun ds s => RW (F ds s) Q X) X) : RW (bCall F fa env st) Q X := by unfold bCall; rw [rw_bind]; first | exact k | exact RW.of k | exact k.mono (fun _ _ h => ⟨h⟩) fun _ _ z => z | exact k.mono (fun _ _ h => h.mono (fun _ _ h => ⟨h⟩) fun _ _ z => z) fun _ _ z => z
def mth (o : D → List D → Sto → R D) (x : D) (fa : FA) (env : Env) (s : Sto) : R D := match lstOf s x with
  | some _ => (fa env s).bind fun ds s => o x ds s
  | none => .bad
theorem r_meth {o : D → List D → Sto → R D} (k : RW (f env st) (fun x s => RW (mth o x fa env s) Q X) X) : RW (bMeth o f fa env st) Q X := by unfold bMeth; rw [rw_bind]; first | exact k | exact RW.of k | exact k.mono (fun _ _ h => ⟨h⟩) fun _ _ z => z | exact k.mono (fun _ _ h => h.mono (fun _ _ h => ⟨h⟩) fun _ _ z => z) fun _ _ z => z
theorem lst_obj {l : Nat} {ds : List D} (e : st[l]? = some (.lst ds)) : lstOf st (.obj l) = some ds := by
  unfold lstOf
  dsimp only
  rw [e]
theorem seq_obj {l : Nat} {ds : List D} (e : st[l]? = some (.lst ds)) : seqOf st (.obj l) = some ds := lst_obj e
theorem r_mth {o : D → List D → Sto → R D} {l : Nat} {ds : List D} (e : st[l]? = some (.lst ds)) (k : RW (fa env st) (fun es s => RW (o (.obj l) es s) Q X) X) : RW (mth o (.obj l) fa env st) Q X := by
  unfold mth
  rw [lst_obj e]
  dsimp only
  rw [rw_bind]
  first | exact k | exact RW.of k | exact k.mono (fun _ _ h => ⟨h⟩) fun _ _ z => z | exact k.mono (fun _ _ h => h.mono (fun _ _ h => ⟨h⟩) fun _ _ z => z) fun _ _ z => z
theorem r_append {l : Nat} {ds : List D} {y : D} (e : st[l]? = some (.lst ds)) (z : ds.length < sizeLine) (k : Q .non (st.set l (.lst (ds ++ [y])))) : RW (mAppend (.obj l) [y] st) Q X := by
  unfold mAppend
  dsimp only
  rw [e]
  dsimp only
  rw [if_pos z]
  first | exact k | exact RW.of k | exact k.mono (fun _ _ h => ⟨h⟩) fun _ _ z => z | exact k.mono (fun _ _ h => h.mono (fun _ _ h => ⟨h⟩) fun _ _ z => z) fun _ _ z => z
theorem r_pop {l : Nat} {ds : List D} {y : D} (e : st[l]? = some (.lst (ds ++ [y]))) (k : Q y (st.set l (.lst ds))) : RW (mPop (.obj l) [] st) Q X := by
  unfold mPop
  dsimp only
  rw [e]
  dsimp only
  rw [show (ds ++ [y])[(ds ++ [y]).length - 1]? = some y by simp]
  dsimp only
  rw [List.dropLast_concat]
  first | exact k | exact RW.of k | exact k.mono (fun _ _ h => ⟨h⟩) fun _ _ z => z | exact k.mono (fun _ _ h => h.mono (fun _ _ h => ⟨h⟩) fun _ _ z => z) fun _ _ z => z
theorem r_reverse {l : Nat} {ds : List D} (e : st[l]? = some (.lst ds)) (k : Q .non (st.set l (.lst ds.reverse))) : RW (mReverse (.obj l) [] st) Q X := by
  unfold mReverse
  dsimp only
  rw [e]
  first | exact k | exact RW.of k | exact k.mono (fun _ _ h => ⟨h⟩) fun _ _ z => z | exact k.mono (fun _ _ h => h.mono (fun _ _ h => ⟨h⟩) fun _ _ z => z) fun _ _ z => z
/-! operators at data -/
theorem r_addI {i j : Int} (k : Q (.int (i + j)) st) : RW (dAdd (.int i) (.int j) st) Q X := by first | exact k | exact RW.of k | exact ZW.ofN k | exact ZW.ofR k | exact ZW.ofB k | exact ZW.ofC k
theorem r_subI {i j : Int} (k : Q (.int (i - j)) st) : RW (dSub (.int i) (.int j) st) Q X := by first | exact k | exact RW.of k | exact ZW.ofN k | exact ZW.ofR k | exact ZW.ofB k | exact ZW.ofC k
theorem r_negI {i : Int} (k : Q (.int (-i)) st) : RW (dNeg (.int i) st) Q X := by first | exact k | exact RW.of k | exact ZW.ofN k | exact ZW.ofR k | exact ZW.ofB k | exact ZW.ofC k
theorem r_mulI {i j : Int} (z : mulOk i j = true) (k : Q (.int (i * j)) st) : RW (dMul (.int i) (.int j) st) Q X := by
  show RW (if _ then _ else _) Q X
  rw [if_pos z]; first | exact k | exact RW.of k | exact k.mono (fun _ _ h => ⟨h⟩) fun _ _ z => z | exact k.mono (fun _ _ h => h.mono (fun _ _ h => ⟨h⟩) fun _ _ z => z) fun _ _ z => z
theorem r_fdvI {i j : Int} (z : j ≠ 0 ∧ j.natAbs < 1073741824) (k : Q (.int (i.fdiv j)) st) : RW (dFdv (.int i) (.int j) st) Q X := by
  show RW (if _ then _ else _) Q X
  rw [if_pos z]; first | exact k | exact RW.of k | exact k.mono (fun _ _ h => ⟨h⟩) fun _ _ z => z | exact k.mono (fun _ _ h => h.mono (fun _ _ h => ⟨h⟩) fun _ _ z => z) fun _ _ z => z
theorem r_modI {i j : Int} (z : j ≠ 0) (k : Q (.int (i.fmod j)) st) : RW (dMod (.int i) (.int j) st) Q X := by
  show RW (if _ then _ else _) Q X
  rw [if_pos z]; first | exact k | exact RW.of k | exact k.mono (fun _ _ h => ⟨h⟩) fun _ _ z => z | exact k.mono (fun _ _ h => h.mono (fun _ _ h => ⟨h⟩) fun _ _ z => z) fun _ _ z => z
theorem r_powI {i j : Int} (z : 0 ≤ j ∧ j ≤ 1000000 ∧ i.natAbs < 2 ^ 64) (k : Q (.int (i ^ j.toNat)) st) : RW (dPow (.int i) (.int j) st) Q X := by
  show RW (if _ then _ else _) Q X
  rw [if_pos z]; first | exact k | exact RW.of k | exact k.mono (fun _ _ h => ⟨h⟩) fun _ _ z => z | exact k.mono (fun _ _ h => h.mono (fun _ _ h => ⟨h⟩) fun _ _ z => z) fun _ _ z => z
theorem r_shlI {i j : Int} (z : 0 ≤ j ∧ j ≤ 1000000 ∧ i.natAbs < 2 ^ 64) (k : Q (.int (i * 2 ^ j.toNat)) st) : RW (dShl (.int i) (.int j) st) Q X := by
  show RW (if _ then _ else _) Q X
  rw [if_pos z]; first | exact k | exact RW.of k | exact k.mono (fun _ _ h => ⟨h⟩) fun _ _ z => z | exact k.mono (fun _ _ h => h.mono (fun _ _ h => ⟨h⟩) fun _ _ z => z) fun _ _ z => z
theorem r_andI {i j : Int} (k : Q (.int (Builtin.bitAnd i j)) st) : RW (dAnd (.int i) (.int j) st) Q X := by first | exact k | exact RW.of k | exact ZW.ofN k | exact ZW.ofR k | exact ZW.ofB k | exact ZW.ofC k
theorem r_ltI {i j : Int} (k : Q (.bl (decide (i < j))) st) : RW (dLt (.int i) (.int j) st) Q X := by first | exact k | exact RW.of k | exact ZW.ofN k | exact ZW.ofR k | exact ZW.ofB k | exact ZW.ofC k
theorem r_gtI {i j : Int} (k : Q (.bl (decide (j < i))) st) : RW (dGt (.int i) (.int j) st) Q X := by first | exact k | exact RW.of k | exact ZW.ofN k | exact ZW.ofR k | exact ZW.ofB k | exact ZW.ofC k
theorem r_leI {i j : Int} (k : Q (.bl (decide (i ≤ j))) st) : RW (dLe (.int i) (.int j) st) Q X := by first | exact k | exact RW.of k | exact ZW.ofN k | exact ZW.ofR k | exact ZW.ofB k | exact ZW.ofC k
theorem r_geI {i j : Int} (k : Q (.bl (decide (j ≤ i))) st) : RW (dGe (.int i) (.int j) st) Q X := by first | exact k | exact RW.of k | exact ZW.ofN k | exact ZW.ofR k | exact ZW.ofB k | exact ZW.ofC k
theorem r_addT {xs ys : List D} (z : xs.length + ys.length ≤ sizeLine) (k : Q (.tup (xs ++ ys)) st) : RW (dAdd (.tup xs) (.tup ys) st) Q X := by
  show RW (if _ then _ else _) Q X
  rw [if_pos z]; first | exact k | exact RW.of k | exact k.mono (fun _ _ h => ⟨h⟩) fun _ _ z => z | exact k.mono (fun _ _ h => h.mono (fun _ _ h => ⟨h⟩) fun _ _ z => z) fun _ _ z => z
theorem r_addL {l j : Nat} {xs ys : List D} (e1 : st[l]? = some (.lst xs)) (e2 : st[j]? = some (.lst ys)) (z : xs.length + ys.length ≤ sizeLine) (k : Q (.obj st.length) (st ++ [.lst (xs ++ ys)])) : RW (dAdd (.obj l) (.obj j) st) Q X := by
  unfold dAdd
  dsimp only
  rw [e1, e2]
  dsimp only
  rw [if_pos z]; first | exact k | exact RW.of k | exact k.mono (fun _ _ h => ⟨h⟩) fun _ _ z => z | exact k.mono (fun _ _ h => h.mono (fun _ _ h => ⟨h⟩) fun _ _ z => z) fun _ _ z => z
theorem r_eqI {i j : Int} (k : Q (.bl (decide (i = j))) st) : RW (dEq (.int i) (.int j) st) Q X := by first | exact k | exact RW.of k | exact ZW.ofN k | exact ZW.ofR k | exact ZW.ofB k | exact ZW.ofC k
theorem r_eqS {i j : Str} (k : Q (.bl (decide (i = j))) st) : RW (dEq (.str i) (.str j) st) Q X := by first | exact k | exact RW.of k | exact ZW.ofN k | exact ZW.ofR k | exact ZW.ofB k | exact ZW.ofC k
theorem r_neI {i j : Int} (k : Q (.bl (!decide (i = j))) st) : RW (dNe (.int i) (.int j) st) Q X := by first | exact k | exact RW.of k | exact ZW.ofN k | exact ZW.ofR k | exact ZW.ofB k | exact ZW.ofC k
theorem r_neS {i j : Str} (k : Q (.bl (!decide (i = j))) st) : RW (dNe (.str i) (.str j) st) Q X := by first | exact k | exact RW.of k | exact ZW.ofN k | exact ZW.ofR k | exact ZW.ofB k | exact ZW.ofC k
theorem r_eqD {x y : D} {b : Bool} (e : eqB st x y = some b) (k : Q (.bl b) st) : RW (dEq x y st) Q X := by unfold dEq; rw [e]; first | exact k | exact RW.of k | exact k.mono (fun _ _ h => ⟨h⟩) fun _ _ z => z | exact k.mono (fun _ _ h => h.mono (fun _ _ h => ⟨h⟩) fun _ _ z => z) fun _ _ z => z
theorem r_neD {x y : D} {b : Bool} (e : eqB st x y = some b) (k : Q (.bl (!b)) st) : RW (dNe x y st) Q X := by unfold dNe; rw [e]; first | exact k | exact RW.of k | exact k.mono (fun _ _ h => ⟨h⟩) fun _ _ z => z | exact k.mono (fun _ _ h => h.mono (fun _ _ h => ⟨h⟩) fun _ _ z => z) fun _ _ z => z
theorem r_is0 (k : Q (.bl true) st) : RW (dIs .non .non st) Q X := by first | exact k | exact RW.of k | exact ZW.ofN k | exact ZW.ofR k | exact ZW.ofB k | exact ZW.ofC k
theorem r_is1 {i : Int} (k : Q (.bl false) st) : RW (dIs (.int i) .non st) Q X := by first | exact k | exact RW.of k | exact ZW.ofN k | exact ZW.ofR k | exact ZW.ofB k | exact ZW.ofC k
theorem r_is2 {ds : List D} (k : Q (.bl false) st) : RW (dIs (.tup ds) .non st) Q X := by first | exact k | exact RW.of k | exact ZW.ofN k | exact ZW.ofR k | exact ZW.ofB k | exact ZW.ofC k
theorem r_is3 {l : Nat} (k : Q (.bl false) st) : RW (dIs (.obj l) .non st) Q X := by first | exact k | exact RW.of k | exact ZW.ofN k | exact ZW.ofR k | exact ZW.ofB k | exact ZW.ofC k
theorem r_isn0 (k : Q (.bl false) st) : RW (dIsNot .non .non st) Q X := by first | exact k | exact RW.of k | exact ZW.ofN k | exact ZW.ofR k | exact ZW.ofB k | exact ZW.ofC k
theorem r_isn1 {i : Int} (k : Q (.bl true) st) : RW (dIsNot (.int i) .non st) Q X := by first | exact k | exact RW.of k | exact ZW.ofN k | exact ZW.ofR k | exact ZW.ofB k | exact ZW.ofC k
theorem r_isn2 {ds : List D} (k : Q (.bl true) st) : RW (dIsNot (.tup ds) .non st) Q X := by first | exact k | exact RW.of k | exact ZW.ofN k | exact ZW.ofR k | exact ZW.ofB k | exact ZW.ofC k
theorem r_isn3 {l : Nat} (k : Q (.bl true) st) : RW (dIsNot (.obj l) .non st) Q X := by first | exact k | exact RW.of k | exact ZW.ofN k | exact ZW.ofR k | exact ZW.ofB k | exact ZW.ofC k
theorem r_ixD {x d : D} {i : Int} {ds : List D} (e1 : seqOf st x = some ds) (e2 : atI ds i = some d) (k : Q d st) : RW (dIx x (.int i) st) Q X := by
  have main : ∀ x, (∀ z, x ≠ .str z) → dIx x (.int i) st = (match seqOf st x with
    | some ds => match atI ds i with
      | some d => .ok d st
      | none => .bad
    | none => .bad) := fun x hn => by
    cases x <;> first | rfl | exact absurd rfl (hn _)
  have hn : ∀ z, x ≠ .str z := fun z e => by
    subst e
    cases e1
  rw [main x hn, e1]
  dsimp only
  rw [e2]
  first | exact k | exact RW.of k | exact k.mono (fun _ _ h => ⟨h⟩) fun _ _ z => z | exact k.mono (fun _ _ h => h.mono (fun _ _ h => ⟨h⟩) fun _ _ z => z) fun _ _ z => z
theorem r_ixT {ds : List D} {d : D} {i : Int} (e2 : atI ds i = some d) (k : Q d st) : RW (dIx (.tup ds) (.int i) st) Q X := r_ixD rfl e2 k
theorem r_ixO {l : Nat} {ds : List D} {d : D} {i : Int} (e1 : st[l]? = some (.lst ds)) (e2 : atI ds i = some d) (k : Q d st) : RW (dIx (.obj l) (.int i) st) Q X := r_ixD (seq_obj e1) e2 k
theorem r_lenD {x : D} {ds : List D} (e : seqOf st x = some ds) (k : Q (.int ds.length) st) : RW (cLen [x] st) Q X := by
  have main : ∀ x, (∀ z, x ≠ .str z) → cLen [x] st = (match seqOf st x with
    | some ds => .ok (.int ds.length) st
    | none => .bad) := fun x hn => by
    cases x <;> first | rfl | exact absurd rfl (hn _)
  have hn : ∀ z, x ≠ .str z := fun z h => by
    subst h
    cases e
  rw [main x hn, e]
  first | exact k | exact RW.of k | exact k.mono (fun _ _ h => ⟨h⟩) fun _ _ z => z | exact k.mono (fun _ _ h => h.mono (fun _ _ h => ⟨h⟩) fun _ _ z => z) fun _ _ z => z
theorem r_lenT {ds : List D} (k : Q (.int ds.length) st) : RW (cLen [.tup ds] st) Q X := r_lenD rfl k
theorem r_lenO {l : Nat} {ds : List D} (e : st[l]? = some (.lst ds)) (k : Q (.int ds.length) st) : RW (cLen [.obj l] st) Q X := r_lenD (seq_obj e) k
theorem r_listD {x : D} {ds : List D} (e : seqOf st x = some ds) (k : Q (.obj st.length) (st ++ [.lst ds])) : RW (cList [x] st) Q X := by
  show RW (match seqOf st x with
    | some ds => newL ds st
    | none => .bad) Q X
  rw [e]
  first | exact k | exact RW.of k | exact k.mono (fun _ _ h => ⟨h⟩) fun _ _ z => z | exact k.mono (fun _ _ h => h.mono (fun _ _ h => ⟨h⟩) fun _ _ z => z) fun _ _ z => z
theorem r_tupleD {x : D} {ds : List D} (e : seqOf st x = some ds) (k : Q (.tup ds) st) : RW (cTuple [x] st) Q X := by
  show RW (match seqOf st x with
    | some ds => .ok (.tup ds) st
    | none => .bad) Q X
  rw [e]
  first | exact k | exact RW.of k | exact k.mono (fun _ _ h => ⟨h⟩) fun _ _ z => z | exact k.mono (fun _ _ h => h.mono (fun _ _ h => ⟨h⟩) fun _ _ z => z) fun _ _ z => z
theorem r_tupleO {l : Nat} {ds : List D} (e : st[l]? = some (.lst ds)) (k : Q (.tup ds) st) : RW (cTuple [.obj l] st) Q X := r_tupleD (seq_obj e) k
theorem r_tupleP {l : Nat} {ds : List D} (e : st[l]? = some (.lst ds)) (k : Q (.ptp ds) st) : RW (cPTuple [.obj l] st) Q X := by
  show RW (match lstOf st (.obj l) with
    | some ds => .ok (.ptp ds) st
    | none => .bad) Q X
  rw [lst_obj e]
  first | exact k | exact RW.of k | exact k.mono (fun _ _ h => ⟨h⟩) fun _ _ z => z | exact k.mono (fun _ _ h => h.mono (fun _ _ h => ⟨h⟩) fun _ _ z => z) fun _ _ z => z
theorem r_intI {i : Int} (k : Q (.int i) st) : RW (cInt [.int i] st) Q X := by first | exact k | exact RW.of k | exact ZW.ofN k | exact ZW.ofR k | exact ZW.ofB k | exact ZW.ofC k
theorem r_absI {i : Int} (k : Q (.int (if i < 0 then -i else i)) st) : RW (cAbs [.int i] st) Q X := by first | exact k | exact RW.of k | exact ZW.ofN k | exact ZW.ofR k | exact ZW.ofB k | exact ZW.ofC k
/-! slices -/
theorem r_sl (k : RW (f env st) (fun x s => RW (lo env s) (fun l s => RW (hi env s) (fun h s => RW (dSl x l h s) Q X) X) X) X) : RW (bSl f lo hi env st) Q X := by unfold bSl; rw [rw_bind]; simp only [rw_bind]; first | exact k | exact RW.of k | exact k.mono (fun _ _ h => ⟨h⟩) fun _ _ z => z | exact k.mono (fun _ _ h => h.mono (fun _ _ h => ⟨h⟩) fun _ _ z => z) fun _ _ z => z
theorem r_no (k : QO none st) : RW (bNo env st) QO X := by first | exact k | exact RW.of k | exact ZW.ofN k | exact ZW.ofR k | exact ZW.ofB k | exact ZW.ofC k
def asP (x : D) (s : Sto) : R (Option Int) := match x with
  | .int i => .ok (some i) s
  | _ => .bad
theorem r_part (k : RW (f env st) (fun x s => RW (asP x s) QO X) X) : RW (bPart f env st) QO X := by unfold bPart; rw [rw_bind]; first | exact k | exact RW.of k | exact k.mono (fun _ _ h => ⟨h⟩) fun _ _ z => z | exact k.mono (fun _ _ h => h.mono (fun _ _ h => ⟨h⟩) fun _ _ z => z) fun _ _ z => z
theorem r_asP {i : Int} (k : QO (some i) st) : RW (asP (.int i) st) QO X := by first | exact k | exact RW.of k | exact ZW.ofN k | exact ZW.ofR k | exact ZW.ofB k | exact ZW.ofC k
theorem r_slT {ds : List D} {l h : Option Int} (k : Q (.tup (cut ds l h)) st) : RW (dSl (.tup ds) l h st) Q X := by first | exact k | exact RW.of k | exact ZW.ofN k | exact ZW.ofR k | exact ZW.ofB k | exact ZW.ofC k
theorem r_slO {j : Nat} {ds : List D} {l h : Option Int} (e : st[j]? = some (.lst ds)) (k : Q (.obj st.length) (st ++ [.lst (cut ds l h)])) : RW (dSl (.obj j) l h st) Q X := by
  show RW (match lstOf st (.obj j) with
    | some ds => newL (cut ds l h) st
    | none => .bad) Q X
  rw [lst_obj e]
  first | exact k | exact RW.of k | exact k.mono (fun _ _ h => ⟨h⟩) fun _ _ z => z | exact k.mono (fun _ _ h => h.mono (fun _ _ h => ⟨h⟩) fun _ _ z => z) fun _ _ z => z
theorem r_slR {ds : List D} {l h : Option Int} (k : Q (.obj st.length) (st ++ [.lst (cut ds l h)])) : RW (dSl (.rol ds) l h st) Q X := by first | exact k | exact RW.of k | exact ZW.ofN k | exact ZW.ofR k | exact ZW.ofB k | exact ZW.ofC k
/-! iterators, targets -/
def asI (x : D) (s : Sto) : R Itn := match x with
  | .tup ds => .ok (itT ds) s
  | .ptp ds => .ok (itT ds) s
  | .rol ds => .ok (itT ds) s
  | .obj l => match s[l]? with
    | some (.lst _) => .ok (itL l) s
    | _ => .bad
  | .str z => .ok (itS z) s
  | _ => .bad
theorem r_iter (k : RW (f env st) (fun x s => RW (asI x s) QI X) X) : RW (bIter f env st) QI X := by
  unfold bIter
  rw [rw_bind]
  refine k.mono (fun a s z => ?_) fun _ _ z => z
  cases a <;> exact z
theorem r_asT {ds : List D} (k : QI (itT ds) st) : RW (asI (.tup ds) st) QI X := by first | exact k | exact RW.of k | exact ZW.ofN k | exact ZW.ofR k | exact ZW.ofB k | exact ZW.ofC k
theorem r_asPt {ds : List D} (k : QI (itT ds) st) : RW (asI (.ptp ds) st) QI X := by first | exact k | exact RW.of k | exact ZW.ofN k | exact ZW.ofR k | exact ZW.ofB k | exact ZW.ofC k
theorem r_asRo {ds : List D} (k : QI (itT ds) st) : RW (asI (.rol ds) st) QI X := by first | exact k | exact RW.of k | exact ZW.ofN k | exact ZW.ofR k | exact ZW.ofB k | exact ZW.ofC k
theorem r_asO {l : Nat} {ds : List D} (e : st[l]? = some (.lst ds)) (k : QI (itL l) st) : RW (asI (.obj l) st) QI X := by
  show RW (match st[l]? with
    | some (.lst _) => .ok (itL l) st
    | _ => .bad) QI X
  rw [e]
  first | exact k | exact RW.of k | exact k.mono (fun _ _ h => ⟨h⟩) fun _ _ z => z | exact k.mono (fun _ _ h => h.mono (fun _ _ h => ⟨h⟩) fun _ _ z => z) fun _ _ z => z
def asR1 (x : D) (s : Sto) : R Itn := match x with
  | .int j => if -(2 ^ 62) ≤ j ∧ j < 2 ^ 62 then .ok (itR 0 j.toNat) s else .bad
  | _ => .bad
theorem r_rng1 (k : RW (f env st) (fun x s => RW (asR1 x s) QI X) X) : RW (bRng1 f env st) QI X := by unfold bRng1; rw [rw_bind]; first | exact k | exact RW.of k | exact k.mono (fun _ _ h => ⟨h⟩) fun _ _ z => z | exact k.mono (fun _ _ h => h.mono (fun _ _ h => ⟨h⟩) fun _ _ z => z) fun _ _ z => z
theorem r_asR1 {j : Int} (z : -(2 ^ 62) ≤ j ∧ j < 2 ^ 62) (k : QI (itR 0 j.toNat) st) : RW (asR1 (.int j) st) QI X := by
  show RW (if _ then _ else _) QI X
  rw [if_pos z]; first | exact k | exact RW.of k | exact k.mono (fun _ _ h => ⟨h⟩) fun _ _ z => z | exact k.mono (fun _ _ h => h.mono (fun _ _ h => ⟨h⟩) fun _ _ z => z) fun _ _ z => z
theorem r_gNm {i : Nat} {d : D} (k : QE (env.set i (some d)) st) : RW (gNm i d env st) QE X := by first | exact k | exact RW.of k | exact ZW.ofN k | exact ZW.ofR k | exact ZW.ofB k | exact ZW.ofC k
theorem r_gTp {is : List Nat} {ds : List D} {env' : Env} (e : gNs is ds env = some env') (k : QE env' st) : RW (gTp is (.tup ds) env st) QE X := by
  unfold gTp
  dsimp only
  rw [e]
  first | exact k | exact RW.of k | exact k.mono (fun _ _ h => ⟨h⟩) fun _ _ z => z | exact k.mono (fun _ _ h => h.mono (fun _ _ h => ⟨h⟩) fun _ _ z => z) fun _ _ z => z
def asSet (d o i : D) (env : Env) (s : Sto) : R Env := match o, i with
  | .obj l, .int k => match s[l]? with
    | some (.lst xs) => match ixN xs.length k with
      | some j => .ok env (s.set l (.lst (xs.set j d)))
      | none => .bad
    | _ => .bad
  | _, _ => .bad
theorem r_gIx {d : D} (k : RW (f env st) (fun o s => RW (g env s) (fun i s => RW (asSet d o i env s) QE X) X) X) : RW (gIx f g d env st) QE X := by unfold gIx; rw [rw_bind]; simp only [rw_bind]; first | exact k | exact RW.of k | exact k.mono (fun _ _ h => ⟨h⟩) fun _ _ z => z | exact k.mono (fun _ _ h => h.mono (fun _ _ h => ⟨h⟩) fun _ _ z => z) fun _ _ z => z
theorem r_set {d : D} {l j : Nat} {xs : List D} {i : Int} (e : st[l]? = some (.lst xs)) (ej : ixN xs.length i = some j) (k : QE env (st.set l (.lst (xs.set j d)))) : RW (asSet d (.obj l) (.int i) env st) QE X := by
  unfold asSet
  dsimp only
  rw [e]
  dsimp only
  rw [ej]
  first | exact k | exact RW.of k | exact k.mono (fun _ _ h => ⟨h⟩) fun _ _ z => z | exact k.mono (fun _ _ h => h.mono (fun _ _ h => ⟨h⟩) fun _ _ z => z) fun _ _ z => z
theorem r_comp {vs : List Nat} {tg : D → Env → Option Env} {c : FB} (k : RW (ι env st) (fun it s => RW (compI it tg c f (wipeE env vs) fuel 0 [] s) (fun ys s => Q (.obj s.length) (s ++ [.lst ys])) X) X) : RW (bComp ι vs tg c f env st) Q X := by
  unfold bComp
  rw [rw_bind]
  simp only [rw_bind]
  first | exact k | exact RW.of k | exact k.mono (fun _ _ h => ⟨h⟩) fun _ _ z => z | exact k.mono (fun _ _ h => h.mono (fun _ _ h => ⟨h⟩) fun _ _ z => z) fun _ _ z => z
def chn (o' : D → D → Sto → R D) (y : D) (h : FE) (env : Env) (z : D) (s : Sto) : R D := match z with
  | .bl true => (h env s).bind fun w s => o' y w s
  | .bl false => .ok (.bl false) s
  | _ => .bad
theorem r_chain {o o' : D → D → Sto → R D} (k : RW (f env st) (fun x s => RW (g env s) (fun y s => RW (o x y s) (fun z s => RW (chn o' y h env z s) Q X) X) X) X) : RW (bChain o o' f g h env st) Q X := by
  unfold bChain
  rw [rw_bind]
  simp only [rw_bind]
  first | exact k | exact RW.of k | exact k.mono (fun _ _ h => ⟨h⟩) fun _ _ z => z | exact k.mono (fun _ _ h => h.mono (fun _ _ h => ⟨h⟩) fun _ _ z => z) fun _ _ z => z
theorem r_chn1 {o' : D → D → Sto → R D} {y : D} (k : RW (h env st) (fun w s => RW (o' y w s) Q X) X) : RW (chn o' y h env (.bl true) st) Q X := by
  show RW ((h env st).bind fun w s => o' y w s) Q X
  rw [rw_bind]
  first | exact k | exact RW.of k | exact k.mono (fun _ _ h => ⟨h⟩) fun _ _ z => z | exact k.mono (fun _ _ h => h.mono (fun _ _ h => ⟨h⟩) fun _ _ z => z) fun _ _ z => z
theorem r_chn0 {o' : D → D → Sto → R D} {y : D} (k : Q (.bl false) st) : RW (chn o' y h env (.bl false) st) Q X := by first | exact k | exact RW.of k | exact ZW.ofN k | exact ZW.ofR k | exact ZW.ofB k | exact ZW.ofC k
theorem r_chnD {o' : D → D → Sto → R D} {y : D} {c : Prop} [Decidable c] (h1 : c → RW (h env st) (fun w s => RW (o' y w s) Q X) X) (h2 : ¬ c → Q (.bl false) st) : RW (chn o' y h env (.bl (decide c)) st) Q X := by
  by_cases hc : c
  · rw [decide_eq_true hc]; exact r_chn1 (h1 hc)
  · rw [decide_eq_false hc]; exact ⟨h2 hc⟩
def asIsi (T : String) (x : D) (s : Sto) : R D := match tyD s x with
  | some t => match kitB t T with
    | some b => .ok (.bl b) s
    | none => .bad
  | none => .bad
theorem r_isi {T : String} (k : RW (f env st) (fun x s => RW (asIsi T x s) Q X) X) : RW (bIsi T f env st) Q X := by unfold bIsi; rw [rw_bind]; first | exact k | exact RW.of k | exact k.mono (fun _ _ h => ⟨h⟩) fun _ _ z => z | exact k.mono (fun _ _ h => h.mono (fun _ _ h => ⟨h⟩) fun _ _ z => z) fun _ _ z => z
theorem r_asIsi {T t : String} {x : D} {b : Bool} (e : tyD st x = some t) (e2 : kitB t T = some b) (k : Q (.bl b) st) : RW (asIsi T x st) Q X := by
  unfold asIsi
  rw [e]
  dsimp only
  rw [e2]
  first | exact k | exact RW.of k | exact k.mono (fun _ _ h => ⟨h⟩) fun _ _ z => z | exact k.mono (fun _ _ h => h.mono (fun _ _ h => ⟨h⟩) fun _ _ z => z) fun _ _ z => z
theorem r_inT {neg : Bool} {x : D} {ds : List D} (h1 : flat x = true) (h2 : ds.all flat = true) (k : Q (.bl (if neg then !(ds.any fun d => eqF d x) else ds.any fun d => eqF d x)) st) : RW (dIn neg x (.tup ds) st) Q X := by
  show RW (if flat x = true ∧ ds.all flat = true then _ else _) Q X
  rw [if_pos ⟨h1, h2⟩]
  first | exact k | exact RW.of k | exact k.mono (fun _ _ h => ⟨h⟩) fun _ _ z => z | exact k.mono (fun _ _ h => h.mono (fun _ _ h => ⟨h⟩) fun _ _ z => z) fun _ _ z => z
theorem r_tuprev (k : RW (f env st) (fun x s => RW (match x with
  | .tup ds => .ok (.tup ds.reverse) s
  | _ => .bad : R D) Q X) X) : RW (bTupRev f env st) Q X := by unfold bTupRev; rw [rw_bind]; first | exact k | exact RW.of k | exact k.mono (fun _ _ h => ⟨h⟩) fun _ _ z => z | exact k.mono (fun _ _ h => h.mono (fun _ _ h => ⟨h⟩) fun _ _ z => z) fun _ _ z => z
/-! the same, with what is to be found behind an ∃ -/
theorem e_var {i : Nat} (k : ∃ d, env[i]? = some (some d) ∧ Q d st) : RW (bVar i env st) Q X := let ⟨_, e, k⟩ := k; r_var e k
theorem e_ixT {ds : List D} {i : Int} (k : ∃ d, atI ds i = some d ∧ Q d st) : RW (dIx (.tup ds) (.int i) st) Q X := let ⟨_, e, k⟩ := k; r_ixT e k
theorem e_gTp {is : List Nat} {ds : List D} (k : ∃ e', gNs is ds env = some e' ∧ QE e' st) : RW (gTp is (.tup ds) env st) QE X := let ⟨_, e, k⟩ := k; r_gTp e k
theorem e_ixO {l : Nat} {i : Int} (k : ∃ ds, st[l]? = some (.lst ds) ∧ ∃ d, atI ds i = some d ∧ Q d st) : RW (dIx (.obj l) (.int i) st) Q X := let ⟨_, e, _, e2, k⟩ := k; r_ixO e e2 k
theorem e_mth {o : D → List D → Sto → R D} {l : Nat} (k : ∃ ds, st[l]? = some (.lst ds) ∧ RW (fa env st) (fun es s => RW (o (.obj l) es s) Q X) X) : RW (mth o (.obj l) fa env st) Q X := let ⟨_, e, k⟩ := k; r_mth e k
theorem e_append {l : Nat} {y : D} (k : ∃ ds, st[l]? = some (.lst ds) ∧ ds.length < sizeLine ∧ Q .non (st.set l (.lst (ds ++ [y])))) : RW (mAppend (.obj l) [y] st) Q X := let ⟨_, e, z, k⟩ := k; r_append e z k
theorem e_reverse {l : Nat} (k : ∃ ds, st[l]? = some (.lst ds) ∧ Q .non (st.set l (.lst ds.reverse))) : RW (mReverse (.obj l) [] st) Q X := let ⟨_, e, k⟩ := k; r_reverse e k
theorem e_lenO {l : Nat} (k : ∃ ds, st[l]? = some (.lst ds) ∧ Q (.int ds.length) st) : RW (cLen [.obj l] st) Q X := let ⟨_, e, k⟩ := k; r_lenO e k
theorem e_asO {l : Nat} (k : ∃ ds, st[l]? = some (.lst ds) ∧ QI (itL l) st) : RW (asI (.obj l) st) QI X := let ⟨_, e, k⟩ := k; r_asO e k
theorem e_truO {l : Nat} (k : ∃ ds, st[l]? = some (.lst ds) ∧ QB (!ds.isEmpty) st) : RW (asTru (.obj l) st) QB X := let ⟨_, e, k⟩ := k; r_truO e k
theorem e_tupleO {l : Nat} (k : ∃ ds, st[l]? = some (.lst ds) ∧ Q (.tup ds) st) : RW (cTuple [.obj l] st) Q X := let ⟨_, e, k⟩ := k; r_tupleO e k
theorem e_tupleP {l : Nat} (k : ∃ ds, st[l]? = some (.lst ds) ∧ Q (.ptp ds) st) : RW (cPTuple [.obj l] st) Q X := let ⟨_, e, k⟩ := k; r_tupleP e k
theorem e_listO {l : Nat} (k : ∃ ds, st[l]? = some (.lst ds) ∧ Q (.obj st.length) (st ++ [.lst ds])) : RW (cList [.obj l] st) Q X := let ⟨_, e, k⟩ := k; r_listD (seq_obj e) k
theorem e_slO {j : Nat} {l h : Option Int} (k : ∃ ds, st[j]? = some (.lst ds) ∧ Q (.obj st.length) (st ++ [.lst (cut ds l h)])) : RW (dSl (.obj j) l h st) Q X := let ⟨_, e, k⟩ := k; r_slO e k
theorem e_set {d : D} {l : Nat} {i : Int} (k : ∃ xs, st[l]? = some (.lst xs) ∧ ∃ j, ixN xs.length i = some j ∧ QE env (st.set l (.lst (xs.set j d)))) : RW (asSet d (.obj l) (.int i) env st) QE X := let ⟨_, e, _, e2, k⟩ := k; r_set e e2 k
theorem e_addL {l j : Nat} (k : ∃ xs, st[l]? = some (.lst xs) ∧ ∃ ys, st[j]? = some (.lst ys) ∧ xs.length + ys.length ≤ sizeLine ∧ Q (.obj st.length) (st ++ [.lst (xs ++ ys)])) : RW (dAdd (.obj l) (.obj j) st) Q X := let ⟨_, e1, _, e2, z, k⟩ := k; r_addL e1 e2 z k
theorem e_asIsi {T : String} {x : D} (k : ∃ t, tyD st x = some t ∧ ∃ b, kitB t T = some b ∧ Q (.bl b) st) : RW (asIsi T x st) Q X := let ⟨_, e, _, e2, k⟩ := k; r_asIsi e e2 k
end
end Kc

namespace Kc
open PySem PySem.Spec PyProof.Rows L2
/-! ### ints as data -/
theorem pys_ints : ∀ ns : List Int, pys (ns.map D.int) = some (ns.map PyData.int)
  | [] => rfl
  | n :: ns => by
    have ih := pys_ints ns
    show (match py (.int n), pys (ns.map D.int) with
      | some p, some ps => some (p :: ps)
      | _, _ => none) = _
    rw [ih]
    rfl
theorem lay_ints : ∀ ns : List Int, PyData.canLayAll0 (ns.map PyData.int) = true
  | [] => rfl
  | n :: ns => by
    have ih := lay_ints ns
    show (PyData.canLay0 (.int n) && PyData.canLayAll0 (ns.map PyData.int)) = true
    rw [ih]
    rfl
theorem depth_ints : ∀ ns : List Int, PyData.depthAll (ns.map PyData.int) = 0
  | [] => rfl
  | n :: ns => by
    have ih := depth_ints ns
    show max (PyData.depth (.int n)) (PyData.depthAll (ns.map PyData.int)) = 0
    rw [ih]
    rfl
theorem shaped_tup (ns : List Int) : SeqAt.shaped (.tuple (ns.map PyData.int)) = true := by
  show (PyData.canLayAll0 (ns.map PyData.int) && decide (PyData.depthAll (ns.map PyData.int) + 1 ≤ 64)) = true
  rw [lay_ints, depth_ints]
  rfl
theorem shaped_lst (ns : List Int) : SeqAt.shaped (.list (ns.map PyData.int)) = true := by
  show (PyData.canLayAll0 (ns.map PyData.int) && decide (PyData.depthAll (ns.map PyData.int) + 1 ≤ 64)) = true
  rw [lay_ints, depth_ints]
  rfl
theorem eqv_ints : ∀ xs ys : List Int, PyData.eqvAll (xs.map PyData.int) (ys.map PyData.int) = decide (xs = ys)
  | [], [] => rfl
  | x :: xs, [] => rfl
  | [], y :: ys => rfl
  | x :: xs, y :: ys => by
    have ih := eqv_ints xs ys
    show ((x == y) && PyData.eqvAll (xs.map PyData.int) (ys.map PyData.int)) = _
    rw [ih]
    by_cases h : x = y
    · subst h
      by_cases h2 : xs = ys
      · subst h2; simp
      · simp [h2]
    · simp [h]
theorem eq_tups {st : Sto} (xs ys : List Int) : eqB st (.tup (xs.map D.int)) (.tup (ys.map D.int)) = some (decide (xs = ys)) := by
  show (match pySt st (.tup (xs.map D.int)), pySt st (.tup (ys.map D.int)) with
    | some p, some q => if SeqAt.shaped p = true ∧ SeqAt.shaped q = true then some (PyData.eqv p q) else none
    | _, _ => none) = _
  show (match (pys (xs.map D.int)).map PyData.tuple, (pys (ys.map D.int)).map PyData.tuple with
    | some p, some q => if SeqAt.shaped p = true ∧ SeqAt.shaped q = true then some (PyData.eqv p q) else none
    | _, _ => none) = _
  rw [pys_ints, pys_ints]
  show (if SeqAt.shaped (.tuple (xs.map PyData.int)) = true ∧ SeqAt.shaped (.tuple (ys.map PyData.int)) = true then some (PyData.eqvAll (xs.map PyData.int) (ys.map PyData.int)) else none) = _
  rw [if_pos ⟨shaped_tup _, shaped_tup _⟩, eqv_ints]
theorem eq_lsts {st : Sto} {l m : Nat} {xs ys : List Int} (h1 : st[l]? = some (.lst (xs.map D.int))) (h2 : st[m]? = some (.lst (ys.map D.int))) : eqB st (.obj l) (.obj m) = some (decide (xs = ys)) := by
  have e : ∀ {l : Nat} {xs : List Int}, st[l]? = some (.lst (xs.map D.int)) → pySt st (.obj l) = some (.list (xs.map PyData.int)) := fun {l xs} h => by
    unfold pySt
    dsimp only
    rw [h]
    dsimp only
    rw [pys_ints]
    rfl
  show (match pySt st (.obj l), pySt st (.obj m) with
    | some p, some q => if SeqAt.shaped p = true ∧ SeqAt.shaped q = true then some (PyData.eqv p q) else none
    | _, _ => none) = _
  rw [e h1, e h2]
  show (if SeqAt.shaped (.list (xs.map PyData.int)) = true ∧ SeqAt.shaped (.list (ys.map PyData.int)) = true then some (PyData.eqvAll (xs.map PyData.int) (ys.map PyData.int)) else none) = _
  rw [if_pos ⟨shaped_lst _, shaped_lst _⟩, eqv_ints]
/-! ### places -/
theorem atI_nat {α : Type} {xs : List α} {i : Nat} (h : i < xs.length) : atI xs (i : Int) = some xs[i] := by
  unfold atI ixN
  rw [if_pos (by omega), if_pos (by omega)]
  show xs[((i : Nat) : Int).toNat]? = _
  rw [Int.toNat_natCast, List.getElem?_eq_getElem h]
theorem atI_of {α : Type} {xs : List α} {i : Int} (h0 : 0 ≤ i) (h1 : i < xs.length) : ∃ x, atI xs i = some x ∧ xs[i.toNat]? = some x := by
  have h : i.toNat < xs.length := by omega
  have e : atI xs ((i.toNat : Nat) : Int) = some xs[i.toNat] := atI_nat h
  rw [Int.toNat_of_nonneg h0] at e
  exact ⟨_, e, List.getElem?_eq_getElem h⟩
theorem ixN_nat {n i : Nat} (h : i < n) : ixN n (i : Int) = some i := by
  unfold ixN
  rw [if_pos (by omega), if_pos (by omega), Int.toNat_natCast]
theorem atI_last {α : Type} {xs : List α} {x : α} : atI (xs ++ [x]) (-1) = some x := by
  unfold atI ixN
  rw [if_neg (by decide), if_pos (by simp; omega)]
  show (xs ++ [x])[((-1 : Int) + ((xs ++ [x]).length : Nat)).toNat]? = _
  have : ((-1 : Int) + ((xs ++ [x]).length : Nat)).toNat = xs.length := by simp; omega
  rw [this]
  simp
theorem fmod_rng {a b : Int} (h : 0 < b) : 0 ≤ a.fmod b ∧ a.fmod b < b := ⟨Int.fmod_nonneg_of_pos a h, Int.fmod_lt_of_pos a h⟩
theorem cut_to {α : Type} {xs : List α} {k : Nat} : cut xs none (some (k : Int)) = xs.take k := by
  unfold cut
  show (xs.drop 0).take (HT.sIx xs.length xs.length (some (k : Int)) - 0) = _
  rw [HT.sIx_nat, List.drop_zero, Nat.sub_zero]
  rcases Nat.le_total k xs.length with h | h
  · rw [Nat.min_eq_left h]
  · rw [Nat.min_eq_right h, List.take_of_length_le (Nat.le_refl _), List.take_of_length_le h]
theorem cut_from {α : Type} {xs : List α} {k : Nat} : cut xs (some (k : Int)) none = xs.drop k := by
  unfold cut
  show (xs.drop (HT.sIx xs.length 0 (some (k : Int)))).take (xs.length - HT.sIx xs.length 0 (some (k : Int))) = _
  rw [HT.sIx_nat]
  rcases Nat.le_total k xs.length with h | h
  · rw [Nat.min_eq_left h]
    exact List.take_of_length_le (by simp)
  · rw [Nat.min_eq_right h, List.drop_eq_nil_of_le h]
    simp
theorem cut_last {α : Type} {xs : List α} {x : α} : cut (xs ++ [x]) none (some (-1)) = xs := by
  unfold cut
  show ((xs ++ [x]).drop 0).take (((-1 : Int) + ((xs ++ [x]).length : Nat)).toNat - 0) = _
  have : ((-1 : Int) + ((xs ++ [x]).length : Nat)).toNat = xs.length := by simp; omega
  rw [this, List.drop_zero, Nat.sub_zero]
  simp
theorem le_line {n : Nat} (h : n ≤ 16777216) : n ≤ sizeLine := by
  have : sizeLine = 16777216 := by decide
  omega
theorem lt_line {n : Nat} (h : n < 16777216) : n < sizeLine := by
  have : sizeLine = 16777216 := by decide
  omega
theorem lt_fuel {n : Nat} (h : n < 1099511627776) : n < fuel := h
theorem mul_ok {i j : Int} (h : i.natAbs < 2 ^ 64 ∨ j.natAbs < 2 ^ 64) : mulOk i j = true := by
  unfold mulOk
  rcases h with h | h
  · rw [decide_eq_true h]; rfl
  · rw [decide_eq_true h]; simp
theorem rng1_ok {j : Int} (h0 : 0 ≤ j) (h : j < 1099511627776) : -(2 ^ 62) ≤ j ∧ j < 2 ^ 62 := by omega
theorem itR_in {lo : Int} {n i : Nat} {st : Sto} (h : i < n) : (itR lo n).get st i = some (some (.int (lo + (i : Nat)))) := by
  show some (if i < n then _ else _) = _
  rw [if_pos h]
theorem itR_end {lo : Int} {n : Nat} {st : Sto} : (itR lo n).get st n = some none := by
  show some (if n < n then _ else _) = _
  rw [if_neg (Nat.lt_irrefl n)]
theorem itT_in {ds : List D} {i : Nat} {st : Sto} (h : i < ds.length) : (itT ds).get st i = some (some ds[i]) := by
  show some ds[i]? = _
  rw [List.getElem?_eq_getElem h]
theorem itT_end {ds : List D} {st : Sto} : (itT ds).get st ds.length = some none := by
  show some ds[ds.length]? = _
  rw [List.getElem?_eq_none (Nat.le_refl _)]
theorem itL_get {l : Nat} {ds : List D} {st : Sto} (e : st[l]? = some (.lst ds)) (i : Nat) : (itL l).get st i = some ds[i]? := by
  show (match st[l]? with
    | some (.lst ds) => some ds[i]?
    | _ => none) = _
  rw [e]
/-- a part that only goes on -/
def onlyN (N : Env → Sto → Prop) : Po := ⟨N, fun _ _ => False, fun _ _ => False, fun _ _ => False, fun _ _ _ => False⟩
theorem z_cut {z : Z} {P : Po} (N : Env → Sto → Prop) (h : ZW z (onlyN N)) (k : ∀ e s, N e s → P.nx e s) : ZW z P := h.mono k (fun _ _ z => z.elim) (fun _ _ z => z.elim) (fun _ _ z => z.elim) fun _ _ _ z => z.elim
/-- the place p of the store is written -/
theorem put_at {ps : List Nat} {st s : Sto} {p : Nat} {xs : List D} (x : Ext ps st s) (hp : p ∈ ps) (h : s[p]? = some (.lst xs)) (ys : List D) : ∃ s', s' = s.set p (.lst ys) ∧ Ext ps st s' ∧ s'[p]? = some (.lst ys) := ⟨_, rfl, x.trans (Ext.set hp), set_at h⟩
theorem new_at {ps : List Nat} {st s : Sto} (x : Ext ps st s) (o : O) : ∃ s', s' = s ++ [o] ∧ Ext ps st s' ∧ Ext ps s s' ∧ s'[s.length]? = some o := ⟨_, rfl, x.trans Ext.push, Ext.push, push_at⟩
theorem get_push {st : Sto} {l : Nat} {o x : O} (h : st[l]? = some o) : (st ++ [x])[l]? = some o := by rw [List.getElem?_append_left (List.getElem?_eq_some_iff.mp h).1]; exact h
theorem atI_map {α β : Type} {f : α → β} {xs : List α} {i : Nat} (h : i < xs.length) : atI (xs.map f) (i : Int) = some (f xs[i]) := by
  rw [atI_nat (by simpa using h), List.getElem_map]
theorem itL_map {α : Type} {f : α → D} {l : Nat} {xs : List α} {st : Sto} {i : Nat} (e : st[l]? = some (.lst (xs.map f))) (h : i < xs.length) : (itL l).get st i = some (some (f xs[i])) := by
  rw [itL_get e, List.getElem?_eq_getElem (by simpa using h), List.getElem_map]
theorem itL_fin {α : Type} {f : α → D} {l : Nat} {xs : List α} {st : Sto} (e : st[l]? = some (.lst (xs.map f))) : (itL l).get st xs.length = some none := by
  rw [itL_get e, List.getElem?_eq_none (by simp)]
theorem itT_map {α : Type} {f : α → D} {xs : List α} {st : Sto} {i : Nat} (h : i < xs.length) : (itT (xs.map f)).get st i = some (some (f xs[i])) := by
  rw [itT_in (by simpa using h), List.getElem_map]
theorem itT_fin {α : Type} {f : α → D} {xs : List α} {st : Sto} : (itT (xs.map f)).get st xs.length = some none := by
  have := itT_end (ds := xs.map f) (st := st)
  rwa [List.length_map] at this
/-- the store changes at the place l alone -/
structure Chg (l : Nat) (st s : Sto) : Prop where
  len : s.length = st.length
  at_ : ∀ j, j ≠ l → s[j]? = st[j]?
theorem Chg.set {l : Nat} {st : Sto} {o : O} : Chg l st (st.set l o) := ⟨by simp, fun j h => set_ne (Ne.symm h)⟩
theorem Chg.get {l j : Nat} {st s : Sto} {o : O} (c : Chg l st s) (h : st[j]? = some o) (n : j ≠ l) : s[j]? = some o := (c.at_ j n).trans h
theorem Chg.trans {l : Nat} {a b c : Sto} (x : Chg l a b) (y : Chg l b c) : Chg l a c := ⟨y.len.trans x.len, fun j h => (y.at_ j h).trans (x.at_ j h)⟩
theorem Ext.chg {ps : List Nat} {a st s : Sto} {l : Nat} (x : Ext ps a st) (c : Chg l st s) (h : a.length ≤ l) : Ext ps a s := ⟨by rw [c.len]; exact x.len, fun j hj hl => (c.at_ j (by omega)).trans (x.at_ j hj hl)⟩
section
variable {st : Sto} {Q : D → Sto → Prop} {X : Ex → Sto → Prop} {α : Type} {f : α → D}
theorem r_appM {l : Nat} {xs : List α} {y : D} (x : α) (e : st[l]? = some (.lst (xs.map f))) (ey : y = f x) (z : xs.length < 16777216) (k : ∀ s, s[l]? = some (.lst ((xs ++ [x]).map f)) → Chg l st s → Q .non s) : RW (mAppend (.obj l) [y] st) Q X := by
  subst ey
  refine r_append e (lt_line (by simpa using z)) (k _ ?_ Chg.set)
  rw [set_at e]
  simp
theorem prIs_map : ∀ ps : List (Int × Int), prIs (ps.map prD) = some ps
  | [] => rfl
  | p :: ps => by
    have ih := prIs_map ps
    show (match prI (prD p), prIs (ps.map prD) with
      | some p, some ps => some (p :: ps)
      | _, _ => none) = _
    rw [ih]
    rfl
theorem r_sorted {l : Nat} {ps : List (Int × Int)} (e : st[l]? = some (.lst (ps.map prD))) (k : Q (.obj st.length) (st ++ [.lst ((ps.mergeSort leP).map prD)])) : RW (cSorted [.obj l] st) Q X := by
  show RW (match lstOf st (.obj l) with
    | some ds => match prIs ds with
      | some ps => newL ((ps.mergeSort leP).map prD) st
      | none => .bad
    | none => .bad) Q X
  rw [lst_obj e]
  dsimp only
  rw [prIs_map]
  exact RW.of k
theorem r_popAt {l i : Nat} {xs : List D} (e : st[l]? = some (.lst xs)) (h : i < xs.length) (h2 : xs.length < 2 ^ 62) (k : Q xs[i] (st.set l (.lst (xs.eraseIdx i)))) : RW (mPopAt (.obj l) [.int i] st) Q X := by
  unfold mPopAt
  dsimp only
  rw [e]
  dsimp only
  rw [if_pos (by omega)]
  have : seqIndex? ((i : Nat) : Int) xs.length = some i := (ixN_seq (ixN_nat h)).1
  rw [this]
  dsimp only
  rw [List.getElem?_eq_getElem h]
  exact RW.of k
end
end Kc

namespace Kc
open PySem PySem.Spec PyProof.Rows L2
/-! ### instances -/
section
variable {α : Type} {env : Env} {st : Sto} {P : Po} {Q : D → Sto → Prop} {X : Ex → Sto → Prop} {f g : FE} {fa : FA} {c : Nat} {n : Str}
theorem z_cT {a b : Z} {t : Bool} (h : t = true) (k : ZW a P) : ZW (if t = true then a else b) P := by rw [if_pos h]; exact k
theorem z_cF {a b : Z} {t : Bool} (h : t = false) (k : ZW b P) : ZW (if t = true then a else b) P := by rw [if_neg (by rw [h]; decide)]; exact k
theorem r_cT {a b : R α} {t : Bool} {Q : α → Sto → Prop} (h : t = true) (k : RW a Q X) : RW (if t = true then a else b) Q X := by rw [if_pos h]; exact k
theorem r_cF {a b : R α} {t : Bool} {Q : α → Sto → Prop} (h : t = false) (k : RW b Q X) : RW (if t = true then a else b) Q X := by rw [if_neg (by rw [h]; decide)]; exact k
def asFld (c : Nat) (n : Str) (x : D) (s : Sto) : R D := match fldOf s c n x with
  | some d => .ok d s
  | none => .bad
theorem r_fld (k : RW (f env st) (fun x s => RW (asFld c n x s) Q X) X) : RW (bFld c f n env st) Q X := by unfold bFld; rw [rw_bind]; exact k
theorem r_asFld {l : Nat} {fs : List (Str × D)} {d : D} (e : st[l]? = some (.ins c fs)) (h : fs.lookup n = some d) (k : Q d st) : RW (asFld c n (.obj l) st) Q X := by
  have : fldOf st c n (.obj l) = some d := by
    unfold fldOf
    dsimp only
    rw [e]
    dsimp only
    rw [if_pos rfl]
    exact h
  unfold asFld
  rw [this]
  exact RW.of k
def asSetF (c : Nat) (n : Str) (v x : D) (env : Env) (s : Sto) : Z := match setFld s c n v x with
  | some s' => .nx env s'
  | none => .bad
theorem zs_fld {o e : FE} (k : RW (e env st) (fun v s => RW (o env s) (fun x s => ZW (asSetF c n v x env s) P) fun x s => P.xc x env s) fun x s => P.xc x env s) : ZW (sFldS c o n e env st) P := by
  unfold sFldS
  rw [rw_z]
  simp only [rw_z]
  exact k
theorem zq_fld {o e : FE} {v : FS} (k : ZW (sFldS c o n e env st) { P with nx := fun e s => ZW (v e s) P }) : ZW (sSeq (sFldS c o n e) v env st) P := zs_seq k
theorem z_asSetF {l : Nat} {fs : List (Str × D)} {v : D} (e : st[l]? = some (.ins c fs)) (z : fs.length < 1000) (k : P.nx env (st.set l (.ins c (putD n v fs)))) : ZW (asSetF c n v (.obj l) env st) P := by
  have : setFld st c n v (.obj l) = some (st.set l (.ins c (putD n v fs))) := by
    unfold setFld
    dsimp only
    rw [e]
    dsimp only
    rw [if_pos ⟨rfl, z⟩]
  unfold asSetF
  rw [this]
  exact ZW.ofN k
def asMet (c : Nat) (m : Str) (F : FD) (x : D) (fa : FA) (env : Env) (s : Sto) : R D := match x with
  | .obj l => match s[l]? with
    | some (.ins c' fs) => if c' = c ∧ fs.lookup m = none then (fa env s).bind fun ds s => F (x :: ds) s else .bad
    | _ => .bad
  | _ => .bad
theorem r_met {F : FD} (k : RW (f env st) (fun x s => RW (asMet c n F x fa env s) Q X) X) : RW (bMet c n F f fa env st) Q X := by unfold bMet; rw [rw_bind]; exact k
theorem r_asMet {F : FD} {l : Nat} {fs : List (Str × D)} (e : st[l]? = some (.ins c fs)) (h : fs.lookup n = none) (k : RW (fa env st) (fun ds s => RW (F (.obj l :: ds) s) Q X) X) : RW (asMet c n F (.obj l) fa env st) Q X := by
  unfold asMet
  dsimp only
  rw [e]
  dsimp only
  rw [if_pos ⟨rfl, h⟩, rw_bind]
  exact k
theorem r_make {F : FD} (k : RW (fa env st) (fun ds s => RW (F (.obj s.length :: ds) (s ++ [.ins c []])) (fun d s' => d = .non ∧ Q (.obj s.length) s') X) X) : RW (bMake c F fa env st) Q X := by
  unfold bMake
  rw [rw_bind]
  refine k.mono (fun ds s z => ?_) fun _ _ z => z
  rw [rw_bind]
  refine z.mono (fun d s' y => ?_) fun _ _ z => z
  obtain ⟨rfl, y⟩ := y
  exact RW.of y
theorem r_dictix {g : FE} (k : RW (f env st) (fun x s => ∃ ds kvs, x = .ptp ds ∧ pairsD ds = some kvs ∧ RW (g env s) (fun y s => ∃ j d, keyD y = some j ∧ lastK j kvs = some d ∧ Q d s) X) X) : RW (bDictIx f g env st) Q X := by
  unfold bDictIx
  rw [rw_bind]
  refine k.mono (fun x s z => ?_) fun _ _ z => z
  obtain ⟨ds, kvs, rfl, e, z⟩ := z
  dsimp only
  rw [e]
  dsimp only
  rw [rw_bind]
  refine z.mono (fun y s z => ?_) fun _ _ z => z
  obtain ⟨j, d, e1, e2, z⟩ := z
  rw [e1]
  dsimp only
  rw [e2]
  exact RW.of z
def tRev (x : D) (s : Sto) : R D := match x with
  | .tup ds => .ok (.tup ds.reverse) s
  | _ => .bad
theorem r_tupRev (k : RW (f env st) (fun x s => RW (tRev x s) Q X) X) : RW (bTupRev f env st) Q X := by
  unfold bTupRev; rw [rw_bind]
  refine k.mono (fun a s z => ?_) fun _ _ z => z
  cases a <;> exact z
theorem r_tRev {ds : List D} (k : Q (.tup ds.reverse) st) : RW (tRev (.tup ds) st) Q X := RW.of k
theorem r_revL (k : RW (f env st) (fun x s => ∃ ds, lstOf s x = some ds ∧ Q (.obj s.length) (s ++ [.lst ds.reverse])) X) : RW (bRevL f env st) Q X := by
  unfold bRevL; rw [rw_bind]
  refine k.mono (fun a s z => ?_) fun _ _ z => z
  obtain ⟨ds, e, z⟩ := z
  rw [e]
  exact RW.of z
theorem e_fld {l : Nat} (k : ∃ fs, st[l]? = some (.ins c fs) ∧ ∃ d, fs.lookup n = some d ∧ Q d st) : RW (asFld c n (.obj l) st) Q X := let ⟨_, e, _, h, k⟩ := k; r_asFld e h k
theorem e_met {F : FD} {l : Nat} (k : ∃ fs, st[l]? = some (.ins c fs) ∧ fs.lookup n = none ∧ RW (fa env st) (fun ds s => RW (F (.obj l :: ds) s) Q X) X) : RW (asMet c n F (.obj l) fa env st) Q X := let ⟨_, e, h, k⟩ := k; r_asMet e h k
theorem Ext.far {ps : List Nat} {a b d : Sto} (x : Ext [] a b) (y : Ext ps b d) (h : ∀ q ∈ ps, a.length ≤ q) : Ext [] a d := ⟨Nat.le_trans x.len y.len, fun l hl h2 => (y.at_ l (fun z => by have := h l z; omega) (Nat.lt_of_lt_of_le h2 x.len)).trans (x.at_ l hl h2)⟩
theorem Chg.ext {l : Nat} {ps : List Nat} {a b : Sto} (c : Chg l a b) (h : l ∈ ps) : Ext ps a b := ⟨Nat.le_of_eq c.len.symm, fun j hj _ => c.at_ j fun e => hj (e ▸ h)⟩
theorem r_isnX {x : D} (h : ∃ ds, x = .tup ds) (k : Q (.bl true) st) : RW (dIsNot x .non st) Q X := by
  obtain ⟨ds, rfl⟩ := h
  exact r_isn2 k
theorem r_isX {x : D} (h : ∃ ds, x = .tup ds) (k : Q (.bl false) st) : RW (dIs x .non st) Q X := by
  obtain ⟨ds, rfl⟩ := h
  exact r_is2 k
theorem rep_ints {n : Nat} (xs : List Int) : (List.replicate n (xs.map D.int)).flatten = ((List.replicate n xs).flatten).map D.int := by
  induction n with
  | zero => rfl
  | succ n ih => rw [List.replicate_succ, List.replicate_succ, List.flatten_cons, List.flatten_cons, List.map_append, ih]
theorem r_mulT {xs : List Int} {k : Nat} (h1 : xs ≠ []) (h2 : 2 ≤ k) (h3 : k ≤ 1000) (h4 : xs.length ≤ 1000) (q : Q (.tup (((List.replicate k xs).flatten).map D.int)) st) : RW (dMul (.tup (xs.map D.int)) (.int (k : Int)) st) Q X := by
  show RW (if xs.map D.int ≠ [] ∧ 2 ≤ (k : Int) ∧ (k : Int) ≤ 1000 ∧ (xs.map D.int).length ≤ 1000 then _ else _) Q X
  rw [if_pos ⟨by simpa using h1, by omega, by omega, by simpa using h4⟩]
  unfold rep
  rw [Int.toNat_natCast, rep_ints]
  exact RW.of q
theorem e_isiD {T : String} {x : D} {t : String} {b : Bool} (e : tyD st x = some t) (h : kitB t T = some b) (k : Q (.bl b) st) : RW (asIsi T x st) Q X := r_asIsi e h k
theorem kTT : kitB "tuple" "tuple" = some true := by decide +kernel
theorem kII : kitB "int" "int" = some true := by decide +kernel
theorem kIB : kitB "int" "bool" = some false := by decide +kernel
theorem kSS : kitB "str" "str" = some true := by decide +kernel
theorem kLL : kitB "list" "list" = some true := by decide +kernel
end
end Kc

namespace Kw
open Kc PySem
/-- a cut that lets the other ends be -/
theorem z_mid {z : Z} {P : Po} (N : Kc.Env → Sto → Prop) (h : ZW z { P with nx := N }) (k : ∀ e s, N e s → P.nx e s) : ZW z P := h.mono k (fun _ _ z => z) (fun _ _ z => z) (fun _ _ z => z) fun _ _ _ z => z
/-- the box at the place p -/
def Bx (p c : Nat) (st : Sto) : Prop := ∃ (i : Nat) (v k n : Int) (ns : List Int), st[p]? = some (.lst [.obj c, .int i, .int v, .int k, .int n]) ∧ st[c]? = some (.lst (ns.map D.int)) ∧ c ≠ p
theorem Bx.to {p c : Nat} {st st' : Sto} (h : Bx p c st) (e1 : st'[p]? = st[p]?) (e2 : st'[c]? = st[c]?) : Bx p c st' := by
  obtain ⟨i, v, k, n, ns, h1, h2, h4⟩ := h
  exact ⟨i, v, k, n, ns, e1.trans h1, e2.trans h2, h4⟩
theorem Bx.lt {p c : Nat} {st : Sto} (h : Bx p c st) : p < st.length ∧ c < st.length := by
  obtain ⟨i, v, k, n, ns, h1, h2, h4⟩ := h
  exact ⟨(List.getElem?_eq_some_iff.mp h1).1, (List.getElem?_eq_some_iff.mp h2).1⟩
theorem Bx.ext {p c : Nat} {st st' : Sto} (h : Bx p c st) (x : Ext [] st st') : Bx p c st' := h.to (x.at_ p (by simp) h.lt.1) (x.at_ c (by simp) h.lt.2)
theorem Bx.set {p c l : Nat} {st : Sto} {o : O} (h : Bx p c st) (h1 : p ≠ l) (h2 : c ≠ l) : Bx p c (st.set l o) := h.to (set_ne h1.symm) (set_ne h2.symm)
theorem box_ok {ns : List Int} : RW (F_law_box [.rol (ns.map D.int)] []) (fun d st => ∃ p c, d = .obj p ∧ Bx p c st) noX := by
  refine rw_run rfl ?_
  unfold B_law_box
  simp only [List.map_cons, List.map_nil, List.cons_append, List.nil_append, List.replicate_succ, List.replicate_zero, Nat.reduceSub]
  repeat (first | with_reducible (first | refine zs_seq ?_ | refine zs_asg ?_ | refine zs_drop ?_ | refine zs_ret ?_ | refine zs_retN ?_ | refine zs_next ?_ | refine zs_brk ?_ | refine zs_cnt ?_ | refine zs_if ?_ | refine zs_for ?_ | refine zs_while ?_ | refine z_true ?_ | refine z_false ?_ | refine r_k ?_ | refine r_op ?_ | refine r_un ?_ | refine r_nil ?_ | refine r_cons ?_ | refine r_tup ?_ | refine r_ptp ?_ | refine r_lst ?_ | refine r_ife ?_ | refine r_if1 ?_ | refine r_if0 ?_ | refine r_and ?_ | refine r_or ?_ | refine r_not ?_ | refine r_bool ?_ | refine r_asB ?_ | refine r_tru ?_ | refine r_truB ?_ | refine r_truI ?_ | refine r_andV ?_ | refine r_orV ?_ | refine r_andV1 ?_ | refine r_andV0 ?_ | refine r_orV1 ?_ | refine r_orV0 ?_ | refine r_notV ?_ | refine r_call ?_ | refine r_meth ?_ | refine r_addI ?_ | refine r_subI ?_ | refine r_negI ?_ | refine r_andI ?_ | refine r_ltI ?_ | refine r_gtI ?_ | refine r_leI ?_ | refine r_geI ?_ | refine r_eqI ?_ | refine r_eqS ?_ | refine r_neI ?_ | refine r_neS ?_ | refine r_is0 ?_ | refine r_is1 ?_ | refine r_is2 ?_ | refine r_is3 ?_ | refine r_isn0 ?_ | refine r_isn1 ?_ | refine r_isn2 ?_ | refine r_isn3 ?_ | refine r_lenT ?_ | refine r_intI ?_ | refine r_absI ?_ | refine r_sl ?_ | refine r_no ?_ | refine r_part ?_ | refine r_asP ?_ | refine r_slT ?_ | refine r_slR ?_ | refine r_iter ?_ | refine r_asT ?_ | refine r_asPt ?_ | refine r_asRo ?_ | refine r_rng1 ?_ | refine r_gNm ?_ | refine r_gIx ?_ | refine r_comp ?_ | refine r_chain ?_ | refine r_chn1 ?_ | refine r_chn0 ?_ | refine r_isi ?_ | refine r_newL ?_ | refine r_ok ?_) | ((with_reducible (first | refine e_var ?_ | refine e_ixT ?_ | refine e_gTp ?_)); refine ⟨_, rfl, ?_⟩) | ((with_reducible (first | refine r_mkT ?_ ?_ | refine r_mkP ?_ ?_ | refine r_mkL ?_ ?_)); exact Nat.le_of_ble_eq_true rfl) | ((with_reducible (first | refine e_mth ?_ | refine e_lenO ?_ | refine e_asO ?_ | refine e_truO ?_ | refine e_tupleO ?_ | refine e_tupleP ?_ | refine e_slO ?_ | refine e_reverse ?_ | refine e_listO ?_)); refine ⟨_, (by assumption), ?_⟩) | ((with_reducible (first | refine e_ixO ?_ | refine e_set ?_)); refine ⟨_, (by assumption), _, rfl, ?_⟩) | ((with_reducible (first | refine r_mulI ?_ ?_)); first | exact mul_ok (Or.inr (by decide)) | exact mul_ok (Or.inl (by decide))) | ((with_reducible (first | refine r_modI ?_ ?_ | refine r_fdvI ?_ ?_ | refine r_powI ?_ ?_)); decide) | dsimp only [endP])
  have hc : ∃ ms : List Int, cut (ns.map D.int) none (some 63) = ms.map D.int := ⟨ns.take 63, by rw [show (63 : Int) = ((63 : Nat) : Int) from rfl, cut_to, List.map_take]⟩
  obtain ⟨ms, em⟩ := hc
  rw [em]
  refine e_listO ⟨_, rfl, ?_⟩
  repeat (first | with_reducible (first | refine zs_seq ?_ | refine zs_asg ?_ | refine zs_drop ?_ | refine zs_ret ?_ | refine zs_retN ?_ | refine zs_next ?_ | refine zs_brk ?_ | refine zs_cnt ?_ | refine zs_if ?_ | refine zs_for ?_ | refine zs_while ?_ | refine z_true ?_ | refine z_false ?_ | refine r_k ?_ | refine r_op ?_ | refine r_un ?_ | refine r_nil ?_ | refine r_cons ?_ | refine r_tup ?_ | refine r_ptp ?_ | refine r_lst ?_ | refine r_ife ?_ | refine r_if1 ?_ | refine r_if0 ?_ | refine r_and ?_ | refine r_or ?_ | refine r_not ?_ | refine r_bool ?_ | refine r_asB ?_ | refine r_tru ?_ | refine r_truB ?_ | refine r_truI ?_ | refine r_andV ?_ | refine r_orV ?_ | refine r_andV1 ?_ | refine r_andV0 ?_ | refine r_orV1 ?_ | refine r_orV0 ?_ | refine r_notV ?_ | refine r_call ?_ | refine r_meth ?_ | refine r_addI ?_ | refine r_subI ?_ | refine r_negI ?_ | refine r_andI ?_ | refine r_ltI ?_ | refine r_gtI ?_ | refine r_leI ?_ | refine r_geI ?_ | refine r_eqI ?_ | refine r_eqS ?_ | refine r_neI ?_ | refine r_neS ?_ | refine r_is0 ?_ | refine r_is1 ?_ | refine r_is2 ?_ | refine r_is3 ?_ | refine r_isn0 ?_ | refine r_isn1 ?_ | refine r_isn2 ?_ | refine r_isn3 ?_ | refine r_lenT ?_ | refine r_intI ?_ | refine r_absI ?_ | refine r_sl ?_ | refine r_no ?_ | refine r_part ?_ | refine r_asP ?_ | refine r_slT ?_ | refine r_slR ?_ | refine r_iter ?_ | refine r_asT ?_ | refine r_asPt ?_ | refine r_asRo ?_ | refine r_rng1 ?_ | refine r_gNm ?_ | refine r_gIx ?_ | refine r_comp ?_ | refine r_chain ?_ | refine r_chn1 ?_ | refine r_chn0 ?_ | refine r_isi ?_ | refine r_newL ?_ | refine r_ok ?_) | ((with_reducible (first | refine e_var ?_ | refine e_ixT ?_ | refine e_gTp ?_)); refine ⟨_, rfl, ?_⟩) | ((with_reducible (first | refine r_mkT ?_ ?_ | refine r_mkP ?_ ?_ | refine r_mkL ?_ ?_)); exact Nat.le_of_ble_eq_true rfl) | ((with_reducible (first | refine e_mth ?_ | refine e_lenO ?_ | refine e_asO ?_ | refine e_truO ?_ | refine e_tupleO ?_ | refine e_tupleP ?_ | refine e_slO ?_ | refine e_reverse ?_ | refine e_listO ?_)); refine ⟨_, (by assumption), ?_⟩) | ((with_reducible (first | refine e_ixO ?_ | refine e_set ?_)); refine ⟨_, (by assumption), _, rfl, ?_⟩) | ((with_reducible (first | refine r_mulI ?_ ?_)); first | exact mul_ok (Or.inr (by decide)) | exact mul_ok (Or.inl (by decide))) | ((with_reducible (first | refine r_modI ?_ ?_ | refine r_fdvI ?_ ?_ | refine r_powI ?_ ?_)); decide) | dsimp only [endP])
  refine r_lenD (ds := ns.map D.int) rfl ?_
  repeat (first | with_reducible (first | refine zs_seq ?_ | refine zs_asg ?_ | refine zs_drop ?_ | refine zs_ret ?_ | refine zs_retN ?_ | refine zs_next ?_ | refine zs_brk ?_ | refine zs_cnt ?_ | refine zs_if ?_ | refine zs_for ?_ | refine zs_while ?_ | refine z_true ?_ | refine z_false ?_ | refine r_k ?_ | refine r_op ?_ | refine r_un ?_ | refine r_nil ?_ | refine r_cons ?_ | refine r_tup ?_ | refine r_ptp ?_ | refine r_lst ?_ | refine r_ife ?_ | refine r_if1 ?_ | refine r_if0 ?_ | refine r_and ?_ | refine r_or ?_ | refine r_not ?_ | refine r_bool ?_ | refine r_asB ?_ | refine r_tru ?_ | refine r_truB ?_ | refine r_truI ?_ | refine r_andV ?_ | refine r_orV ?_ | refine r_andV1 ?_ | refine r_andV0 ?_ | refine r_orV1 ?_ | refine r_orV0 ?_ | refine r_notV ?_ | refine r_call ?_ | refine r_meth ?_ | refine r_addI ?_ | refine r_subI ?_ | refine r_negI ?_ | refine r_andI ?_ | refine r_ltI ?_ | refine r_gtI ?_ | refine r_leI ?_ | refine r_geI ?_ | refine r_eqI ?_ | refine r_eqS ?_ | refine r_neI ?_ | refine r_neS ?_ | refine r_is0 ?_ | refine r_is1 ?_ | refine r_is2 ?_ | refine r_is3 ?_ | refine r_isn0 ?_ | refine r_isn1 ?_ | refine r_isn2 ?_ | refine r_isn3 ?_ | refine r_lenT ?_ | refine r_intI ?_ | refine r_absI ?_ | refine r_sl ?_ | refine r_no ?_ | refine r_part ?_ | refine r_asP ?_ | refine r_slT ?_ | refine r_slR ?_ | refine r_iter ?_ | refine r_asT ?_ | refine r_asPt ?_ | refine r_asRo ?_ | refine r_rng1 ?_ | refine r_gNm ?_ | refine r_gIx ?_ | refine r_comp ?_ | refine r_chain ?_ | refine r_chn1 ?_ | refine r_chn0 ?_ | refine r_isi ?_ | refine r_newL ?_ | refine r_ok ?_) | ((with_reducible (first | refine e_var ?_ | refine e_ixT ?_ | refine e_gTp ?_)); refine ⟨_, rfl, ?_⟩) | ((with_reducible (first | refine r_mkT ?_ ?_ | refine r_mkP ?_ ?_ | refine r_mkL ?_ ?_)); exact Nat.le_of_ble_eq_true rfl) | ((with_reducible (first | refine e_mth ?_ | refine e_lenO ?_ | refine e_asO ?_ | refine e_truO ?_ | refine e_tupleO ?_ | refine e_tupleP ?_ | refine e_slO ?_ | refine e_reverse ?_ | refine e_listO ?_)); refine ⟨_, (by assumption), ?_⟩) | ((with_reducible (first | refine e_ixO ?_ | refine e_set ?_)); refine ⟨_, (by assumption), _, rfl, ?_⟩) | ((with_reducible (first | refine r_mulI ?_ ?_)); first | exact mul_ok (Or.inr (by decide)) | exact mul_ok (Or.inl (by decide))) | ((with_reducible (first | refine r_modI ?_ ?_ | refine r_fdvI ?_ ?_ | refine r_powI ?_ ?_)); decide) | dsimp only [endP])
  exact ⟨_, 1, rfl, 0, _, _, _, ms, rfl, rfl, by simp⟩
theorem cell_ok {p c : Nat} {i : Nat} {v k n : Int} {ns : List Int} {st : Sto} (hp : st[p]? = some (.lst [.obj c, .int i, .int v, .int k, .int n])) (hc : st[c]? = some (.lst (ns.map D.int))) (hne : c ≠ p) :
    RW (F_law_cell [.obj p] st) (fun d st' => ∃ (z : Int) (i' : Nat), d = .int z ∧ Ext [p] st st' ∧ st'[p]? = some (.lst [.obj c, .int i', .int v, .int k, .int n])) noX := by
  refine rw_run rfl ?_
  unfold B_law_cell
  simp only [List.map_cons, List.map_nil, List.cons_append, List.nil_append, List.replicate_succ, List.replicate_zero, Nat.reduceSub]
  repeat (first | with_reducible (first | refine zs_seq ?_ | refine zs_asg ?_ | refine zs_drop ?_ | refine zs_ret ?_ | refine zs_retN ?_ | refine zs_next ?_ | refine zs_brk ?_ | refine zs_cnt ?_ | refine zs_if ?_ | refine zs_for ?_ | refine zs_while ?_ | refine z_true ?_ | refine z_false ?_ | refine r_k ?_ | refine r_op ?_ | refine r_un ?_ | refine r_nil ?_ | refine r_cons ?_ | refine r_tup ?_ | refine r_ptp ?_ | refine r_lst ?_ | refine r_ife ?_ | refine r_if1 ?_ | refine r_if0 ?_ | refine r_and ?_ | refine r_or ?_ | refine r_not ?_ | refine r_bool ?_ | refine r_asB ?_ | refine r_tru ?_ | refine r_truB ?_ | refine r_truI ?_ | refine r_andV ?_ | refine r_orV ?_ | refine r_andV1 ?_ | refine r_andV0 ?_ | refine r_orV1 ?_ | refine r_orV0 ?_ | refine r_notV ?_ | refine r_call ?_ | refine r_meth ?_ | refine r_addI ?_ | refine r_subI ?_ | refine r_negI ?_ | refine r_andI ?_ | refine r_ltI ?_ | refine r_gtI ?_ | refine r_leI ?_ | refine r_geI ?_ | refine r_eqI ?_ | refine r_eqS ?_ | refine r_neI ?_ | refine r_neS ?_ | refine r_is0 ?_ | refine r_is1 ?_ | refine r_is2 ?_ | refine r_is3 ?_ | refine r_isn0 ?_ | refine r_isn1 ?_ | refine r_isn2 ?_ | refine r_isn3 ?_ | refine r_lenT ?_ | refine r_intI ?_ | refine r_absI ?_ | refine r_sl ?_ | refine r_no ?_ | refine r_part ?_ | refine r_asP ?_ | refine r_slT ?_ | refine r_slR ?_ | refine r_iter ?_ | refine r_asT ?_ | refine r_asPt ?_ | refine r_asRo ?_ | refine r_rng1 ?_ | refine r_gNm ?_ | refine r_gIx ?_ | refine r_comp ?_ | refine r_chain ?_ | refine r_chn1 ?_ | refine r_chn0 ?_ | refine r_isi ?_ | refine r_newL ?_ | refine r_ok ?_) | ((with_reducible (first | refine e_var ?_ | refine e_ixT ?_ | refine e_gTp ?_)); refine ⟨_, rfl, ?_⟩) | ((with_reducible (first | refine r_mkT ?_ ?_ | refine r_mkP ?_ ?_ | refine r_mkL ?_ ?_)); exact Nat.le_of_ble_eq_true rfl) | ((with_reducible (first | refine e_mth ?_ | refine e_lenO ?_ | refine e_asO ?_ | refine e_truO ?_ | refine e_tupleO ?_ | refine e_tupleP ?_ | refine e_slO ?_ | refine e_reverse ?_ | refine e_listO ?_)); refine ⟨_, (by assumption), ?_⟩) | ((with_reducible (first | refine e_ixO ?_ | refine e_set ?_)); refine ⟨_, (by assumption), _, rfl, ?_⟩) | ((with_reducible (first | refine r_mulI ?_ ?_)); first | exact mul_ok (Or.inr (by decide)) | exact mul_ok (Or.inl (by decide))) | ((with_reducible (first | refine r_modI ?_ ?_ | refine r_fdvI ?_ ?_ | refine r_powI ?_ ?_)); decide) | dsimp only [endP])
  refine z_dec (fun h => ?_) (fun h => ?_)
  · repeat (first | with_reducible (first | refine zs_seq ?_ | refine zs_asg ?_ | refine zs_drop ?_ | refine zs_ret ?_ | refine zs_retN ?_ | refine zs_next ?_ | refine zs_brk ?_ | refine zs_cnt ?_ | refine zs_if ?_ | refine zs_for ?_ | refine zs_while ?_ | refine z_true ?_ | refine z_false ?_ | refine r_k ?_ | refine r_op ?_ | refine r_un ?_ | refine r_nil ?_ | refine r_cons ?_ | refine r_tup ?_ | refine r_ptp ?_ | refine r_lst ?_ | refine r_ife ?_ | refine r_if1 ?_ | refine r_if0 ?_ | refine r_and ?_ | refine r_or ?_ | refine r_not ?_ | refine r_bool ?_ | refine r_asB ?_ | refine r_tru ?_ | refine r_truB ?_ | refine r_truI ?_ | refine r_andV ?_ | refine r_orV ?_ | refine r_andV1 ?_ | refine r_andV0 ?_ | refine r_orV1 ?_ | refine r_orV0 ?_ | refine r_notV ?_ | refine r_call ?_ | refine r_meth ?_ | refine r_addI ?_ | refine r_subI ?_ | refine r_negI ?_ | refine r_andI ?_ | refine r_ltI ?_ | refine r_gtI ?_ | refine r_leI ?_ | refine r_geI ?_ | refine r_eqI ?_ | refine r_eqS ?_ | refine r_neI ?_ | refine r_neS ?_ | refine r_is0 ?_ | refine r_is1 ?_ | refine r_is2 ?_ | refine r_is3 ?_ | refine r_isn0 ?_ | refine r_isn1 ?_ | refine r_isn2 ?_ | refine r_isn3 ?_ | refine r_lenT ?_ | refine r_intI ?_ | refine r_absI ?_ | refine r_sl ?_ | refine r_no ?_ | refine r_part ?_ | refine r_asP ?_ | refine r_slT ?_ | refine r_slR ?_ | refine r_iter ?_ | refine r_asT ?_ | refine r_asPt ?_ | refine r_asRo ?_ | refine r_rng1 ?_ | refine r_gNm ?_ | refine r_gIx ?_ | refine r_comp ?_ | refine r_chain ?_ | refine r_chn1 ?_ | refine r_chn0 ?_ | refine r_isi ?_ | refine r_newL ?_ | refine r_ok ?_) | ((with_reducible (first | refine e_var ?_ | refine e_ixT ?_ | refine e_gTp ?_)); refine ⟨_, rfl, ?_⟩) | ((with_reducible (first | refine r_mkT ?_ ?_ | refine r_mkP ?_ ?_ | refine r_mkL ?_ ?_)); exact Nat.le_of_ble_eq_true rfl) | ((with_reducible (first | refine e_mth ?_ | refine e_lenO ?_ | refine e_asO ?_ | refine e_truO ?_ | refine e_tupleO ?_ | refine e_tupleP ?_ | refine e_slO ?_ | refine e_reverse ?_ | refine e_listO ?_)); refine ⟨_, (by assumption), ?_⟩) | ((with_reducible (first | refine e_ixO ?_ | refine e_set ?_)); refine ⟨_, (by assumption), _, rfl, ?_⟩) | ((with_reducible (first | refine r_mulI ?_ ?_)); first | exact mul_ok (Or.inr (by decide)) | exact mul_ok (Or.inl (by decide))) | ((with_reducible (first | refine r_modI ?_ ?_ | refine r_fdvI ?_ ?_ | refine r_powI ?_ ?_)); decide) | dsimp only [endP])
    exact ⟨0, i, rfl, Ext.refl, hp⟩
  · repeat (first | with_reducible (first | refine zs_seq ?_ | refine zs_asg ?_ | refine zs_drop ?_ | refine zs_ret ?_ | refine zs_retN ?_ | refine zs_next ?_ | refine zs_brk ?_ | refine zs_cnt ?_ | refine zs_if ?_ | refine zs_for ?_ | refine zs_while ?_ | refine z_true ?_ | refine z_false ?_ | refine r_k ?_ | refine r_op ?_ | refine r_un ?_ | refine r_nil ?_ | refine r_cons ?_ | refine r_tup ?_ | refine r_ptp ?_ | refine r_lst ?_ | refine r_ife ?_ | refine r_if1 ?_ | refine r_if0 ?_ | refine r_and ?_ | refine r_or ?_ | refine r_not ?_ | refine r_bool ?_ | refine r_asB ?_ | refine r_tru ?_ | refine r_truB ?_ | refine r_truI ?_ | refine r_andV ?_ | refine r_orV ?_ | refine r_andV1 ?_ | refine r_andV0 ?_ | refine r_orV1 ?_ | refine r_orV0 ?_ | refine r_notV ?_ | refine r_call ?_ | refine r_meth ?_ | refine r_addI ?_ | refine r_subI ?_ | refine r_negI ?_ | refine r_andI ?_ | refine r_ltI ?_ | refine r_gtI ?_ | refine r_leI ?_ | refine r_geI ?_ | refine r_eqI ?_ | refine r_eqS ?_ | refine r_neI ?_ | refine r_neS ?_ | refine r_is0 ?_ | refine r_is1 ?_ | refine r_is2 ?_ | refine r_is3 ?_ | refine r_isn0 ?_ | refine r_isn1 ?_ | refine r_isn2 ?_ | refine r_isn3 ?_ | refine r_lenT ?_ | refine r_intI ?_ | refine r_absI ?_ | refine r_sl ?_ | refine r_no ?_ | refine r_part ?_ | refine r_asP ?_ | refine r_slT ?_ | refine r_slR ?_ | refine r_iter ?_ | refine r_asT ?_ | refine r_asPt ?_ | refine r_asRo ?_ | refine r_rng1 ?_ | refine r_gNm ?_ | refine r_gIx ?_ | refine r_comp ?_ | refine r_chain ?_ | refine r_chn1 ?_ | refine r_chn0 ?_ | refine r_isi ?_ | refine r_newL ?_ | refine r_ok ?_) | ((with_reducible (first | refine e_var ?_ | refine e_ixT ?_ | refine e_gTp ?_)); refine ⟨_, rfl, ?_⟩) | ((with_reducible (first | refine r_mkT ?_ ?_ | refine r_mkP ?_ ?_ | refine r_mkL ?_ ?_)); exact Nat.le_of_ble_eq_true rfl) | ((with_reducible (first | refine e_mth ?_ | refine e_lenO ?_ | refine e_asO ?_ | refine e_truO ?_ | refine e_tupleO ?_ | refine e_tupleP ?_ | refine e_slO ?_ | refine e_reverse ?_ | refine e_listO ?_)); refine ⟨_, (by assumption), ?_⟩) | ((with_reducible (first | refine e_ixO ?_ | refine e_set ?_)); refine ⟨_, (by assumption), _, rfl, ?_⟩) | ((with_reducible (first | refine r_mulI ?_ ?_)); first | exact mul_ok (Or.inr (by decide)) | exact mul_ok (Or.inl (by decide))) | ((with_reducible (first | refine r_modI ?_ ?_ | refine r_fdvI ?_ ?_ | refine r_powI ?_ ?_)); decide) | dsimp only [endP])
    obtain ⟨s1, e1, x1, p1⟩ := put_at (ps := [p]) Ext.refl (by simp) hp ([D.obj c, D.int i, D.int v, D.int k, D.int n].set (Int.toNat 1) (D.int ((i : Int) + 1)))
    rw [← e1]
    replace p1 : s1[p]? = some (.lst [.obj c, .int ((i : Int) + 1), .int v, .int k, .int n]) := p1
    clear e1
    have c1 : s1[c]? = some (.lst (ns.map D.int)) := x1.get hc (by simpa using hne)
    repeat (first | with_reducible (first | refine zs_seq ?_ | refine zs_asg ?_ | refine zs_drop ?_ | refine zs_ret ?_ | refine zs_retN ?_ | refine zs_next ?_ | refine zs_brk ?_ | refine zs_cnt ?_ | refine zs_if ?_ | refine zs_for ?_ | refine zs_while ?_ | refine z_true ?_ | refine z_false ?_ | refine r_k ?_ | refine r_op ?_ | refine r_un ?_ | refine r_nil ?_ | refine r_cons ?_ | refine r_tup ?_ | refine r_ptp ?_ | refine r_lst ?_ | refine r_ife ?_ | refine r_if1 ?_ | refine r_if0 ?_ | refine r_and ?_ | refine r_or ?_ | refine r_not ?_ | refine r_bool ?_ | refine r_asB ?_ | refine r_tru ?_ | refine r_truB ?_ | refine r_truI ?_ | refine r_andV ?_ | refine r_orV ?_ | refine r_andV1 ?_ | refine r_andV0 ?_ | refine r_orV1 ?_ | refine r_orV0 ?_ | refine r_notV ?_ | refine r_call ?_ | refine r_meth ?_ | refine r_addI ?_ | refine r_subI ?_ | refine r_negI ?_ | refine r_andI ?_ | refine r_ltI ?_ | refine r_gtI ?_ | refine r_leI ?_ | refine r_geI ?_ | refine r_eqI ?_ | refine r_eqS ?_ | refine r_neI ?_ | refine r_neS ?_ | refine r_is0 ?_ | refine r_is1 ?_ | refine r_is2 ?_ | refine r_is3 ?_ | refine r_isn0 ?_ | refine r_isn1 ?_ | refine r_isn2 ?_ | refine r_isn3 ?_ | refine r_lenT ?_ | refine r_intI ?_ | refine r_absI ?_ | refine r_sl ?_ | refine r_no ?_ | refine r_part ?_ | refine r_asP ?_ | refine r_slT ?_ | refine r_slR ?_ | refine r_iter ?_ | refine r_asT ?_ | refine r_asPt ?_ | refine r_asRo ?_ | refine r_rng1 ?_ | refine r_gNm ?_ | refine r_gIx ?_ | refine r_comp ?_ | refine r_chain ?_ | refine r_chn1 ?_ | refine r_chn0 ?_ | refine r_isi ?_ | refine r_newL ?_ | refine r_ok ?_) | ((with_reducible (first | refine e_var ?_ | refine e_ixT ?_ | refine e_gTp ?_)); refine ⟨_, rfl, ?_⟩) | ((with_reducible (first | refine r_mkT ?_ ?_ | refine r_mkP ?_ ?_ | refine r_mkL ?_ ?_)); exact Nat.le_of_ble_eq_true rfl) | ((with_reducible (first | refine e_mth ?_ | refine e_lenO ?_ | refine e_asO ?_ | refine e_truO ?_ | refine e_tupleO ?_ | refine e_tupleP ?_ | refine e_slO ?_ | refine e_reverse ?_ | refine e_listO ?_)); refine ⟨_, (by assumption), ?_⟩) | ((with_reducible (first | refine e_ixO ?_ | refine e_set ?_)); refine ⟨_, (by assumption), _, rfl, ?_⟩) | ((with_reducible (first | refine r_mulI ?_ ?_)); first | exact mul_ok (Or.inr (by decide)) | exact mul_ok (Or.inl (by decide))) | ((with_reducible (first | refine r_modI ?_ ?_ | refine r_fdvI ?_ ?_ | refine r_powI ?_ ?_)); decide) | dsimp only [endP])
    have hl : i < ns.length := by simp at h; omega
    refine r_ixO c1 (d := .int ns[i]) (by rw [show (i : Int) + 1 - 1 = (i : Int) by omega]; exact atI_map hl) ?_
    repeat (first | with_reducible (first | refine zs_seq ?_ | refine zs_asg ?_ | refine zs_drop ?_ | refine zs_ret ?_ | refine zs_retN ?_ | refine zs_next ?_ | refine zs_brk ?_ | refine zs_cnt ?_ | refine zs_if ?_ | refine zs_for ?_ | refine zs_while ?_ | refine z_true ?_ | refine z_false ?_ | refine r_k ?_ | refine r_op ?_ | refine r_un ?_ | refine r_nil ?_ | refine r_cons ?_ | refine r_tup ?_ | refine r_ptp ?_ | refine r_lst ?_ | refine r_ife ?_ | refine r_if1 ?_ | refine r_if0 ?_ | refine r_and ?_ | refine r_or ?_ | refine r_not ?_ | refine r_bool ?_ | refine r_asB ?_ | refine r_tru ?_ | refine r_truB ?_ | refine r_truI ?_ | refine r_andV ?_ | refine r_orV ?_ | refine r_andV1 ?_ | refine r_andV0 ?_ | refine r_orV1 ?_ | refine r_orV0 ?_ | refine r_notV ?_ | refine r_call ?_ | refine r_meth ?_ | refine r_addI ?_ | refine r_subI ?_ | refine r_negI ?_ | refine r_andI ?_ | refine r_ltI ?_ | refine r_gtI ?_ | refine r_leI ?_ | refine r_geI ?_ | refine r_eqI ?_ | refine r_eqS ?_ | refine r_neI ?_ | refine r_neS ?_ | refine r_is0 ?_ | refine r_is1 ?_ | refine r_is2 ?_ | refine r_is3 ?_ | refine r_isn0 ?_ | refine r_isn1 ?_ | refine r_isn2 ?_ | refine r_isn3 ?_ | refine r_lenT ?_ | refine r_intI ?_ | refine r_absI ?_ | refine r_sl ?_ | refine r_no ?_ | refine r_part ?_ | refine r_asP ?_ | refine r_slT ?_ | refine r_slR ?_ | refine r_iter ?_ | refine r_asT ?_ | refine r_asPt ?_ | refine r_asRo ?_ | refine r_rng1 ?_ | refine r_gNm ?_ | refine r_gIx ?_ | refine r_comp ?_ | refine r_chain ?_ | refine r_chn1 ?_ | refine r_chn0 ?_ | refine r_isi ?_ | refine r_newL ?_ | refine r_ok ?_) | ((with_reducible (first | refine e_var ?_ | refine e_ixT ?_ | refine e_gTp ?_)); refine ⟨_, rfl, ?_⟩) | ((with_reducible (first | refine r_mkT ?_ ?_ | refine r_mkP ?_ ?_ | refine r_mkL ?_ ?_)); exact Nat.le_of_ble_eq_true rfl) | ((with_reducible (first | refine e_mth ?_ | refine e_lenO ?_ | refine e_asO ?_ | refine e_truO ?_ | refine e_tupleO ?_ | refine e_tupleP ?_ | refine e_slO ?_ | refine e_reverse ?_ | refine e_listO ?_)); refine ⟨_, (by assumption), ?_⟩) | ((with_reducible (first | refine e_ixO ?_ | refine e_set ?_)); refine ⟨_, (by assumption), _, rfl, ?_⟩) | ((with_reducible (first | refine r_mulI ?_ ?_)); first | exact mul_ok (Or.inr (by decide)) | exact mul_ok (Or.inl (by decide))) | ((with_reducible (first | refine r_modI ?_ ?_ | refine r_fdvI ?_ ?_ | refine r_powI ?_ ?_)); decide) | dsimp only [endP])
    exact ⟨_, i + 1, rfl, x1, by rw [p1]; rfl⟩
theorem draw_ok {p c : Nat} {size : Int} {st : Sto} (h : Bx p c st) (h0 : 0 < size) (h1 : size < 1073741824) : RW (F_law_draw [.obj p, .int size] st) (fun d st' => ∃ r, d = .int r ∧ 0 ≤ r ∧ r < size ∧ Bx p c st' ∧ Ext [p] st st') noX := by
  obtain ⟨i, v, k, n, ns, hp, hc, hne⟩ := h
  refine rw_run rfl ?_
  unfold B_law_draw
  simp only [List.map_cons, List.map_nil, List.cons_append, List.nil_append, List.replicate_succ, List.replicate_zero, Nat.reduceSub]
  refine zs_seq (z_mid (fun e s => (∃ a b : Option D, e = [some (D.obj p), some (D.int size), a, b, none]) ∧ ∃ (i' : Nat) (v' k' n' : Int), Ext [p] st s ∧ s[p]? = some (.lst [.obj c, .int i', .int v', .int k', .int n'])) ?_ ?_)
  · repeat (first | with_reducible (first | refine zs_seq ?_ | refine zs_asg ?_ | refine zs_drop ?_ | refine zs_ret ?_ | refine zs_retN ?_ | refine zs_next ?_ | refine zs_brk ?_ | refine zs_cnt ?_ | refine zs_if ?_ | refine zs_for ?_ | refine zs_while ?_ | refine z_true ?_ | refine z_false ?_ | refine r_k ?_ | refine r_op ?_ | refine r_un ?_ | refine r_nil ?_ | refine r_cons ?_ | refine r_tup ?_ | refine r_ptp ?_ | refine r_lst ?_ | refine r_ife ?_ | refine r_if1 ?_ | refine r_if0 ?_ | refine r_and ?_ | refine r_or ?_ | refine r_not ?_ | refine r_bool ?_ | refine r_asB ?_ | refine r_tru ?_ | refine r_truB ?_ | refine r_truI ?_ | refine r_andV ?_ | refine r_orV ?_ | refine r_andV1 ?_ | refine r_andV0 ?_ | refine r_orV1 ?_ | refine r_orV0 ?_ | refine r_notV ?_ | refine r_call ?_ | refine r_meth ?_ | refine r_addI ?_ | refine r_subI ?_ | refine r_negI ?_ | refine r_andI ?_ | refine r_ltI ?_ | refine r_gtI ?_ | refine r_leI ?_ | refine r_geI ?_ | refine r_eqI ?_ | refine r_eqS ?_ | refine r_neI ?_ | refine r_neS ?_ | refine r_is0 ?_ | refine r_is1 ?_ | refine r_is2 ?_ | refine r_is3 ?_ | refine r_isn0 ?_ | refine r_isn1 ?_ | refine r_isn2 ?_ | refine r_isn3 ?_ | refine r_lenT ?_ | refine r_intI ?_ | refine r_absI ?_ | refine r_sl ?_ | refine r_no ?_ | refine r_part ?_ | refine r_asP ?_ | refine r_slT ?_ | refine r_slR ?_ | refine r_iter ?_ | refine r_asT ?_ | refine r_asPt ?_ | refine r_asRo ?_ | refine r_rng1 ?_ | refine r_gNm ?_ | refine r_gIx ?_ | refine r_comp ?_ | refine r_chain ?_ | refine r_chn1 ?_ | refine r_chn0 ?_ | refine r_isi ?_ | refine r_newL ?_ | refine r_ok ?_) | ((with_reducible (first | refine e_var ?_ | refine e_ixT ?_ | refine e_gTp ?_)); refine ⟨_, rfl, ?_⟩) | ((with_reducible (first | refine r_mkT ?_ ?_ | refine r_mkP ?_ ?_ | refine r_mkL ?_ ?_)); exact Nat.le_of_ble_eq_true rfl) | ((with_reducible (first | refine e_mth ?_ | refine e_lenO ?_ | refine e_asO ?_ | refine e_truO ?_ | refine e_tupleO ?_ | refine e_tupleP ?_ | refine e_slO ?_ | refine e_reverse ?_ | refine e_listO ?_)); refine ⟨_, (by assumption), ?_⟩) | ((with_reducible (first | refine e_ixO ?_ | refine e_set ?_)); refine ⟨_, (by assumption), _, rfl, ?_⟩) | ((with_reducible (first | refine r_mulI ?_ ?_)); first | exact mul_ok (Or.inr (by decide)) | exact mul_ok (Or.inl (by decide))) | ((with_reducible (first | refine r_modI ?_ ?_ | refine r_fdvI ?_ ?_ | refine r_powI ?_ ?_)); decide) | dsimp only [endP])
    refine z_dec (fun hv => ?_) (fun hv => ?_)
    · repeat (first | with_reducible (first | refine zs_seq ?_ | refine zs_asg ?_ | refine zs_drop ?_ | refine zs_ret ?_ | refine zs_retN ?_ | refine zs_next ?_ | refine zs_brk ?_ | refine zs_cnt ?_ | refine zs_if ?_ | refine zs_for ?_ | refine zs_while ?_ | refine z_true ?_ | refine z_false ?_ | refine r_k ?_ | refine r_op ?_ | refine r_un ?_ | refine r_nil ?_ | refine r_cons ?_ | refine r_tup ?_ | refine r_ptp ?_ | refine r_lst ?_ | refine r_ife ?_ | refine r_if1 ?_ | refine r_if0 ?_ | refine r_and ?_ | refine r_or ?_ | refine r_not ?_ | refine r_bool ?_ | refine r_asB ?_ | refine r_tru ?_ | refine r_truB ?_ | refine r_truI ?_ | refine r_andV ?_ | refine r_orV ?_ | refine r_andV1 ?_ | refine r_andV0 ?_ | refine r_orV1 ?_ | refine r_orV0 ?_ | refine r_notV ?_ | refine r_call ?_ | refine r_meth ?_ | refine r_addI ?_ | refine r_subI ?_ | refine r_negI ?_ | refine r_andI ?_ | refine r_ltI ?_ | refine r_gtI ?_ | refine r_leI ?_ | refine r_geI ?_ | refine r_eqI ?_ | refine r_eqS ?_ | refine r_neI ?_ | refine r_neS ?_ | refine r_is0 ?_ | refine r_is1 ?_ | refine r_is2 ?_ | refine r_is3 ?_ | refine r_isn0 ?_ | refine r_isn1 ?_ | refine r_isn2 ?_ | refine r_isn3 ?_ | refine r_lenT ?_ | refine r_intI ?_ | refine r_absI ?_ | refine r_sl ?_ | refine r_no ?_ | refine r_part ?_ | refine r_asP ?_ | refine r_slT ?_ | refine r_slR ?_ | refine r_iter ?_ | refine r_asT ?_ | refine r_asPt ?_ | refine r_asRo ?_ | refine r_rng1 ?_ | refine r_gNm ?_ | refine r_gIx ?_ | refine r_comp ?_ | refine r_chain ?_ | refine r_chn1 ?_ | refine r_chn0 ?_ | refine r_isi ?_ | refine r_newL ?_ | refine r_ok ?_) | ((with_reducible (first | refine e_var ?_ | refine e_ixT ?_ | refine e_gTp ?_)); refine ⟨_, rfl, ?_⟩) | ((with_reducible (first | refine r_mkT ?_ ?_ | refine r_mkP ?_ ?_ | refine r_mkL ?_ ?_)); exact Nat.le_of_ble_eq_true rfl) | ((with_reducible (first | refine e_mth ?_ | refine e_lenO ?_ | refine e_asO ?_ | refine e_truO ?_ | refine e_tupleO ?_ | refine e_tupleP ?_ | refine e_slO ?_ | refine e_reverse ?_ | refine e_listO ?_)); refine ⟨_, (by assumption), ?_⟩) | ((with_reducible (first | refine e_ixO ?_ | refine e_set ?_)); refine ⟨_, (by assumption), _, rfl, ?_⟩) | ((with_reducible (first | refine r_mulI ?_ ?_)); first | exact mul_ok (Or.inr (by decide)) | exact mul_ok (Or.inl (by decide))) | ((with_reducible (first | refine r_modI ?_ ?_ | refine r_fdvI ?_ ?_ | refine r_powI ?_ ?_)); decide) | dsimp only [endP])
      refine (cell_ok hp hc hne).to ?_
      rintro _ s1 ⟨z, i1, rfl, x1, p1⟩
      have c1 : s1[c]? = some (.lst (ns.map D.int)) := x1.get hc (by simpa using hne)
      repeat (first | with_reducible (first | refine zs_seq ?_ | refine zs_asg ?_ | refine zs_drop ?_ | refine zs_ret ?_ | refine zs_retN ?_ | refine zs_next ?_ | refine zs_brk ?_ | refine zs_cnt ?_ | refine zs_if ?_ | refine zs_for ?_ | refine zs_while ?_ | refine z_true ?_ | refine z_false ?_ | refine r_k ?_ | refine r_op ?_ | refine r_un ?_ | refine r_nil ?_ | refine r_cons ?_ | refine r_tup ?_ | refine r_ptp ?_ | refine r_lst ?_ | refine r_ife ?_ | refine r_if1 ?_ | refine r_if0 ?_ | refine r_and ?_ | refine r_or ?_ | refine r_not ?_ | refine r_bool ?_ | refine r_asB ?_ | refine r_tru ?_ | refine r_truB ?_ | refine r_truI ?_ | refine r_andV ?_ | refine r_orV ?_ | refine r_andV1 ?_ | refine r_andV0 ?_ | refine r_orV1 ?_ | refine r_orV0 ?_ | refine r_notV ?_ | refine r_call ?_ | refine r_meth ?_ | refine r_addI ?_ | refine r_subI ?_ | refine r_negI ?_ | refine r_andI ?_ | refine r_ltI ?_ | refine r_gtI ?_ | refine r_leI ?_ | refine r_geI ?_ | refine r_eqI ?_ | refine r_eqS ?_ | refine r_neI ?_ | refine r_neS ?_ | refine r_is0 ?_ | refine r_is1 ?_ | refine r_is2 ?_ | refine r_is3 ?_ | refine r_isn0 ?_ | refine r_isn1 ?_ | refine r_isn2 ?_ | refine r_isn3 ?_ | refine r_lenT ?_ | refine r_intI ?_ | refine r_absI ?_ | refine r_sl ?_ | refine r_no ?_ | refine r_part ?_ | refine r_asP ?_ | refine r_slT ?_ | refine r_slR ?_ | refine r_iter ?_ | refine r_asT ?_ | refine r_asPt ?_ | refine r_asRo ?_ | refine r_rng1 ?_ | refine r_gNm ?_ | refine r_gIx ?_ | refine r_comp ?_ | refine r_chain ?_ | refine r_chn1 ?_ | refine r_chn0 ?_ | refine r_isi ?_ | refine r_newL ?_ | refine r_ok ?_) | ((with_reducible (first | refine e_var ?_ | refine e_ixT ?_ | refine e_gTp ?_)); refine ⟨_, rfl, ?_⟩) | ((with_reducible (first | refine r_mkT ?_ ?_ | refine r_mkP ?_ ?_ | refine r_mkL ?_ ?_)); exact Nat.le_of_ble_eq_true rfl) | ((with_reducible (first | refine e_mth ?_ | refine e_lenO ?_ | refine e_asO ?_ | refine e_truO ?_ | refine e_tupleO ?_ | refine e_tupleP ?_ | refine e_slO ?_ | refine e_reverse ?_ | refine e_listO ?_)); refine ⟨_, (by assumption), ?_⟩) | ((with_reducible (first | refine e_ixO ?_ | refine e_set ?_)); refine ⟨_, (by assumption), _, rfl, ?_⟩) | ((with_reducible (first | refine r_mulI ?_ ?_)); first | exact mul_ok (Or.inr (by decide)) | exact mul_ok (Or.inl (by decide))) | ((with_reducible (first | refine r_modI ?_ ?_ | refine r_fdvI ?_ ?_ | refine r_powI ?_ ?_)); decide) | dsimp only [endP])
      refine z_dec (fun hz => ?_) (fun hz => ?_)
      · repeat (first | with_reducible (first | refine zs_seq ?_ | refine zs_asg ?_ | refine zs_drop ?_ | refine zs_ret ?_ | refine zs_retN ?_ | refine zs_next ?_ | refine zs_brk ?_ | refine zs_cnt ?_ | refine zs_if ?_ | refine zs_for ?_ | refine zs_while ?_ | refine z_true ?_ | refine z_false ?_ | refine r_k ?_ | refine r_op ?_ | refine r_un ?_ | refine r_nil ?_ | refine r_cons ?_ | refine r_tup ?_ | refine r_ptp ?_ | refine r_lst ?_ | refine r_ife ?_ | refine r_if1 ?_ | refine r_if0 ?_ | refine r_and ?_ | refine r_or ?_ | refine r_not ?_ | refine r_bool ?_ | refine r_asB ?_ | refine r_tru ?_ | refine r_truB ?_ | refine r_truI ?_ | refine r_andV ?_ | refine r_orV ?_ | refine r_andV1 ?_ | refine r_andV0 ?_ | refine r_orV1 ?_ | refine r_orV0 ?_ | refine r_notV ?_ | refine r_call ?_ | refine r_meth ?_ | refine r_addI ?_ | refine r_subI ?_ | refine r_negI ?_ | refine r_andI ?_ | refine r_ltI ?_ | refine r_gtI ?_ | refine r_leI ?_ | refine r_geI ?_ | refine r_eqI ?_ | refine r_eqS ?_ | refine r_neI ?_ | refine r_neS ?_ | refine r_is0 ?_ | refine r_is1 ?_ | refine r_is2 ?_ | refine r_is3 ?_ | refine r_isn0 ?_ | refine r_isn1 ?_ | refine r_isn2 ?_ | refine r_isn3 ?_ | refine r_lenT ?_ | refine r_intI ?_ | refine r_absI ?_ | refine r_sl ?_ | refine r_no ?_ | refine r_part ?_ | refine r_asP ?_ | refine r_slT ?_ | refine r_slR ?_ | refine r_iter ?_ | refine r_asT ?_ | refine r_asPt ?_ | refine r_asRo ?_ | refine r_rng1 ?_ | refine r_gNm ?_ | refine r_gIx ?_ | refine r_comp ?_ | refine r_chain ?_ | refine r_chn1 ?_ | refine r_chn0 ?_ | refine r_isi ?_ | refine r_newL ?_ | refine r_ok ?_) | ((with_reducible (first | refine e_var ?_ | refine e_ixT ?_ | refine e_gTp ?_)); refine ⟨_, rfl, ?_⟩) | ((with_reducible (first | refine r_mkT ?_ ?_ | refine r_mkP ?_ ?_ | refine r_mkL ?_ ?_)); exact Nat.le_of_ble_eq_true rfl) | ((with_reducible (first | refine e_mth ?_ | refine e_lenO ?_ | refine e_asO ?_ | refine e_truO ?_ | refine e_tupleO ?_ | refine e_tupleP ?_ | refine e_slO ?_ | refine e_reverse ?_ | refine e_listO ?_)); refine ⟨_, (by assumption), ?_⟩) | ((with_reducible (first | refine e_ixO ?_ | refine e_set ?_)); refine ⟨_, (by assumption), _, rfl, ?_⟩) | ((with_reducible (first | refine r_mulI ?_ ?_)); first | exact mul_ok (Or.inr (by decide)) | exact mul_ok (Or.inl (by decide))) | ((with_reducible (first | refine r_modI ?_ ?_ | refine r_fdvI ?_ ?_ | refine r_powI ?_ ?_)); decide) | dsimp only [endP])
        obtain ⟨s2, e2, x2, p2⟩ := put_at (ps := [p]) x1 (by simp) p1 ([D.obj c, D.int i1, D.int v, D.int k, D.int n].set (Int.toNat 4) (D.int (n + 1)))
        rw [← e2]
        replace p2 : s2[p]? = some (.lst [.obj c, .int i1, .int v, .int k, .int (n + 1)]) := p2
        clear e2
        repeat (first | with_reducible (first | refine zs_seq ?_ | refine zs_asg ?_ | refine zs_drop ?_ | refine zs_ret ?_ | refine zs_retN ?_ | refine zs_next ?_ | refine zs_brk ?_ | refine zs_cnt ?_ | refine zs_if ?_ | refine zs_for ?_ | refine zs_while ?_ | refine z_true ?_ | refine z_false ?_ | refine r_k ?_ | refine r_op ?_ | refine r_un ?_ | refine r_nil ?_ | refine r_cons ?_ | refine r_tup ?_ | refine r_ptp ?_ | refine r_lst ?_ | refine r_ife ?_ | refine r_if1 ?_ | refine r_if0 ?_ | refine r_and ?_ | refine r_or ?_ | refine r_not ?_ | refine r_bool ?_ | refine r_asB ?_ | refine r_tru ?_ | refine r_truB ?_ | refine r_truI ?_ | refine r_andV ?_ | refine r_orV ?_ | refine r_andV1 ?_ | refine r_andV0 ?_ | refine r_orV1 ?_ | refine r_orV0 ?_ | refine r_notV ?_ | refine r_call ?_ | refine r_meth ?_ | refine r_addI ?_ | refine r_subI ?_ | refine r_negI ?_ | refine r_andI ?_ | refine r_ltI ?_ | refine r_gtI ?_ | refine r_leI ?_ | refine r_geI ?_ | refine r_eqI ?_ | refine r_eqS ?_ | refine r_neI ?_ | refine r_neS ?_ | refine r_is0 ?_ | refine r_is1 ?_ | refine r_is2 ?_ | refine r_is3 ?_ | refine r_isn0 ?_ | refine r_isn1 ?_ | refine r_isn2 ?_ | refine r_isn3 ?_ | refine r_lenT ?_ | refine r_intI ?_ | refine r_absI ?_ | refine r_sl ?_ | refine r_no ?_ | refine r_part ?_ | refine r_asP ?_ | refine r_slT ?_ | refine r_slR ?_ | refine r_iter ?_ | refine r_asT ?_ | refine r_asPt ?_ | refine r_asRo ?_ | refine r_rng1 ?_ | refine r_gNm ?_ | refine r_gIx ?_ | refine r_comp ?_ | refine r_chain ?_ | refine r_chn1 ?_ | refine r_chn0 ?_ | refine r_isi ?_ | refine r_newL ?_ | refine r_ok ?_) | ((with_reducible (first | refine e_var ?_ | refine e_ixT ?_ | refine e_gTp ?_)); refine ⟨_, rfl, ?_⟩) | ((with_reducible (first | refine r_mkT ?_ ?_ | refine r_mkP ?_ ?_ | refine r_mkL ?_ ?_)); exact Nat.le_of_ble_eq_true rfl) | ((with_reducible (first | refine e_mth ?_ | refine e_lenO ?_ | refine e_asO ?_ | refine e_truO ?_ | refine e_tupleO ?_ | refine e_tupleP ?_ | refine e_slO ?_ | refine e_reverse ?_ | refine e_listO ?_)); refine ⟨_, (by assumption), ?_⟩) | ((with_reducible (first | refine e_ixO ?_ | refine e_set ?_)); refine ⟨_, (by assumption), _, rfl, ?_⟩) | ((with_reducible (first | refine r_mulI ?_ ?_)); first | exact mul_ok (Or.inr (by decide)) | exact mul_ok (Or.inl (by decide))) | ((with_reducible (first | refine r_modI ?_ ?_ | refine r_fdvI ?_ ?_ | refine r_powI ?_ ?_)); decide) | dsimp only [endP])
        generalize hk3 : ((k * 48271 + z.fmod 1000003 * 69621 + (n + 1)).fmod 2147483647) = k3
        obtain ⟨s3, e3, x3, p3⟩ := put_at (ps := [p]) x2 (by simp) p2 ([D.obj c, D.int i1, D.int v, D.int k, D.int (n + 1)].set (Int.toNat 3) (D.int k3))
        rw [← e3]
        replace p3 : s3[p]? = some (.lst [.obj c, .int i1, .int v, .int k3, .int (n + 1)]) := p3
        clear e3
        have c3 : s3[c]? = some (.lst (ns.map D.int)) := x3.get hc (by simpa using hne)
        repeat (first | with_reducible (first | refine zs_seq ?_ | refine zs_asg ?_ | refine zs_drop ?_ | refine zs_ret ?_ | refine zs_retN ?_ | refine zs_next ?_ | refine zs_brk ?_ | refine zs_cnt ?_ | refine zs_if ?_ | refine zs_for ?_ | refine zs_while ?_ | refine z_true ?_ | refine z_false ?_ | refine r_k ?_ | refine r_op ?_ | refine r_un ?_ | refine r_nil ?_ | refine r_cons ?_ | refine r_tup ?_ | refine r_ptp ?_ | refine r_lst ?_ | refine r_ife ?_ | refine r_if1 ?_ | refine r_if0 ?_ | refine r_and ?_ | refine r_or ?_ | refine r_not ?_ | refine r_bool ?_ | refine r_asB ?_ | refine r_tru ?_ | refine r_truB ?_ | refine r_truI ?_ | refine r_andV ?_ | refine r_orV ?_ | refine r_andV1 ?_ | refine r_andV0 ?_ | refine r_orV1 ?_ | refine r_orV0 ?_ | refine r_notV ?_ | refine r_call ?_ | refine r_meth ?_ | refine r_addI ?_ | refine r_subI ?_ | refine r_negI ?_ | refine r_andI ?_ | refine r_ltI ?_ | refine r_gtI ?_ | refine r_leI ?_ | refine r_geI ?_ | refine r_eqI ?_ | refine r_eqS ?_ | refine r_neI ?_ | refine r_neS ?_ | refine r_is0 ?_ | refine r_is1 ?_ | refine r_is2 ?_ | refine r_is3 ?_ | refine r_isn0 ?_ | refine r_isn1 ?_ | refine r_isn2 ?_ | refine r_isn3 ?_ | refine r_lenT ?_ | refine r_intI ?_ | refine r_absI ?_ | refine r_sl ?_ | refine r_no ?_ | refine r_part ?_ | refine r_asP ?_ | refine r_slT ?_ | refine r_slR ?_ | refine r_iter ?_ | refine r_asT ?_ | refine r_asPt ?_ | refine r_asRo ?_ | refine r_rng1 ?_ | refine r_gNm ?_ | refine r_gIx ?_ | refine r_comp ?_ | refine r_chain ?_ | refine r_chn1 ?_ | refine r_chn0 ?_ | refine r_isi ?_ | refine r_newL ?_ | refine r_ok ?_) | ((with_reducible (first | refine e_var ?_ | refine e_ixT ?_ | refine e_gTp ?_)); refine ⟨_, rfl, ?_⟩) | ((with_reducible (first | refine r_mkT ?_ ?_ | refine r_mkP ?_ ?_ | refine r_mkL ?_ ?_)); exact Nat.le_of_ble_eq_true rfl) | ((with_reducible (first | refine e_mth ?_ | refine e_lenO ?_ | refine e_asO ?_ | refine e_truO ?_ | refine e_tupleO ?_ | refine e_tupleP ?_ | refine e_slO ?_ | refine e_reverse ?_ | refine e_listO ?_)); refine ⟨_, (by assumption), ?_⟩) | ((with_reducible (first | refine e_ixO ?_ | refine e_set ?_)); refine ⟨_, (by assumption), _, rfl, ?_⟩) | ((with_reducible (first | refine r_mulI ?_ ?_)); first | exact mul_ok (Or.inr (by decide)) | exact mul_ok (Or.inl (by decide))) | ((with_reducible (first | refine r_modI ?_ ?_ | refine r_fdvI ?_ ?_ | refine r_powI ?_ ?_)); decide) | dsimp only [endP])
        refine r_modI (by omega) ?_
        repeat (first | with_reducible (first | refine zs_seq ?_ | refine zs_asg ?_ | refine zs_drop ?_ | refine zs_ret ?_ | refine zs_retN ?_ | refine zs_next ?_ | refine zs_brk ?_ | refine zs_cnt ?_ | refine zs_if ?_ | refine zs_for ?_ | refine zs_while ?_ | refine z_true ?_ | refine z_false ?_ | refine r_k ?_ | refine r_op ?_ | refine r_un ?_ | refine r_nil ?_ | refine r_cons ?_ | refine r_tup ?_ | refine r_ptp ?_ | refine r_lst ?_ | refine r_ife ?_ | refine r_if1 ?_ | refine r_if0 ?_ | refine r_and ?_ | refine r_or ?_ | refine r_not ?_ | refine r_bool ?_ | refine r_asB ?_ | refine r_tru ?_ | refine r_truB ?_ | refine r_truI ?_ | refine r_andV ?_ | refine r_orV ?_ | refine r_andV1 ?_ | refine r_andV0 ?_ | refine r_orV1 ?_ | refine r_orV0 ?_ | refine r_notV ?_ | refine r_call ?_ | refine r_meth ?_ | refine r_addI ?_ | refine r_subI ?_ | refine r_negI ?_ | refine r_andI ?_ | refine r_ltI ?_ | refine r_gtI ?_ | refine r_leI ?_ | refine r_geI ?_ | refine r_eqI ?_ | refine r_eqS ?_ | refine r_neI ?_ | refine r_neS ?_ | refine r_is0 ?_ | refine r_is1 ?_ | refine r_is2 ?_ | refine r_is3 ?_ | refine r_isn0 ?_ | refine r_isn1 ?_ | refine r_isn2 ?_ | refine r_isn3 ?_ | refine r_lenT ?_ | refine r_intI ?_ | refine r_absI ?_ | refine r_sl ?_ | refine r_no ?_ | refine r_part ?_ | refine r_asP ?_ | refine r_slT ?_ | refine r_slR ?_ | refine r_iter ?_ | refine r_asT ?_ | refine r_asPt ?_ | refine r_asRo ?_ | refine r_rng1 ?_ | refine r_gNm ?_ | refine r_gIx ?_ | refine r_comp ?_ | refine r_chain ?_ | refine r_chn1 ?_ | refine r_chn0 ?_ | refine r_isi ?_ | refine r_newL ?_ | refine r_ok ?_) | ((with_reducible (first | refine e_var ?_ | refine e_ixT ?_ | refine e_gTp ?_)); refine ⟨_, rfl, ?_⟩) | ((with_reducible (first | refine r_mkT ?_ ?_ | refine r_mkP ?_ ?_ | refine r_mkL ?_ ?_)); exact Nat.le_of_ble_eq_true rfl) | ((with_reducible (first | refine e_mth ?_ | refine e_lenO ?_ | refine e_asO ?_ | refine e_truO ?_ | refine e_tupleO ?_ | refine e_tupleP ?_ | refine e_slO ?_ | refine e_reverse ?_ | refine e_listO ?_)); refine ⟨_, (by assumption), ?_⟩) | ((with_reducible (first | refine e_ixO ?_ | refine e_set ?_)); refine ⟨_, (by assumption), _, rfl, ?_⟩) | ((with_reducible (first | refine r_mulI ?_ ?_)); first | exact mul_ok (Or.inr (by decide)) | exact mul_ok (Or.inl (by decide))) | ((with_reducible (first | refine r_modI ?_ ?_ | refine r_fdvI ?_ ?_ | refine r_powI ?_ ?_)); decide) | dsimp only [endP])
        obtain ⟨q0, q1⟩ := fmod_rng (a := (k3.fdiv 3 * 39373 + (n + 1) * 40692 + 1013).fmod 2147483399) (b := size) h0
        exact ⟨_, rfl, q0, q1, ⟨_, _, _, _, ns, p3, c3, hne⟩, x3⟩
      · repeat (first | with_reducible (first | refine zs_seq ?_ | refine zs_asg ?_ | refine zs_drop ?_ | refine zs_ret ?_ | refine zs_retN ?_ | refine zs_next ?_ | refine zs_brk ?_ | refine zs_cnt ?_ | refine zs_if ?_ | refine zs_for ?_ | refine zs_while ?_ | refine z_true ?_ | refine z_false ?_ | refine r_k ?_ | refine r_op ?_ | refine r_un ?_ | refine r_nil ?_ | refine r_cons ?_ | refine r_tup ?_ | refine r_ptp ?_ | refine r_lst ?_ | refine r_ife ?_ | refine r_if1 ?_ | refine r_if0 ?_ | refine r_and ?_ | refine r_or ?_ | refine r_not ?_ | refine r_bool ?_ | refine r_asB ?_ | refine r_tru ?_ | refine r_truB ?_ | refine r_truI ?_ | refine r_andV ?_ | refine r_orV ?_ | refine r_andV1 ?_ | refine r_andV0 ?_ | refine r_orV1 ?_ | refine r_orV0 ?_ | refine r_notV ?_ | refine r_call ?_ | refine r_meth ?_ | refine r_addI ?_ | refine r_subI ?_ | refine r_negI ?_ | refine r_andI ?_ | refine r_ltI ?_ | refine r_gtI ?_ | refine r_leI ?_ | refine r_geI ?_ | refine r_eqI ?_ | refine r_eqS ?_ | refine r_neI ?_ | refine r_neS ?_ | refine r_is0 ?_ | refine r_is1 ?_ | refine r_is2 ?_ | refine r_is3 ?_ | refine r_isn0 ?_ | refine r_isn1 ?_ | refine r_isn2 ?_ | refine r_isn3 ?_ | refine r_lenT ?_ | refine r_intI ?_ | refine r_absI ?_ | refine r_sl ?_ | refine r_no ?_ | refine r_part ?_ | refine r_asP ?_ | refine r_slT ?_ | refine r_slR ?_ | refine r_iter ?_ | refine r_asT ?_ | refine r_asPt ?_ | refine r_asRo ?_ | refine r_rng1 ?_ | refine r_gNm ?_ | refine r_gIx ?_ | refine r_comp ?_ | refine r_chain ?_ | refine r_chn1 ?_ | refine r_chn0 ?_ | refine r_isi ?_ | refine r_newL ?_ | refine r_ok ?_) | ((with_reducible (first | refine e_var ?_ | refine e_ixT ?_ | refine e_gTp ?_)); refine ⟨_, rfl, ?_⟩) | ((with_reducible (first | refine r_mkT ?_ ?_ | refine r_mkP ?_ ?_ | refine r_mkL ?_ ?_)); exact Nat.le_of_ble_eq_true rfl) | ((with_reducible (first | refine e_mth ?_ | refine e_lenO ?_ | refine e_asO ?_ | refine e_truO ?_ | refine e_tupleO ?_ | refine e_tupleP ?_ | refine e_slO ?_ | refine e_reverse ?_ | refine e_listO ?_)); refine ⟨_, (by assumption), ?_⟩) | ((with_reducible (first | refine e_ixO ?_ | refine e_set ?_)); refine ⟨_, (by assumption), _, rfl, ?_⟩) | ((with_reducible (first | refine r_mulI ?_ ?_)); first | exact mul_ok (Or.inr (by decide)) | exact mul_ok (Or.inl (by decide))) | ((with_reducible (first | refine r_modI ?_ ?_ | refine r_fdvI ?_ ?_ | refine r_powI ?_ ?_)); decide) | dsimp only [endP])
        exact ⟨⟨_, _, rfl⟩, i1, z, k, n, x1.trans (Ext.set (by simp)), set_at p1⟩
    · exact ⟨⟨_, _, rfl⟩, i, v, k, n, Ext.refl, hp⟩
  · rintro _ s ⟨⟨a, b, rfl⟩, i', v', k', n', x2, p2⟩
    have c2 : s[c]? = some (.lst (ns.map D.int)) := x2.get hc (by simpa using hne)
    repeat (first | with_reducible (first | refine zs_seq ?_ | refine zs_asg ?_ | refine zs_drop ?_ | refine zs_ret ?_ | refine zs_retN ?_ | refine zs_next ?_ | refine zs_brk ?_ | refine zs_cnt ?_ | refine zs_if ?_ | refine zs_for ?_ | refine zs_while ?_ | refine z_true ?_ | refine z_false ?_ | refine r_k ?_ | refine r_op ?_ | refine r_un ?_ | refine r_nil ?_ | refine r_cons ?_ | refine r_tup ?_ | refine r_ptp ?_ | refine r_lst ?_ | refine r_ife ?_ | refine r_if1 ?_ | refine r_if0 ?_ | refine r_and ?_ | refine r_or ?_ | refine r_not ?_ | refine r_bool ?_ | refine r_asB ?_ | refine r_tru ?_ | refine r_truB ?_ | refine r_truI ?_ | refine r_andV ?_ | refine r_orV ?_ | refine r_andV1 ?_ | refine r_andV0 ?_ | refine r_orV1 ?_ | refine r_orV0 ?_ | refine r_notV ?_ | refine r_call ?_ | refine r_meth ?_ | refine r_addI ?_ | refine r_subI ?_ | refine r_negI ?_ | refine r_andI ?_ | refine r_ltI ?_ | refine r_gtI ?_ | refine r_leI ?_ | refine r_geI ?_ | refine r_eqI ?_ | refine r_eqS ?_ | refine r_neI ?_ | refine r_neS ?_ | refine r_is0 ?_ | refine r_is1 ?_ | refine r_is2 ?_ | refine r_is3 ?_ | refine r_isn0 ?_ | refine r_isn1 ?_ | refine r_isn2 ?_ | refine r_isn3 ?_ | refine r_lenT ?_ | refine r_intI ?_ | refine r_absI ?_ | refine r_sl ?_ | refine r_no ?_ | refine r_part ?_ | refine r_asP ?_ | refine r_slT ?_ | refine r_slR ?_ | refine r_iter ?_ | refine r_asT ?_ | refine r_asPt ?_ | refine r_asRo ?_ | refine r_rng1 ?_ | refine r_gNm ?_ | refine r_gIx ?_ | refine r_comp ?_ | refine r_chain ?_ | refine r_chn1 ?_ | refine r_chn0 ?_ | refine r_isi ?_ | refine r_newL ?_ | refine r_ok ?_) | ((with_reducible (first | refine e_var ?_ | refine e_ixT ?_ | refine e_gTp ?_)); refine ⟨_, rfl, ?_⟩) | ((with_reducible (first | refine r_mkT ?_ ?_ | refine r_mkP ?_ ?_ | refine r_mkL ?_ ?_)); exact Nat.le_of_ble_eq_true rfl) | ((with_reducible (first | refine e_mth ?_ | refine e_lenO ?_ | refine e_asO ?_ | refine e_truO ?_ | refine e_tupleO ?_ | refine e_tupleP ?_ | refine e_slO ?_ | refine e_reverse ?_ | refine e_listO ?_)); refine ⟨_, (by assumption), ?_⟩) | ((with_reducible (first | refine e_ixO ?_ | refine e_set ?_)); refine ⟨_, (by assumption), _, rfl, ?_⟩) | ((with_reducible (first | refine r_mulI ?_ ?_)); first | exact mul_ok (Or.inr (by decide)) | exact mul_ok (Or.inl (by decide))) | ((with_reducible (first | refine r_modI ?_ ?_ | refine r_fdvI ?_ ?_ | refine r_powI ?_ ?_)); decide) | dsimp only [endP])
    refine r_modI (by omega) ?_
    repeat (first | with_reducible (first | refine zs_seq ?_ | refine zs_asg ?_ | refine zs_drop ?_ | refine zs_ret ?_ | refine zs_retN ?_ | refine zs_next ?_ | refine zs_brk ?_ | refine zs_cnt ?_ | refine zs_if ?_ | refine zs_for ?_ | refine zs_while ?_ | refine z_true ?_ | refine z_false ?_ | refine r_k ?_ | refine r_op ?_ | refine r_un ?_ | refine r_nil ?_ | refine r_cons ?_ | refine r_tup ?_ | refine r_ptp ?_ | refine r_lst ?_ | refine r_ife ?_ | refine r_if1 ?_ | refine r_if0 ?_ | refine r_and ?_ | refine r_or ?_ | refine r_not ?_ | refine r_bool ?_ | refine r_asB ?_ | refine r_tru ?_ | refine r_truB ?_ | refine r_truI ?_ | refine r_andV ?_ | refine r_orV ?_ | refine r_andV1 ?_ | refine r_andV0 ?_ | refine r_orV1 ?_ | refine r_orV0 ?_ | refine r_notV ?_ | refine r_call ?_ | refine r_meth ?_ | refine r_addI ?_ | refine r_subI ?_ | refine r_negI ?_ | refine r_andI ?_ | refine r_ltI ?_ | refine r_gtI ?_ | refine r_leI ?_ | refine r_geI ?_ | refine r_eqI ?_ | refine r_eqS ?_ | refine r_neI ?_ | refine r_neS ?_ | refine r_is0 ?_ | refine r_is1 ?_ | refine r_is2 ?_ | refine r_is3 ?_ | refine r_isn0 ?_ | refine r_isn1 ?_ | refine r_isn2 ?_ | refine r_isn3 ?_ | refine r_lenT ?_ | refine r_intI ?_ | refine r_absI ?_ | refine r_sl ?_ | refine r_no ?_ | refine r_part ?_ | refine r_asP ?_ | refine r_slT ?_ | refine r_slR ?_ | refine r_iter ?_ | refine r_asT ?_ | refine r_asPt ?_ | refine r_asRo ?_ | refine r_rng1 ?_ | refine r_gNm ?_ | refine r_gIx ?_ | refine r_comp ?_ | refine r_chain ?_ | refine r_chn1 ?_ | refine r_chn0 ?_ | refine r_isi ?_ | refine r_newL ?_ | refine r_ok ?_) | ((with_reducible (first | refine e_var ?_ | refine e_ixT ?_ | refine e_gTp ?_)); refine ⟨_, rfl, ?_⟩) | ((with_reducible (first | refine r_mkT ?_ ?_ | refine r_mkP ?_ ?_ | refine r_mkL ?_ ?_)); exact Nat.le_of_ble_eq_true rfl) | ((with_reducible (first | refine e_mth ?_ | refine e_lenO ?_ | refine e_asO ?_ | refine e_truO ?_ | refine e_tupleO ?_ | refine e_tupleP ?_ | refine e_slO ?_ | refine e_reverse ?_ | refine e_listO ?_)); refine ⟨_, (by assumption), ?_⟩) | ((with_reducible (first | refine e_ixO ?_ | refine e_set ?_)); refine ⟨_, (by assumption), _, rfl, ?_⟩) | ((with_reducible (first | refine r_mulI ?_ ?_)); first | exact mul_ok (Or.inr (by decide)) | exact mul_ok (Or.inl (by decide))) | ((with_reducible (first | refine r_modI ?_ ?_ | refine r_fdvI ?_ ?_ | refine r_powI ?_ ?_)); decide) | dsimp only [endP])
    refine r_fdvI (by omega) ?_
    repeat (first | with_reducible (first | refine zs_seq ?_ | refine zs_asg ?_ | refine zs_drop ?_ | refine zs_ret ?_ | refine zs_retN ?_ | refine zs_next ?_ | refine zs_brk ?_ | refine zs_cnt ?_ | refine zs_if ?_ | refine zs_for ?_ | refine zs_while ?_ | refine z_true ?_ | refine z_false ?_ | refine r_k ?_ | refine r_op ?_ | refine r_un ?_ | refine r_nil ?_ | refine r_cons ?_ | refine r_tup ?_ | refine r_ptp ?_ | refine r_lst ?_ | refine r_ife ?_ | refine r_if1 ?_ | refine r_if0 ?_ | refine r_and ?_ | refine r_or ?_ | refine r_not ?_ | refine r_bool ?_ | refine r_asB ?_ | refine r_tru ?_ | refine r_truB ?_ | refine r_truI ?_ | refine r_andV ?_ | refine r_orV ?_ | refine r_andV1 ?_ | refine r_andV0 ?_ | refine r_orV1 ?_ | refine r_orV0 ?_ | refine r_notV ?_ | refine r_call ?_ | refine r_meth ?_ | refine r_addI ?_ | refine r_subI ?_ | refine r_negI ?_ | refine r_andI ?_ | refine r_ltI ?_ | refine r_gtI ?_ | refine r_leI ?_ | refine r_geI ?_ | refine r_eqI ?_ | refine r_eqS ?_ | refine r_neI ?_ | refine r_neS ?_ | refine r_is0 ?_ | refine r_is1 ?_ | refine r_is2 ?_ | refine r_is3 ?_ | refine r_isn0 ?_ | refine r_isn1 ?_ | refine r_isn2 ?_ | refine r_isn3 ?_ | refine r_lenT ?_ | refine r_intI ?_ | refine r_absI ?_ | refine r_sl ?_ | refine r_no ?_ | refine r_part ?_ | refine r_asP ?_ | refine r_slT ?_ | refine r_slR ?_ | refine r_iter ?_ | refine r_asT ?_ | refine r_asPt ?_ | refine r_asRo ?_ | refine r_rng1 ?_ | refine r_gNm ?_ | refine r_gIx ?_ | refine r_comp ?_ | refine r_chain ?_ | refine r_chn1 ?_ | refine r_chn0 ?_ | refine r_isi ?_ | refine r_newL ?_ | refine r_ok ?_) | ((with_reducible (first | refine e_var ?_ | refine e_ixT ?_ | refine e_gTp ?_)); refine ⟨_, rfl, ?_⟩) | ((with_reducible (first | refine r_mkT ?_ ?_ | refine r_mkP ?_ ?_ | refine r_mkL ?_ ?_)); exact Nat.le_of_ble_eq_true rfl) | ((with_reducible (first | refine e_mth ?_ | refine e_lenO ?_ | refine e_asO ?_ | refine e_truO ?_ | refine e_tupleO ?_ | refine e_tupleP ?_ | refine e_slO ?_ | refine e_reverse ?_ | refine e_listO ?_)); refine ⟨_, (by assumption), ?_⟩) | ((with_reducible (first | refine e_ixO ?_ | refine e_set ?_)); refine ⟨_, (by assumption), _, rfl, ?_⟩) | ((with_reducible (first | refine r_mulI ?_ ?_)); first | exact mul_ok (Or.inr (by decide)) | exact mul_ok (Or.inl (by decide))) | ((with_reducible (first | refine r_modI ?_ ?_ | refine r_fdvI ?_ ?_ | refine r_powI ?_ ?_)); decide) | dsimp only [endP])
    obtain ⟨q0, q1⟩ := fmod_rng (a := v') (b := size) h0
    exact ⟨_, rfl, q0, q1, ⟨_, _, _, _, ns, set_at p2, by rw [set_ne hne.symm]; exact c2, hne⟩, x2.trans (Ext.set (by simp))⟩
end Kw

namespace Kw
open Kc PySem
theorem r_mulL {l : Nat} {xs : List D} {k : Int} {st : Sto} {Q : D → Sto → Prop} {X : Ex → Sto → Prop} (e : st[l]? = some (.lst xs)) (z : -(2 ^ 63) ≤ k ∧ k < 2 ^ 63 ∧ xs.length * k.toNat ≤ sizeLine) (q : Q (.obj st.length) (st ++ [.lst (rep k xs)])) : RW (dMul (.obj l) (.int k) st) Q X := by
  unfold dMul
  simp only [e, if_pos z]
  exact ⟨q⟩
def repI (k : Int) (xs : List Int) : List Int := (List.replicate k.toNat xs).flatten
theorem rep_map {k : Int} {ns : List Int} : rep k (ns.map D.int) = (repI k ns).map D.int := by
  unfold rep repI
  rw [List.map_flatten, List.map_replicate]
theorem text_ok {p c : Nat} {st : Sto} (h : Bx p c st) : RW (F_law_text [.obj p] st) (fun d st' => ∃ ns : List Int, d = .tup (ns.map D.int) ∧ ns.length ≤ 400 ∧ Bx p c st' ∧ Ext [p] st st') noX := by
  have hp := h.lt
  refine rw_run rfl ?_
  unfold B_law_text
  simp only [List.map_cons, List.map_nil, List.cons_append, List.nil_append, List.replicate_succ, List.replicate_zero, Nat.reduceSub]
  repeat (first | with_reducible (first | refine zs_seq ?_ | refine zs_asg ?_ | refine zs_drop ?_ | refine zs_ret ?_ | refine zs_retN ?_ | refine zs_next ?_ | refine zs_brk ?_ | refine zs_cnt ?_ | refine zs_if ?_ | refine zs_for ?_ | refine zs_while ?_ | refine z_true ?_ | refine z_false ?_ | refine r_k ?_ | refine r_op ?_ | refine r_un ?_ | refine r_nil ?_ | refine r_cons ?_ | refine r_tup ?_ | refine r_ptp ?_ | refine r_lst ?_ | refine r_ife ?_ | refine r_if1 ?_ | refine r_if0 ?_ | refine r_and ?_ | refine r_or ?_ | refine r_not ?_ | refine r_bool ?_ | refine r_asB ?_ | refine r_tru ?_ | refine r_truB ?_ | refine r_truI ?_ | refine r_andV ?_ | refine r_orV ?_ | refine r_andV1 ?_ | refine r_andV0 ?_ | refine r_orV1 ?_ | refine r_orV0 ?_ | refine r_notV ?_ | refine r_call ?_ | refine r_meth ?_ | refine r_addI ?_ | refine r_subI ?_ | refine r_negI ?_ | refine r_andI ?_ | refine r_ltI ?_ | refine r_gtI ?_ | refine r_leI ?_ | refine r_geI ?_ | refine r_eqI ?_ | refine r_eqS ?_ | refine r_neI ?_ | refine r_neS ?_ | refine r_is0 ?_ | refine r_is1 ?_ | refine r_is2 ?_ | refine r_is3 ?_ | refine r_isn0 ?_ | refine r_isn1 ?_ | refine r_isn2 ?_ | refine r_isn3 ?_ | refine r_lenT ?_ | refine r_intI ?_ | refine r_absI ?_ | refine r_sl ?_ | refine r_no ?_ | refine r_part ?_ | refine r_asP ?_ | refine r_slT ?_ | refine r_slR ?_ | refine r_iter ?_ | refine r_asT ?_ | refine r_asPt ?_ | refine r_asRo ?_ | refine r_rng1 ?_ | refine r_gNm ?_ | refine r_gIx ?_ | refine r_comp ?_ | refine r_chain ?_ | refine r_chn1 ?_ | refine r_chn0 ?_ | refine r_isi ?_ | refine r_newL ?_ | refine r_ok ?_) | ((with_reducible (first | refine e_var ?_ | refine e_ixT ?_ | refine e_gTp ?_)); refine ⟨_, rfl, ?_⟩) | ((with_reducible (first | refine r_mkT ?_ ?_ | refine r_mkP ?_ ?_ | refine r_mkL ?_ ?_)); exact Nat.le_of_ble_eq_true rfl) | ((with_reducible (first | refine e_mth ?_ | refine e_lenO ?_ | refine e_asO ?_ | refine e_truO ?_ | refine e_tupleO ?_ | refine e_tupleP ?_ | refine e_slO ?_ | refine e_reverse ?_ | refine e_listO ?_)); refine ⟨_, (by assumption), ?_⟩) | ((with_reducible (first | refine e_ixO ?_ | refine e_set ?_)); refine ⟨_, (by assumption), _, rfl, ?_⟩) | ((with_reducible (first | refine r_mulI ?_ ?_)); first | exact mul_ok (Or.inr (by decide)) | exact mul_ok (Or.inl (by decide))) | ((with_reducible (first | refine r_modI ?_ ?_ | refine r_fdvI ?_ ?_ | refine r_powI ?_ ?_)); decide) | dsimp only [endP])
  refine (draw_ok (h.ext Ext.push) (by decide) (by decide)).to ?_
  rintro _ s1 ⟨r, rfl, q0, q1, P1, x1⟩
  repeat (first | with_reducible (first | refine zs_seq ?_ | refine zs_asg ?_ | refine zs_drop ?_ | refine zs_ret ?_ | refine zs_retN ?_ | refine zs_next ?_ | refine zs_brk ?_ | refine zs_cnt ?_ | refine zs_if ?_ | refine zs_for ?_ | refine zs_while ?_ | refine z_true ?_ | refine z_false ?_ | refine r_k ?_ | refine r_op ?_ | refine r_un ?_ | refine r_nil ?_ | refine r_cons ?_ | refine r_tup ?_ | refine r_ptp ?_ | refine r_lst ?_ | refine r_ife ?_ | refine r_if1 ?_ | refine r_if0 ?_ | refine r_and ?_ | refine r_or ?_ | refine r_not ?_ | refine r_bool ?_ | refine r_asB ?_ | refine r_tru ?_ | refine r_truB ?_ | refine r_truI ?_ | refine r_andV ?_ | refine r_orV ?_ | refine r_andV1 ?_ | refine r_andV0 ?_ | refine r_orV1 ?_ | refine r_orV0 ?_ | refine r_notV ?_ | refine r_call ?_ | refine r_meth ?_ | refine r_addI ?_ | refine r_subI ?_ | refine r_negI ?_ | refine r_andI ?_ | refine r_ltI ?_ | refine r_gtI ?_ | refine r_leI ?_ | refine r_geI ?_ | refine r_eqI ?_ | refine r_eqS ?_ | refine r_neI ?_ | refine r_neS ?_ | refine r_is0 ?_ | refine r_is1 ?_ | refine r_is2 ?_ | refine r_is3 ?_ | refine r_isn0 ?_ | refine r_isn1 ?_ | refine r_isn2 ?_ | refine r_isn3 ?_ | refine r_lenT ?_ | refine r_intI ?_ | refine r_absI ?_ | refine r_sl ?_ | refine r_no ?_ | refine r_part ?_ | refine r_asP ?_ | refine r_slT ?_ | refine r_slR ?_ | refine r_iter ?_ | refine r_asT ?_ | refine r_asPt ?_ | refine r_asRo ?_ | refine r_rng1 ?_ | refine r_gNm ?_ | refine r_gIx ?_ | refine r_comp ?_ | refine r_chain ?_ | refine r_chn1 ?_ | refine r_chn0 ?_ | refine r_isi ?_ | refine r_newL ?_ | refine r_ok ?_) | ((with_reducible (first | refine e_var ?_ | refine e_ixT ?_ | refine e_gTp ?_)); refine ⟨_, rfl, ?_⟩) | ((with_reducible (first | refine r_mkT ?_ ?_ | refine r_mkP ?_ ?_ | refine r_mkL ?_ ?_)); exact Nat.le_of_ble_eq_true rfl) | ((with_reducible (first | refine e_mth ?_ | refine e_lenO ?_ | refine e_asO ?_ | refine e_truO ?_ | refine e_tupleO ?_ | refine e_tupleP ?_ | refine e_slO ?_ | refine e_reverse ?_ | refine e_listO ?_)); refine ⟨_, (by assumption), ?_⟩) | ((with_reducible (first | refine e_ixO ?_ | refine e_set ?_)); refine ⟨_, (by assumption), _, rfl, ?_⟩) | ((with_reducible (first | refine r_mulI ?_ ?_)); first | exact mul_ok (Or.inr (by decide)) | exact mul_ok (Or.inl (by decide))) | ((with_reducible (first | refine r_modI ?_ ?_ | refine r_fdvI ?_ ?_ | refine r_powI ?_ ?_)); decide) | dsimp only [endP])
  refine r_asR1 (by omega) ?_
  refine zw_for r.toNat (fun i e s => (∃ y : Option D, e = [some (.obj p), some (.obj st.length), y]) ∧ ∃ ns : List Int, s[st.length]? = some (.lst (ns.map D.int)) ∧ ns.length = i ∧ Bx p c s ∧ Ext [p] st s) (lt_fuel (by omega)) ?_ ?_ ?_
  · exact ⟨⟨_, rfl⟩, [], x1.get push_at (by simp; omega), rfl, P1, (Ext.push (ps := [p])).trans x1⟩
  · rintro i _ s hi ⟨⟨y, rfl⟩, ns, hs, hl, P, x⟩
    refine ⟨_, itR_in (by omega), ?_⟩
    repeat (first | with_reducible (first | refine zs_seq ?_ | refine zs_asg ?_ | refine zs_drop ?_ | refine zs_ret ?_ | refine zs_retN ?_ | refine zs_next ?_ | refine zs_brk ?_ | refine zs_cnt ?_ | refine zs_if ?_ | refine zs_for ?_ | refine zs_while ?_ | refine z_true ?_ | refine z_false ?_ | refine r_k ?_ | refine r_op ?_ | refine r_un ?_ | refine r_nil ?_ | refine r_cons ?_ | refine r_tup ?_ | refine r_ptp ?_ | refine r_lst ?_ | refine r_ife ?_ | refine r_if1 ?_ | refine r_if0 ?_ | refine r_and ?_ | refine r_or ?_ | refine r_not ?_ | refine r_bool ?_ | refine r_asB ?_ | refine r_tru ?_ | refine r_truB ?_ | refine r_truI ?_ | refine r_andV ?_ | refine r_orV ?_ | refine r_andV1 ?_ | refine r_andV0 ?_ | refine r_orV1 ?_ | refine r_orV0 ?_ | refine r_notV ?_ | refine r_call ?_ | refine r_meth ?_ | refine r_addI ?_ | refine r_subI ?_ | refine r_negI ?_ | refine r_andI ?_ | refine r_ltI ?_ | refine r_gtI ?_ | refine r_leI ?_ | refine r_geI ?_ | refine r_eqI ?_ | refine r_eqS ?_ | refine r_neI ?_ | refine r_neS ?_ | refine r_is0 ?_ | refine r_is1 ?_ | refine r_is2 ?_ | refine r_is3 ?_ | refine r_isn0 ?_ | refine r_isn1 ?_ | refine r_isn2 ?_ | refine r_isn3 ?_ | refine r_lenT ?_ | refine r_intI ?_ | refine r_absI ?_ | refine r_sl ?_ | refine r_no ?_ | refine r_part ?_ | refine r_asP ?_ | refine r_slT ?_ | refine r_slR ?_ | refine r_iter ?_ | refine r_asT ?_ | refine r_asPt ?_ | refine r_asRo ?_ | refine r_rng1 ?_ | refine r_gNm ?_ | refine r_gIx ?_ | refine r_comp ?_ | refine r_chain ?_ | refine r_chn1 ?_ | refine r_chn0 ?_ | refine r_isi ?_ | refine r_newL ?_ | refine r_ok ?_) | ((with_reducible (first | refine e_var ?_ | refine e_ixT ?_ | refine e_gTp ?_)); refine ⟨_, rfl, ?_⟩) | ((with_reducible (first | refine r_mkT ?_ ?_ | refine r_mkP ?_ ?_ | refine r_mkL ?_ ?_)); exact Nat.le_of_ble_eq_true rfl) | ((with_reducible (first | refine e_mth ?_ | refine e_lenO ?_ | refine e_asO ?_ | refine e_truO ?_ | refine e_tupleO ?_ | refine e_tupleP ?_ | refine e_slO ?_ | refine e_reverse ?_ | refine e_listO ?_)); refine ⟨_, (by assumption), ?_⟩) | ((with_reducible (first | refine e_ixO ?_ | refine e_set ?_)); refine ⟨_, (by assumption), _, rfl, ?_⟩) | ((with_reducible (first | refine r_mulI ?_ ?_)); first | exact mul_ok (Or.inr (by decide)) | exact mul_ok (Or.inl (by decide))) | ((with_reducible (first | refine r_modI ?_ ?_ | refine r_fdvI ?_ ?_ | refine r_powI ?_ ?_)); decide) | dsimp only [endP])
    refine (draw_ok P (by decide) (by decide)).to ?_
    rintro _ s2 ⟨r2, rfl, _, _, P2, x2⟩
    have hs2 := x2.get hs (by simp; omega)
    repeat (first | with_reducible (first | refine zs_seq ?_ | refine zs_asg ?_ | refine zs_drop ?_ | refine zs_ret ?_ | refine zs_retN ?_ | refine zs_next ?_ | refine zs_brk ?_ | refine zs_cnt ?_ | refine zs_if ?_ | refine zs_for ?_ | refine zs_while ?_ | refine z_true ?_ | refine z_false ?_ | refine r_k ?_ | refine r_op ?_ | refine r_un ?_ | refine r_nil ?_ | refine r_cons ?_ | refine r_tup ?_ | refine r_ptp ?_ | refine r_lst ?_ | refine r_ife ?_ | refine r_if1 ?_ | refine r_if0 ?_ | refine r_and ?_ | refine r_or ?_ | refine r_not ?_ | refine r_bool ?_ | refine r_asB ?_ | refine r_tru ?_ | refine r_truB ?_ | refine r_truI ?_ | refine r_andV ?_ | refine r_orV ?_ | refine r_andV1 ?_ | refine r_andV0 ?_ | refine r_orV1 ?_ | refine r_orV0 ?_ | refine r_notV ?_ | refine r_call ?_ | refine r_meth ?_ | refine r_addI ?_ | refine r_subI ?_ | refine r_negI ?_ | refine r_andI ?_ | refine r_ltI ?_ | refine r_gtI ?_ | refine r_leI ?_ | refine r_geI ?_ | refine r_eqI ?_ | refine r_eqS ?_ | refine r_neI ?_ | refine r_neS ?_ | refine r_is0 ?_ | refine r_is1 ?_ | refine r_is2 ?_ | refine r_is3 ?_ | refine r_isn0 ?_ | refine r_isn1 ?_ | refine r_isn2 ?_ | refine r_isn3 ?_ | refine r_lenT ?_ | refine r_intI ?_ | refine r_absI ?_ | refine r_sl ?_ | refine r_no ?_ | refine r_part ?_ | refine r_asP ?_ | refine r_slT ?_ | refine r_slR ?_ | refine r_iter ?_ | refine r_asT ?_ | refine r_asPt ?_ | refine r_asRo ?_ | refine r_rng1 ?_ | refine r_gNm ?_ | refine r_gIx ?_ | refine r_comp ?_ | refine r_chain ?_ | refine r_chn1 ?_ | refine r_chn0 ?_ | refine r_isi ?_ | refine r_newL ?_ | refine r_ok ?_) | ((with_reducible (first | refine e_var ?_ | refine e_ixT ?_ | refine e_gTp ?_)); refine ⟨_, rfl, ?_⟩) | ((with_reducible (first | refine r_mkT ?_ ?_ | refine r_mkP ?_ ?_ | refine r_mkL ?_ ?_)); exact Nat.le_of_ble_eq_true rfl) | ((with_reducible (first | refine e_mth ?_ | refine e_lenO ?_ | refine e_asO ?_ | refine e_truO ?_ | refine e_tupleO ?_ | refine e_tupleP ?_ | refine e_slO ?_ | refine e_reverse ?_ | refine e_listO ?_)); refine ⟨_, (by assumption), ?_⟩) | ((with_reducible (first | refine e_ixO ?_ | refine e_set ?_)); refine ⟨_, (by assumption), _, rfl, ?_⟩) | ((with_reducible (first | refine r_mulI ?_ ?_)); first | exact mul_ok (Or.inr (by decide)) | exact mul_ok (Or.inl (by decide))) | ((with_reducible (first | refine r_modI ?_ ?_ | refine r_fdvI ?_ ?_ | refine r_powI ?_ ?_)); decide) | dsimp only [endP])
    refine r_append hs2 (lt_line (by simp; omega)) ?_
    exact ⟨⟨_, rfl⟩, ns ++ [r2], by rw [set_at hs2]; simp, by simp [hl], P2.set (by omega) (by omega), (x.trans x2).setNew (Nat.le_refl _)⟩
  · rintro _ s ⟨⟨y, rfl⟩, ns, hs, hl, P, x⟩
    refine ⟨itR_end, ?_⟩
    refine zs_seq (z_cut (fun e s => ∃ (l : Nat) (y : Option D) (ms : List Int), e = [some (.obj p), some (.obj l), y] ∧ s[l]? = some (.lst (ms.map D.int)) ∧ ms.length ≤ 400 ∧ Bx p c s ∧ Ext [p] st s) ?_ ?_)
    · repeat (first | with_reducible (first | refine zs_seq ?_ | refine zs_asg ?_ | refine zs_drop ?_ | refine zs_ret ?_ | refine zs_retN ?_ | refine zs_next ?_ | refine zs_brk ?_ | refine zs_cnt ?_ | refine zs_if ?_ | refine zs_for ?_ | refine zs_while ?_ | refine z_true ?_ | refine z_false ?_ | refine r_k ?_ | refine r_op ?_ | refine r_un ?_ | refine r_nil ?_ | refine r_cons ?_ | refine r_tup ?_ | refine r_ptp ?_ | refine r_lst ?_ | refine r_ife ?_ | refine r_if1 ?_ | refine r_if0 ?_ | refine r_and ?_ | refine r_or ?_ | refine r_not ?_ | refine r_bool ?_ | refine r_asB ?_ | refine r_tru ?_ | refine r_truB ?_ | refine r_truI ?_ | refine r_andV ?_ | refine r_orV ?_ | refine r_andV1 ?_ | refine r_andV0 ?_ | refine r_orV1 ?_ | refine r_orV0 ?_ | refine r_notV ?_ | refine r_call ?_ | refine r_meth ?_ | refine r_addI ?_ | refine r_subI ?_ | refine r_negI ?_ | refine r_andI ?_ | refine r_ltI ?_ | refine r_gtI ?_ | refine r_leI ?_ | refine r_geI ?_ | refine r_eqI ?_ | refine r_eqS ?_ | refine r_neI ?_ | refine r_neS ?_ | refine r_is0 ?_ | refine r_is1 ?_ | refine r_is2 ?_ | refine r_is3 ?_ | refine r_isn0 ?_ | refine r_isn1 ?_ | refine r_isn2 ?_ | refine r_isn3 ?_ | refine r_lenT ?_ | refine r_intI ?_ | refine r_absI ?_ | refine r_sl ?_ | refine r_no ?_ | refine r_part ?_ | refine r_asP ?_ | refine r_slT ?_ | refine r_slR ?_ | refine r_iter ?_ | refine r_asT ?_ | refine r_asPt ?_ | refine r_asRo ?_ | refine r_rng1 ?_ | refine r_gNm ?_ | refine r_gIx ?_ | refine r_comp ?_ | refine r_chain ?_ | refine r_chn1 ?_ | refine r_chn0 ?_ | refine r_isi ?_ | refine r_newL ?_ | refine r_ok ?_) | ((with_reducible (first | refine e_var ?_ | refine e_ixT ?_ | refine e_gTp ?_)); refine ⟨_, rfl, ?_⟩) | ((with_reducible (first | refine r_mkT ?_ ?_ | refine r_mkP ?_ ?_ | refine r_mkL ?_ ?_)); exact Nat.le_of_ble_eq_true rfl) | ((with_reducible (first | refine e_mth ?_ | refine e_lenO ?_ | refine e_asO ?_ | refine e_truO ?_ | refine e_tupleO ?_ | refine e_tupleP ?_ | refine e_slO ?_ | refine e_reverse ?_ | refine e_listO ?_)); refine ⟨_, (by assumption), ?_⟩) | ((with_reducible (first | refine e_ixO ?_ | refine e_set ?_)); refine ⟨_, (by assumption), _, rfl, ?_⟩) | ((with_reducible (first | refine r_mulI ?_ ?_)); first | exact mul_ok (Or.inr (by decide)) | exact mul_ok (Or.inl (by decide))) | ((with_reducible (first | refine r_modI ?_ ?_ | refine r_fdvI ?_ ?_ | refine r_powI ?_ ?_)); decide) | dsimp only [endP])
      refine (draw_ok P (by decide) (by decide)).to ?_
      rintro _ s2 ⟨r2, rfl, _, _, P2, x2⟩
      have hs2 := x2.get hs (by simp; omega)
      repeat (first | with_reducible (first | refine zs_seq ?_ | refine zs_asg ?_ | refine zs_drop ?_ | refine zs_ret ?_ | refine zs_retN ?_ | refine zs_next ?_ | refine zs_brk ?_ | refine zs_cnt ?_ | refine zs_if ?_ | refine zs_for ?_ | refine zs_while ?_ | refine z_true ?_ | refine z_false ?_ | refine r_k ?_ | refine r_op ?_ | refine r_un ?_ | refine r_nil ?_ | refine r_cons ?_ | refine r_tup ?_ | refine r_ptp ?_ | refine r_lst ?_ | refine r_ife ?_ | refine r_if1 ?_ | refine r_if0 ?_ | refine r_and ?_ | refine r_or ?_ | refine r_not ?_ | refine r_bool ?_ | refine r_asB ?_ | refine r_tru ?_ | refine r_truB ?_ | refine r_truI ?_ | refine r_andV ?_ | refine r_orV ?_ | refine r_andV1 ?_ | refine r_andV0 ?_ | refine r_orV1 ?_ | refine r_orV0 ?_ | refine r_notV ?_ | refine r_call ?_ | refine r_meth ?_ | refine r_addI ?_ | refine r_subI ?_ | refine r_negI ?_ | refine r_andI ?_ | refine r_ltI ?_ | refine r_gtI ?_ | refine r_leI ?_ | refine r_geI ?_ | refine r_eqI ?_ | refine r_eqS ?_ | refine r_neI ?_ | refine r_neS ?_ | refine r_is0 ?_ | refine r_is1 ?_ | refine r_is2 ?_ | refine r_is3 ?_ | refine r_isn0 ?_ | refine r_isn1 ?_ | refine r_isn2 ?_ | refine r_isn3 ?_ | refine r_lenT ?_ | refine r_intI ?_ | refine r_absI ?_ | refine r_sl ?_ | refine r_no ?_ | refine r_part ?_ | refine r_asP ?_ | refine r_slT ?_ | refine r_slR ?_ | refine r_iter ?_ | refine r_asT ?_ | refine r_asPt ?_ | refine r_asRo ?_ | refine r_rng1 ?_ | refine r_gNm ?_ | refine r_gIx ?_ | refine r_comp ?_ | refine r_chain ?_ | refine r_chn1 ?_ | refine r_chn0 ?_ | refine r_isi ?_ | refine r_newL ?_ | refine r_ok ?_) | ((with_reducible (first | refine e_var ?_ | refine e_ixT ?_ | refine e_gTp ?_)); refine ⟨_, rfl, ?_⟩) | ((with_reducible (first | refine r_mkT ?_ ?_ | refine r_mkP ?_ ?_ | refine r_mkL ?_ ?_)); exact Nat.le_of_ble_eq_true rfl) | ((with_reducible (first | refine e_mth ?_ | refine e_lenO ?_ | refine e_asO ?_ | refine e_truO ?_ | refine e_tupleO ?_ | refine e_tupleP ?_ | refine e_slO ?_ | refine e_reverse ?_ | refine e_listO ?_)); refine ⟨_, (by assumption), ?_⟩) | ((with_reducible (first | refine e_ixO ?_ | refine e_set ?_)); refine ⟨_, (by assumption), _, rfl, ?_⟩) | ((with_reducible (first | refine r_mulI ?_ ?_)); first | exact mul_ok (Or.inr (by decide)) | exact mul_ok (Or.inl (by decide))) | ((with_reducible (first | refine r_modI ?_ ?_ | refine r_fdvI ?_ ?_ | refine r_powI ?_ ?_)); decide) | dsimp only [endP])
      refine z_dec (fun hr => ?_) (fun hr => ?_)
      · repeat (first | with_reducible (first | refine zs_seq ?_ | refine zs_asg ?_ | refine zs_drop ?_ | refine zs_ret ?_ | refine zs_retN ?_ | refine zs_next ?_ | refine zs_brk ?_ | refine zs_cnt ?_ | refine zs_if ?_ | refine zs_for ?_ | refine zs_while ?_ | refine z_true ?_ | refine z_false ?_ | refine r_k ?_ | refine r_op ?_ | refine r_un ?_ | refine r_nil ?_ | refine r_cons ?_ | refine r_tup ?_ | refine r_ptp ?_ | refine r_lst ?_ | refine r_ife ?_ | refine r_if1 ?_ | refine r_if0 ?_ | refine r_and ?_ | refine r_or ?_ | refine r_not ?_ | refine r_bool ?_ | refine r_asB ?_ | refine r_tru ?_ | refine r_truB ?_ | refine r_truI ?_ | refine r_andV ?_ | refine r_orV ?_ | refine r_andV1 ?_ | refine r_andV0 ?_ | refine r_orV1 ?_ | refine r_orV0 ?_ | refine r_notV ?_ | refine r_call ?_ | refine r_meth ?_ | refine r_addI ?_ | refine r_subI ?_ | refine r_negI ?_ | refine r_andI ?_ | refine r_ltI ?_ | refine r_gtI ?_ | refine r_leI ?_ | refine r_geI ?_ | refine r_eqI ?_ | refine r_eqS ?_ | refine r_neI ?_ | refine r_neS ?_ | refine r_is0 ?_ | refine r_is1 ?_ | refine r_is2 ?_ | refine r_is3 ?_ | refine r_isn0 ?_ | refine r_isn1 ?_ | refine r_isn2 ?_ | refine r_isn3 ?_ | refine r_lenT ?_ | refine r_intI ?_ | refine r_absI ?_ | refine r_sl ?_ | refine r_no ?_ | refine r_part ?_ | refine r_asP ?_ | refine r_slT ?_ | refine r_slR ?_ | refine r_iter ?_ | refine r_asT ?_ | refine r_asPt ?_ | refine r_asRo ?_ | refine r_rng1 ?_ | refine r_gNm ?_ | refine r_gIx ?_ | refine r_comp ?_ | refine r_chain ?_ | refine r_chn1 ?_ | refine r_chn0 ?_ | refine r_isi ?_ | refine r_newL ?_ | refine r_ok ?_) | ((with_reducible (first | refine e_var ?_ | refine e_ixT ?_ | refine e_gTp ?_)); refine ⟨_, rfl, ?_⟩) | ((with_reducible (first | refine r_mkT ?_ ?_ | refine r_mkP ?_ ?_ | refine r_mkL ?_ ?_)); exact Nat.le_of_ble_eq_true rfl) | ((with_reducible (first | refine e_mth ?_ | refine e_lenO ?_ | refine e_asO ?_ | refine e_truO ?_ | refine e_tupleO ?_ | refine e_tupleP ?_ | refine e_slO ?_ | refine e_reverse ?_ | refine e_listO ?_)); refine ⟨_, (by assumption), ?_⟩) | ((with_reducible (first | refine e_ixO ?_ | refine e_set ?_)); refine ⟨_, (by assumption), _, rfl, ?_⟩) | ((with_reducible (first | refine r_mulI ?_ ?_)); first | exact mul_ok (Or.inr (by decide)) | exact mul_ok (Or.inl (by decide))) | ((with_reducible (first | refine r_modI ?_ ?_ | refine r_fdvI ?_ ?_ | refine r_powI ?_ ?_)); decide) | dsimp only [endP])
        refine (draw_ok P2 (by decide) (by decide)).to ?_
        rintro _ s3 ⟨r3, rfl, u0, u1, P3, x3⟩
        have hs3 := x3.get hs2 (by simp; omega)
        repeat (first | with_reducible (first | refine zs_seq ?_ | refine zs_asg ?_ | refine zs_drop ?_ | refine zs_ret ?_ | refine zs_retN ?_ | refine zs_next ?_ | refine zs_brk ?_ | refine zs_cnt ?_ | refine zs_if ?_ | refine zs_for ?_ | refine zs_while ?_ | refine z_true ?_ | refine z_false ?_ | refine r_k ?_ | refine r_op ?_ | refine r_un ?_ | refine r_nil ?_ | refine r_cons ?_ | refine r_tup ?_ | refine r_ptp ?_ | refine r_lst ?_ | refine r_ife ?_ | refine r_if1 ?_ | refine r_if0 ?_ | refine r_and ?_ | refine r_or ?_ | refine r_not ?_ | refine r_bool ?_ | refine r_asB ?_ | refine r_tru ?_ | refine r_truB ?_ | refine r_truI ?_ | refine r_andV ?_ | refine r_orV ?_ | refine r_andV1 ?_ | refine r_andV0 ?_ | refine r_orV1 ?_ | refine r_orV0 ?_ | refine r_notV ?_ | refine r_call ?_ | refine r_meth ?_ | refine r_addI ?_ | refine r_subI ?_ | refine r_negI ?_ | refine r_andI ?_ | refine r_ltI ?_ | refine r_gtI ?_ | refine r_leI ?_ | refine r_geI ?_ | refine r_eqI ?_ | refine r_eqS ?_ | refine r_neI ?_ | refine r_neS ?_ | refine r_is0 ?_ | refine r_is1 ?_ | refine r_is2 ?_ | refine r_is3 ?_ | refine r_isn0 ?_ | refine r_isn1 ?_ | refine r_isn2 ?_ | refine r_isn3 ?_ | refine r_lenT ?_ | refine r_intI ?_ | refine r_absI ?_ | refine r_sl ?_ | refine r_no ?_ | refine r_part ?_ | refine r_asP ?_ | refine r_slT ?_ | refine r_slR ?_ | refine r_iter ?_ | refine r_asT ?_ | refine r_asPt ?_ | refine r_asRo ?_ | refine r_rng1 ?_ | refine r_gNm ?_ | refine r_gIx ?_ | refine r_comp ?_ | refine r_chain ?_ | refine r_chn1 ?_ | refine r_chn0 ?_ | refine r_isi ?_ | refine r_newL ?_ | refine r_ok ?_) | ((with_reducible (first | refine e_var ?_ | refine e_ixT ?_ | refine e_gTp ?_)); refine ⟨_, rfl, ?_⟩) | ((with_reducible (first | refine r_mkT ?_ ?_ | refine r_mkP ?_ ?_ | refine r_mkL ?_ ?_)); exact Nat.le_of_ble_eq_true rfl) | ((with_reducible (first | refine e_mth ?_ | refine e_lenO ?_ | refine e_asO ?_ | refine e_truO ?_ | refine e_tupleO ?_ | refine e_tupleP ?_ | refine e_slO ?_ | refine e_reverse ?_ | refine e_listO ?_)); refine ⟨_, (by assumption), ?_⟩) | ((with_reducible (first | refine e_ixO ?_ | refine e_set ?_)); refine ⟨_, (by assumption), _, rfl, ?_⟩) | ((with_reducible (first | refine r_mulI ?_ ?_)); first | exact mul_ok (Or.inr (by decide)) | exact mul_ok (Or.inl (by decide))) | ((with_reducible (first | refine r_modI ?_ ?_ | refine r_fdvI ?_ ?_ | refine r_powI ?_ ?_)); decide) | dsimp only [endP])
        have hz : ns.length * (1 + r3).toNat ≤ 400 := by
          have h1 : ns.length ≤ 40 := by omega
          have h2 : (1 + r3).toNat ≤ 10 := by omega
          exact Nat.le_trans (Nat.mul_le_mul h1 h2) (by decide)
        refine r_mulL hs3 ⟨by omega, by omega, by rw [List.length_map]; exact le_line (by omega)⟩ ?_
        repeat (first | with_reducible (first | refine zs_seq ?_ | refine zs_asg ?_ | refine zs_drop ?_ | refine zs_ret ?_ | refine zs_retN ?_ | refine zs_next ?_ | refine zs_brk ?_ | refine zs_cnt ?_ | refine zs_if ?_ | refine zs_for ?_ | refine zs_while ?_ | refine z_true ?_ | refine z_false ?_ | refine r_k ?_ | refine r_op ?_ | refine r_un ?_ | refine r_nil ?_ | refine r_cons ?_ | refine r_tup ?_ | refine r_ptp ?_ | refine r_lst ?_ | refine r_ife ?_ | refine r_if1 ?_ | refine r_if0 ?_ | refine r_and ?_ | refine r_or ?_ | refine r_not ?_ | refine r_bool ?_ | refine r_asB ?_ | refine r_tru ?_ | refine r_truB ?_ | refine r_truI ?_ | refine r_andV ?_ | refine r_orV ?_ | refine r_andV1 ?_ | refine r_andV0 ?_ | refine r_orV1 ?_ | refine r_orV0 ?_ | refine r_notV ?_ | refine r_call ?_ | refine r_meth ?_ | refine r_addI ?_ | refine r_subI ?_ | refine r_negI ?_ | refine r_andI ?_ | refine r_ltI ?_ | refine r_gtI ?_ | refine r_leI ?_ | refine r_geI ?_ | refine r_eqI ?_ | refine r_eqS ?_ | refine r_neI ?_ | refine r_neS ?_ | refine r_is0 ?_ | refine r_is1 ?_ | refine r_is2 ?_ | refine r_is3 ?_ | refine r_isn0 ?_ | refine r_isn1 ?_ | refine r_isn2 ?_ | refine r_isn3 ?_ | refine r_lenT ?_ | refine r_intI ?_ | refine r_absI ?_ | refine r_sl ?_ | refine r_no ?_ | refine r_part ?_ | refine r_asP ?_ | refine r_slT ?_ | refine r_slR ?_ | refine r_iter ?_ | refine r_asT ?_ | refine r_asPt ?_ | refine r_asRo ?_ | refine r_rng1 ?_ | refine r_gNm ?_ | refine r_gIx ?_ | refine r_comp ?_ | refine r_chain ?_ | refine r_chn1 ?_ | refine r_chn0 ?_ | refine r_isi ?_ | refine r_newL ?_ | refine r_ok ?_) | ((with_reducible (first | refine e_var ?_ | refine e_ixT ?_ | refine e_gTp ?_)); refine ⟨_, rfl, ?_⟩) | ((with_reducible (first | refine r_mkT ?_ ?_ | refine r_mkP ?_ ?_ | refine r_mkL ?_ ?_)); exact Nat.le_of_ble_eq_true rfl) | ((with_reducible (first | refine e_mth ?_ | refine e_lenO ?_ | refine e_asO ?_ | refine e_truO ?_ | refine e_tupleO ?_ | refine e_tupleP ?_ | refine e_slO ?_ | refine e_reverse ?_ | refine e_listO ?_)); refine ⟨_, (by assumption), ?_⟩) | ((with_reducible (first | refine e_ixO ?_ | refine e_set ?_)); refine ⟨_, (by assumption), _, rfl, ?_⟩) | ((with_reducible (first | refine r_mulI ?_ ?_)); first | exact mul_ok (Or.inr (by decide)) | exact mul_ok (Or.inl (by decide))) | ((with_reducible (first | refine r_modI ?_ ?_ | refine r_fdvI ?_ ?_ | refine r_powI ?_ ?_)); decide) | dsimp only [endP])
        exact ⟨_, _, repI (1 + r3) ns, rfl, by rw [push_at, rep_map], by unfold repI; simp; rw [Nat.mul_comm]; exact hz, P3.ext Ext.push, ((x.trans x2).trans x3).trans Ext.push⟩
      · repeat (first | with_reducible (first | refine zs_seq ?_ | refine zs_asg ?_ | refine zs_drop ?_ | refine zs_ret ?_ | refine zs_retN ?_ | refine zs_next ?_ | refine zs_brk ?_ | refine zs_cnt ?_ | refine zs_if ?_ | refine zs_for ?_ | refine zs_while ?_ | refine z_true ?_ | refine z_false ?_ | refine r_k ?_ | refine r_op ?_ | refine r_un ?_ | refine r_nil ?_ | refine r_cons ?_ | refine r_tup ?_ | refine r_ptp ?_ | refine r_lst ?_ | refine r_ife ?_ | refine r_if1 ?_ | refine r_if0 ?_ | refine r_and ?_ | refine r_or ?_ | refine r_not ?_ | refine r_bool ?_ | refine r_asB ?_ | refine r_tru ?_ | refine r_truB ?_ | refine r_truI ?_ | refine r_andV ?_ | refine r_orV ?_ | refine r_andV1 ?_ | refine r_andV0 ?_ | refine r_orV1 ?_ | refine r_orV0 ?_ | refine r_notV ?_ | refine r_call ?_ | refine r_meth ?_ | refine r_addI ?_ | refine r_subI ?_ | refine r_negI ?_ | refine r_andI ?_ | refine r_ltI ?_ | refine r_gtI ?_ | refine r_leI ?_ | refine r_geI ?_ | refine r_eqI ?_ | refine r_eqS ?_ | refine r_neI ?_ | refine r_neS ?_ | refine r_is0 ?_ | refine r_is1 ?_ | refine r_is2 ?_ | refine r_is3 ?_ | refine r_isn0 ?_ | refine r_isn1 ?_ | refine r_isn2 ?_ | refine r_isn3 ?_ | refine r_lenT ?_ | refine r_intI ?_ | refine r_absI ?_ | refine r_sl ?_ | refine r_no ?_ | refine r_part ?_ | refine r_asP ?_ | refine r_slT ?_ | refine r_slR ?_ | refine r_iter ?_ | refine r_asT ?_ | refine r_asPt ?_ | refine r_asRo ?_ | refine r_rng1 ?_ | refine r_gNm ?_ | refine r_gIx ?_ | refine r_comp ?_ | refine r_chain ?_ | refine r_chn1 ?_ | refine r_chn0 ?_ | refine r_isi ?_ | refine r_newL ?_ | refine r_ok ?_) | ((with_reducible (first | refine e_var ?_ | refine e_ixT ?_ | refine e_gTp ?_)); refine ⟨_, rfl, ?_⟩) | ((with_reducible (first | refine r_mkT ?_ ?_ | refine r_mkP ?_ ?_ | refine r_mkL ?_ ?_)); exact Nat.le_of_ble_eq_true rfl) | ((with_reducible (first | refine e_mth ?_ | refine e_lenO ?_ | refine e_asO ?_ | refine e_truO ?_ | refine e_tupleO ?_ | refine e_tupleP ?_ | refine e_slO ?_ | refine e_reverse ?_ | refine e_listO ?_)); refine ⟨_, (by assumption), ?_⟩) | ((with_reducible (first | refine e_ixO ?_ | refine e_set ?_)); refine ⟨_, (by assumption), _, rfl, ?_⟩) | ((with_reducible (first | refine r_mulI ?_ ?_)); first | exact mul_ok (Or.inr (by decide)) | exact mul_ok (Or.inl (by decide))) | ((with_reducible (first | refine r_modI ?_ ?_ | refine r_fdvI ?_ ?_ | refine r_powI ?_ ?_)); decide) | dsimp only [endP])
        exact ⟨_, _, ns, rfl, hs2, by omega, P2, x.trans x2⟩
    · rintro _ s2 ⟨l, y, ms, rfl, hs2, hl2, P2, x2⟩
      repeat (first | with_reducible (first | refine zs_seq ?_ | refine zs_asg ?_ | refine zs_drop ?_ | refine zs_ret ?_ | refine zs_retN ?_ | refine zs_next ?_ | refine zs_brk ?_ | refine zs_cnt ?_ | refine zs_if ?_ | refine zs_for ?_ | refine zs_while ?_ | refine z_true ?_ | refine z_false ?_ | refine r_k ?_ | refine r_op ?_ | refine r_un ?_ | refine r_nil ?_ | refine r_cons ?_ | refine r_tup ?_ | refine r_ptp ?_ | refine r_lst ?_ | refine r_ife ?_ | refine r_if1 ?_ | refine r_if0 ?_ | refine r_and ?_ | refine r_or ?_ | refine r_not ?_ | refine r_bool ?_ | refine r_asB ?_ | refine r_tru ?_ | refine r_truB ?_ | refine r_truI ?_ | refine r_andV ?_ | refine r_orV ?_ | refine r_andV1 ?_ | refine r_andV0 ?_ | refine r_orV1 ?_ | refine r_orV0 ?_ | refine r_notV ?_ | refine r_call ?_ | refine r_meth ?_ | refine r_addI ?_ | refine r_subI ?_ | refine r_negI ?_ | refine r_andI ?_ | refine r_ltI ?_ | refine r_gtI ?_ | refine r_leI ?_ | refine r_geI ?_ | refine r_eqI ?_ | refine r_eqS ?_ | refine r_neI ?_ | refine r_neS ?_ | refine r_is0 ?_ | refine r_is1 ?_ | refine r_is2 ?_ | refine r_is3 ?_ | refine r_isn0 ?_ | refine r_isn1 ?_ | refine r_isn2 ?_ | refine r_isn3 ?_ | refine r_lenT ?_ | refine r_intI ?_ | refine r_absI ?_ | refine r_sl ?_ | refine r_no ?_ | refine r_part ?_ | refine r_asP ?_ | refine r_slT ?_ | refine r_slR ?_ | refine r_iter ?_ | refine r_asT ?_ | refine r_asPt ?_ | refine r_asRo ?_ | refine r_rng1 ?_ | refine r_gNm ?_ | refine r_gIx ?_ | refine r_comp ?_ | refine r_chain ?_ | refine r_chn1 ?_ | refine r_chn0 ?_ | refine r_isi ?_ | refine r_newL ?_ | refine r_ok ?_) | ((with_reducible (first | refine e_var ?_ | refine e_ixT ?_ | refine e_gTp ?_)); refine ⟨_, rfl, ?_⟩) | ((with_reducible (first | refine r_mkT ?_ ?_ | refine r_mkP ?_ ?_ | refine r_mkL ?_ ?_)); exact Nat.le_of_ble_eq_true rfl) | ((with_reducible (first | refine e_mth ?_ | refine e_lenO ?_ | refine e_asO ?_ | refine e_truO ?_ | refine e_tupleO ?_ | refine e_tupleP ?_ | refine e_slO ?_ | refine e_reverse ?_ | refine e_listO ?_)); refine ⟨_, (by assumption), ?_⟩) | ((with_reducible (first | refine e_ixO ?_ | refine e_set ?_)); refine ⟨_, (by assumption), _, rfl, ?_⟩) | ((with_reducible (first | refine r_mulI ?_ ?_)); first | exact mul_ok (Or.inr (by decide)) | exact mul_ok (Or.inl (by decide))) | ((with_reducible (first | refine r_modI ?_ ?_ | refine r_fdvI ?_ ?_ | refine r_powI ?_ ?_)); decide) | dsimp only [endP])
      exact ⟨ms, rfl, hl2, P2, x2⟩
inductive Sp where
  | keep | drop | swap (b : Int) | put (b : Int)
def Sp.d : Sp → D
  | .keep => .tup [.str "keep"]
  | .drop => .tup [.str "drop"]
  | .swap b => .tup [.str "swap", .int b]
  | .put b => .tup [.str "put", .int b]
/-- takes a byte -/
def Sp.tk : Sp → Bool
  | .put _ => false
  | _ => true
theorem taking_ok {p c : Nat} {b : Int} {st : Sto} (h : Bx p c st) : RW (F_law_taking [.obj p, .int b] st) (fun d st' => ∃ s : Sp, d = s.d ∧ s.tk = true ∧ Bx p c st' ∧ Ext [p] st st') noX := by
  refine rw_run rfl ?_
  unfold B_law_taking
  simp only [List.map_cons, List.map_nil, List.cons_append, List.nil_append, List.replicate_succ, List.replicate_zero, Nat.reduceSub]
  repeat (first | with_reducible (first | refine zs_seq ?_ | refine zs_asg ?_ | refine zs_drop ?_ | refine zs_ret ?_ | refine zs_retN ?_ | refine zs_next ?_ | refine zs_brk ?_ | refine zs_cnt ?_ | refine zs_if ?_ | refine zs_for ?_ | refine zs_while ?_ | refine z_true ?_ | refine z_false ?_ | refine r_k ?_ | refine r_op ?_ | refine r_un ?_ | refine r_nil ?_ | refine r_cons ?_ | refine r_tup ?_ | refine r_ptp ?_ | refine r_lst ?_ | refine r_ife ?_ | refine r_if1 ?_ | refine r_if0 ?_ | refine r_and ?_ | refine r_or ?_ | refine r_not ?_ | refine r_bool ?_ | refine r_asB ?_ | refine r_tru ?_ | refine r_truB ?_ | refine r_truI ?_ | refine r_andV ?_ | refine r_orV ?_ | refine r_andV1 ?_ | refine r_andV0 ?_ | refine r_orV1 ?_ | refine r_orV0 ?_ | refine r_notV ?_ | refine r_call ?_ | refine r_meth ?_ | refine r_addI ?_ | refine r_subI ?_ | refine r_negI ?_ | refine r_andI ?_ | refine r_ltI ?_ | refine r_gtI ?_ | refine r_leI ?_ | refine r_geI ?_ | refine r_eqI ?_ | refine r_eqS ?_ | refine r_neI ?_ | refine r_neS ?_ | refine r_is0 ?_ | refine r_is1 ?_ | refine r_is2 ?_ | refine r_is3 ?_ | refine r_isn0 ?_ | refine r_isn1 ?_ | refine r_isn2 ?_ | refine r_isn3 ?_ | refine r_lenT ?_ | refine r_intI ?_ | refine r_absI ?_ | refine r_sl ?_ | refine r_no ?_ | refine r_part ?_ | refine r_asP ?_ | refine r_slT ?_ | refine r_slR ?_ | refine r_iter ?_ | refine r_asT ?_ | refine r_asPt ?_ | refine r_asRo ?_ | refine r_rng1 ?_ | refine r_gNm ?_ | refine r_gIx ?_ | refine r_comp ?_ | refine r_chain ?_ | refine r_chn1 ?_ | refine r_chn0 ?_ | refine r_isi ?_ | refine r_newL ?_ | refine r_ok ?_) | ((with_reducible (first | refine e_var ?_ | refine e_ixT ?_ | refine e_gTp ?_)); refine ⟨_, rfl, ?_⟩) | ((with_reducible (first | refine r_mkT ?_ ?_ | refine r_mkP ?_ ?_ | refine r_mkL ?_ ?_)); exact Nat.le_of_ble_eq_true rfl) | ((with_reducible (first | refine e_mth ?_ | refine e_lenO ?_ | refine e_asO ?_ | refine e_truO ?_ | refine e_tupleO ?_ | refine e_tupleP ?_ | refine e_slO ?_ | refine e_reverse ?_ | refine e_listO ?_)); refine ⟨_, (by assumption), ?_⟩) | ((with_reducible (first | refine e_ixO ?_ | refine e_set ?_)); refine ⟨_, (by assumption), _, rfl, ?_⟩) | ((with_reducible (first | refine r_mulI ?_ ?_)); first | exact mul_ok (Or.inr (by decide)) | exact mul_ok (Or.inl (by decide))) | ((with_reducible (first | refine r_modI ?_ ?_ | refine r_fdvI ?_ ?_ | refine r_powI ?_ ?_)); decide) | dsimp only [endP])
  refine (draw_ok h (by decide) (by decide)).to ?_
  rintro _ s1 ⟨r, rfl, q0, q1, P1, x1⟩
  repeat (first | with_reducible (first | refine zs_seq ?_ | refine zs_asg ?_ | refine zs_drop ?_ | refine zs_ret ?_ | refine zs_retN ?_ | refine zs_next ?_ | refine zs_brk ?_ | refine zs_cnt ?_ | refine zs_if ?_ | refine zs_for ?_ | refine zs_while ?_ | refine z_true ?_ | refine z_false ?_ | refine r_k ?_ | refine r_op ?_ | refine r_un ?_ | refine r_nil ?_ | refine r_cons ?_ | refine r_tup ?_ | refine r_ptp ?_ | refine r_lst ?_ | refine r_ife ?_ | refine r_if1 ?_ | refine r_if0 ?_ | refine r_and ?_ | refine r_or ?_ | refine r_not ?_ | refine r_bool ?_ | refine r_asB ?_ | refine r_tru ?_ | refine r_truB ?_ | refine r_truI ?_ | refine r_andV ?_ | refine r_orV ?_ | refine r_andV1 ?_ | refine r_andV0 ?_ | refine r_orV1 ?_ | refine r_orV0 ?_ | refine r_notV ?_ | refine r_call ?_ | refine r_meth ?_ | refine r_addI ?_ | refine r_subI ?_ | refine r_negI ?_ | refine r_andI ?_ | refine r_ltI ?_ | refine r_gtI ?_ | refine r_leI ?_ | refine r_geI ?_ | refine r_eqI ?_ | refine r_eqS ?_ | refine r_neI ?_ | refine r_neS ?_ | refine r_is0 ?_ | refine r_is1 ?_ | refine r_is2 ?_ | refine r_is3 ?_ | refine r_isn0 ?_ | refine r_isn1 ?_ | refine r_isn2 ?_ | refine r_isn3 ?_ | refine r_lenT ?_ | refine r_intI ?_ | refine r_absI ?_ | refine r_sl ?_ | refine r_no ?_ | refine r_part ?_ | refine r_asP ?_ | refine r_slT ?_ | refine r_slR ?_ | refine r_iter ?_ | refine r_asT ?_ | refine r_asPt ?_ | refine r_asRo ?_ | refine r_rng1 ?_ | refine r_gNm ?_ | refine r_gIx ?_ | refine r_comp ?_ | refine r_chain ?_ | refine r_chn1 ?_ | refine r_chn0 ?_ | refine r_isi ?_ | refine r_newL ?_ | refine r_ok ?_) | ((with_reducible (first | refine e_var ?_ | refine e_ixT ?_ | refine e_gTp ?_)); refine ⟨_, rfl, ?_⟩) | ((with_reducible (first | refine r_mkT ?_ ?_ | refine r_mkP ?_ ?_ | refine r_mkL ?_ ?_)); exact Nat.le_of_ble_eq_true rfl) | ((with_reducible (first | refine e_mth ?_ | refine e_lenO ?_ | refine e_asO ?_ | refine e_truO ?_ | refine e_tupleO ?_ | refine e_tupleP ?_ | refine e_slO ?_ | refine e_reverse ?_ | refine e_listO ?_)); refine ⟨_, (by assumption), ?_⟩) | ((with_reducible (first | refine e_ixO ?_ | refine e_set ?_)); refine ⟨_, (by assumption), _, rfl, ?_⟩) | ((with_reducible (first | refine r_mulI ?_ ?_)); first | exact mul_ok (Or.inr (by decide)) | exact mul_ok (Or.inl (by decide))) | ((with_reducible (first | refine r_modI ?_ ?_ | refine r_fdvI ?_ ?_ | refine r_powI ?_ ?_)); decide) | dsimp only [endP])
  refine z_dec (fun hr => ?_) (fun hr => ?_)
  · repeat (first | with_reducible (first | refine zs_seq ?_ | refine zs_asg ?_ | refine zs_drop ?_ | refine zs_ret ?_ | refine zs_retN ?_ | refine zs_next ?_ | refine zs_brk ?_ | refine zs_cnt ?_ | refine zs_if ?_ | refine zs_for ?_ | refine zs_while ?_ | refine z_true ?_ | refine z_false ?_ | refine r_k ?_ | refine r_op ?_ | refine r_un ?_ | refine r_nil ?_ | refine r_cons ?_ | refine r_tup ?_ | refine r_ptp ?_ | refine r_lst ?_ | refine r_ife ?_ | refine r_if1 ?_ | refine r_if0 ?_ | refine r_and ?_ | refine r_or ?_ | refine r_not ?_ | refine r_bool ?_ | refine r_asB ?_ | refine r_tru ?_ | refine r_truB ?_ | refine r_truI ?_ | refine r_andV ?_ | refine r_orV ?_ | refine r_andV1 ?_ | refine r_andV0 ?_ | refine r_orV1 ?_ | refine r_orV0 ?_ | refine r_notV ?_ | refine r_call ?_ | refine r_meth ?_ | refine r_addI ?_ | refine r_subI ?_ | refine r_negI ?_ | refine r_andI ?_ | refine r_ltI ?_ | refine r_gtI ?_ | refine r_leI ?_ | refine r_geI ?_ | refine r_eqI ?_ | refine r_eqS ?_ | refine r_neI ?_ | refine r_neS ?_ | refine r_is0 ?_ | refine r_is1 ?_ | refine r_is2 ?_ | refine r_is3 ?_ | refine r_isn0 ?_ | refine r_isn1 ?_ | refine r_isn2 ?_ | refine r_isn3 ?_ | refine r_lenT ?_ | refine r_intI ?_ | refine r_absI ?_ | refine r_sl ?_ | refine r_no ?_ | refine r_part ?_ | refine r_asP ?_ | refine r_slT ?_ | refine r_slR ?_ | refine r_iter ?_ | refine r_asT ?_ | refine r_asPt ?_ | refine r_asRo ?_ | refine r_rng1 ?_ | refine r_gNm ?_ | refine r_gIx ?_ | refine r_comp ?_ | refine r_chain ?_ | refine r_chn1 ?_ | refine r_chn0 ?_ | refine r_isi ?_ | refine r_newL ?_ | refine r_ok ?_) | ((with_reducible (first | refine e_var ?_ | refine e_ixT ?_ | refine e_gTp ?_)); refine ⟨_, rfl, ?_⟩) | ((with_reducible (first | refine r_mkT ?_ ?_ | refine r_mkP ?_ ?_ | refine r_mkL ?_ ?_)); exact Nat.le_of_ble_eq_true rfl) | ((with_reducible (first | refine e_mth ?_ | refine e_lenO ?_ | refine e_asO ?_ | refine e_truO ?_ | refine e_tupleO ?_ | refine e_tupleP ?_ | refine e_slO ?_ | refine e_reverse ?_ | refine e_listO ?_)); refine ⟨_, (by assumption), ?_⟩) | ((with_reducible (first | refine e_ixO ?_ | refine e_set ?_)); refine ⟨_, (by assumption), _, rfl, ?_⟩) | ((with_reducible (first | refine r_mulI ?_ ?_)); first | exact mul_ok (Or.inr (by decide)) | exact mul_ok (Or.inl (by decide))) | ((with_reducible (first | refine r_modI ?_ ?_ | refine r_fdvI ?_ ?_ | refine r_powI ?_ ?_)); decide) | dsimp only [endP])
    exact ⟨.keep, rfl, rfl, P1, x1⟩
  · repeat (first | with_reducible (first | refine zs_seq ?_ | refine zs_asg ?_ | refine zs_drop ?_ | refine zs_ret ?_ | refine zs_retN ?_ | refine zs_next ?_ | refine zs_brk ?_ | refine zs_cnt ?_ | refine zs_if ?_ | refine zs_for ?_ | refine zs_while ?_ | refine z_true ?_ | refine z_false ?_ | refine r_k ?_ | refine r_op ?_ | refine r_un ?_ | refine r_nil ?_ | refine r_cons ?_ | refine r_tup ?_ | refine r_ptp ?_ | refine r_lst ?_ | refine r_ife ?_ | refine r_if1 ?_ | refine r_if0 ?_ | refine r_and ?_ | refine r_or ?_ | refine r_not ?_ | refine r_bool ?_ | refine r_asB ?_ | refine r_tru ?_ | refine r_truB ?_ | refine r_truI ?_ | refine r_andV ?_ | refine r_orV ?_ | refine r_andV1 ?_ | refine r_andV0 ?_ | refine r_orV1 ?_ | refine r_orV0 ?_ | refine r_notV ?_ | refine r_call ?_ | refine r_meth ?_ | refine r_addI ?_ | refine r_subI ?_ | refine r_negI ?_ | refine r_andI ?_ | refine r_ltI ?_ | refine r_gtI ?_ | refine r_leI ?_ | refine r_geI ?_ | refine r_eqI ?_ | refine r_eqS ?_ | refine r_neI ?_ | refine r_neS ?_ | refine r_is0 ?_ | refine r_is1 ?_ | refine r_is2 ?_ | refine r_is3 ?_ | refine r_isn0 ?_ | refine r_isn1 ?_ | refine r_isn2 ?_ | refine r_isn3 ?_ | refine r_lenT ?_ | refine r_intI ?_ | refine r_absI ?_ | refine r_sl ?_ | refine r_no ?_ | refine r_part ?_ | refine r_asP ?_ | refine r_slT ?_ | refine r_slR ?_ | refine r_iter ?_ | refine r_asT ?_ | refine r_asPt ?_ | refine r_asRo ?_ | refine r_rng1 ?_ | refine r_gNm ?_ | refine r_gIx ?_ | refine r_comp ?_ | refine r_chain ?_ | refine r_chn1 ?_ | refine r_chn0 ?_ | refine r_isi ?_ | refine r_newL ?_ | refine r_ok ?_) | ((with_reducible (first | refine e_var ?_ | refine e_ixT ?_ | refine e_gTp ?_)); refine ⟨_, rfl, ?_⟩) | ((with_reducible (first | refine r_mkT ?_ ?_ | refine r_mkP ?_ ?_ | refine r_mkL ?_ ?_)); exact Nat.le_of_ble_eq_true rfl) | ((with_reducible (first | refine e_mth ?_ | refine e_lenO ?_ | refine e_asO ?_ | refine e_truO ?_ | refine e_tupleO ?_ | refine e_tupleP ?_ | refine e_slO ?_ | refine e_reverse ?_ | refine e_listO ?_)); refine ⟨_, (by assumption), ?_⟩) | ((with_reducible (first | refine e_ixO ?_ | refine e_set ?_)); refine ⟨_, (by assumption), _, rfl, ?_⟩) | ((with_reducible (first | refine r_mulI ?_ ?_)); first | exact mul_ok (Or.inr (by decide)) | exact mul_ok (Or.inl (by decide))) | ((with_reducible (first | refine r_modI ?_ ?_ | refine r_fdvI ?_ ?_ | refine r_powI ?_ ?_)); decide) | dsimp only [endP])
    refine z_dec (fun hr => ?_) (fun hr => ?_)
    · repeat (first | with_reducible (first | refine zs_seq ?_ | refine zs_asg ?_ | refine zs_drop ?_ | refine zs_ret ?_ | refine zs_retN ?_ | refine zs_next ?_ | refine zs_brk ?_ | refine zs_cnt ?_ | refine zs_if ?_ | refine zs_for ?_ | refine zs_while ?_ | refine z_true ?_ | refine z_false ?_ | refine r_k ?_ | refine r_op ?_ | refine r_un ?_ | refine r_nil ?_ | refine r_cons ?_ | refine r_tup ?_ | refine r_ptp ?_ | refine r_lst ?_ | refine r_ife ?_ | refine r_if1 ?_ | refine r_if0 ?_ | refine r_and ?_ | refine r_or ?_ | refine r_not ?_ | refine r_bool ?_ | refine r_asB ?_ | refine r_tru ?_ | refine r_truB ?_ | refine r_truI ?_ | refine r_andV ?_ | refine r_orV ?_ | refine r_andV1 ?_ | refine r_andV0 ?_ | refine r_orV1 ?_ | refine r_orV0 ?_ | refine r_notV ?_ | refine r_call ?_ | refine r_meth ?_ | refine r_addI ?_ | refine r_subI ?_ | refine r_negI ?_ | refine r_andI ?_ | refine r_ltI ?_ | refine r_gtI ?_ | refine r_leI ?_ | refine r_geI ?_ | refine r_eqI ?_ | refine r_eqS ?_ | refine r_neI ?_ | refine r_neS ?_ | refine r_is0 ?_ | refine r_is1 ?_ | refine r_is2 ?_ | refine r_is3 ?_ | refine r_isn0 ?_ | refine r_isn1 ?_ | refine r_isn2 ?_ | refine r_isn3 ?_ | refine r_lenT ?_ | refine r_intI ?_ | refine r_absI ?_ | refine r_sl ?_ | refine r_no ?_ | refine r_part ?_ | refine r_asP ?_ | refine r_slT ?_ | refine r_slR ?_ | refine r_iter ?_ | refine r_asT ?_ | refine r_asPt ?_ | refine r_asRo ?_ | refine r_rng1 ?_ | refine r_gNm ?_ | refine r_gIx ?_ | refine r_comp ?_ | refine r_chain ?_ | refine r_chn1 ?_ | refine r_chn0 ?_ | refine r_isi ?_ | refine r_newL ?_ | refine r_ok ?_) | ((with_reducible (first | refine e_var ?_ | refine e_ixT ?_ | refine e_gTp ?_)); refine ⟨_, rfl, ?_⟩) | ((with_reducible (first | refine r_mkT ?_ ?_ | refine r_mkP ?_ ?_ | refine r_mkL ?_ ?_)); exact Nat.le_of_ble_eq_true rfl) | ((with_reducible (first | refine e_mth ?_ | refine e_lenO ?_ | refine e_asO ?_ | refine e_truO ?_ | refine e_tupleO ?_ | refine e_tupleP ?_ | refine e_slO ?_ | refine e_reverse ?_ | refine e_listO ?_)); refine ⟨_, (by assumption), ?_⟩) | ((with_reducible (first | refine e_ixO ?_ | refine e_set ?_)); refine ⟨_, (by assumption), _, rfl, ?_⟩) | ((with_reducible (first | refine r_mulI ?_ ?_)); first | exact mul_ok (Or.inr (by decide)) | exact mul_ok (Or.inl (by decide))) | ((with_reducible (first | refine r_modI ?_ ?_ | refine r_fdvI ?_ ?_ | refine r_powI ?_ ?_)); decide) | dsimp only [endP])
      exact ⟨.drop, rfl, rfl, P1, x1⟩
    · repeat (first | with_reducible (first | refine zs_seq ?_ | refine zs_asg ?_ | refine zs_drop ?_ | refine zs_ret ?_ | refine zs_retN ?_ | refine zs_next ?_ | refine zs_brk ?_ | refine zs_cnt ?_ | refine zs_if ?_ | refine zs_for ?_ | refine zs_while ?_ | refine z_true ?_ | refine z_false ?_ | refine r_k ?_ | refine r_op ?_ | refine r_un ?_ | refine r_nil ?_ | refine r_cons ?_ | refine r_tup ?_ | refine r_ptp ?_ | refine r_lst ?_ | refine r_ife ?_ | refine r_if1 ?_ | refine r_if0 ?_ | refine r_and ?_ | refine r_or ?_ | refine r_not ?_ | refine r_bool ?_ | refine r_asB ?_ | refine r_tru ?_ | refine r_truB ?_ | refine r_truI ?_ | refine r_andV ?_ | refine r_orV ?_ | refine r_andV1 ?_ | refine r_andV0 ?_ | refine r_orV1 ?_ | refine r_orV0 ?_ | refine r_notV ?_ | refine r_call ?_ | refine r_meth ?_ | refine r_addI ?_ | refine r_subI ?_ | refine r_negI ?_ | refine r_andI ?_ | refine r_ltI ?_ | refine r_gtI ?_ | refine r_leI ?_ | refine r_geI ?_ | refine r_eqI ?_ | refine r_eqS ?_ | refine r_neI ?_ | refine r_neS ?_ | refine r_is0 ?_ | refine r_is1 ?_ | refine r_is2 ?_ | refine r_is3 ?_ | refine r_isn0 ?_ | refine r_isn1 ?_ | refine r_isn2 ?_ | refine r_isn3 ?_ | refine r_lenT ?_ | refine r_intI ?_ | refine r_absI ?_ | refine r_sl ?_ | refine r_no ?_ | refine r_part ?_ | refine r_asP ?_ | refine r_slT ?_ | refine r_slR ?_ | refine r_iter ?_ | refine r_asT ?_ | refine r_asPt ?_ | refine r_asRo ?_ | refine r_rng1 ?_ | refine r_gNm ?_ | refine r_gIx ?_ | refine r_comp ?_ | refine r_chain ?_ | refine r_chn1 ?_ | refine r_chn0 ?_ | refine r_isi ?_ | refine r_newL ?_ | refine r_ok ?_) | ((with_reducible (first | refine e_var ?_ | refine e_ixT ?_ | refine e_gTp ?_)); refine ⟨_, rfl, ?_⟩) | ((with_reducible (first | refine r_mkT ?_ ?_ | refine r_mkP ?_ ?_ | refine r_mkL ?_ ?_)); exact Nat.le_of_ble_eq_true rfl) | ((with_reducible (first | refine e_mth ?_ | refine e_lenO ?_ | refine e_asO ?_ | refine e_truO ?_ | refine e_tupleO ?_ | refine e_tupleP ?_ | refine e_slO ?_ | refine e_reverse ?_ | refine e_listO ?_)); refine ⟨_, (by assumption), ?_⟩) | ((with_reducible (first | refine e_ixO ?_ | refine e_set ?_)); refine ⟨_, (by assumption), _, rfl, ?_⟩) | ((with_reducible (first | refine r_mulI ?_ ?_)); first | exact mul_ok (Or.inr (by decide)) | exact mul_ok (Or.inl (by decide))) | ((with_reducible (first | refine r_modI ?_ ?_ | refine r_fdvI ?_ ?_ | refine r_powI ?_ ?_)); decide) | dsimp only [endP])
      refine (draw_ok P1 (by decide) (by decide)).to ?_
      rintro _ s2 ⟨r2, rfl, _, _, P2, x2⟩
      repeat (first | with_reducible (first | refine zs_seq ?_ | refine zs_asg ?_ | refine zs_drop ?_ | refine zs_ret ?_ | refine zs_retN ?_ | refine zs_next ?_ | refine zs_brk ?_ | refine zs_cnt ?_ | refine zs_if ?_ | refine zs_for ?_ | refine zs_while ?_ | refine z_true ?_ | refine z_false ?_ | refine r_k ?_ | refine r_op ?_ | refine r_un ?_ | refine r_nil ?_ | refine r_cons ?_ | refine r_tup ?_ | refine r_ptp ?_ | refine r_lst ?_ | refine r_ife ?_ | refine r_if1 ?_ | refine r_if0 ?_ | refine r_and ?_ | refine r_or ?_ | refine r_not ?_ | refine r_bool ?_ | refine r_asB ?_ | refine r_tru ?_ | refine r_truB ?_ | refine r_truI ?_ | refine r_andV ?_ | refine r_orV ?_ | refine r_andV1 ?_ | refine r_andV0 ?_ | refine r_orV1 ?_ | refine r_orV0 ?_ | refine r_notV ?_ | refine r_call ?_ | refine r_meth ?_ | refine r_addI ?_ | refine r_subI ?_ | refine r_negI ?_ | refine r_andI ?_ | refine r_ltI ?_ | refine r_gtI ?_ | refine r_leI ?_ | refine r_geI ?_ | refine r_eqI ?_ | refine r_eqS ?_ | refine r_neI ?_ | refine r_neS ?_ | refine r_is0 ?_ | refine r_is1 ?_ | refine r_is2 ?_ | refine r_is3 ?_ | refine r_isn0 ?_ | refine r_isn1 ?_ | refine r_isn2 ?_ | refine r_isn3 ?_ | refine r_lenT ?_ | refine r_intI ?_ | refine r_absI ?_ | refine r_sl ?_ | refine r_no ?_ | refine r_part ?_ | refine r_asP ?_ | refine r_slT ?_ | refine r_slR ?_ | refine r_iter ?_ | refine r_asT ?_ | refine r_asPt ?_ | refine r_asRo ?_ | refine r_rng1 ?_ | refine r_gNm ?_ | refine r_gIx ?_ | refine r_comp ?_ | refine r_chain ?_ | refine r_chn1 ?_ | refine r_chn0 ?_ | refine r_isi ?_ | refine r_newL ?_ | refine r_ok ?_) | ((with_reducible (first | refine e_var ?_ | refine e_ixT ?_ | refine e_gTp ?_)); refine ⟨_, rfl, ?_⟩) | ((with_reducible (first | refine r_mkT ?_ ?_ | refine r_mkP ?_ ?_ | refine r_mkL ?_ ?_)); exact Nat.le_of_ble_eq_true rfl) | ((with_reducible (first | refine e_mth ?_ | refine e_lenO ?_ | refine e_asO ?_ | refine e_truO ?_ | refine e_tupleO ?_ | refine e_tupleP ?_ | refine e_slO ?_ | refine e_reverse ?_ | refine e_listO ?_)); refine ⟨_, (by assumption), ?_⟩) | ((with_reducible (first | refine e_ixO ?_ | refine e_set ?_)); refine ⟨_, (by assumption), _, rfl, ?_⟩) | ((with_reducible (first | refine r_mulI ?_ ?_)); first | exact mul_ok (Or.inr (by decide)) | exact mul_ok (Or.inl (by decide))) | ((with_reducible (first | refine r_modI ?_ ?_ | refine r_fdvI ?_ ?_ | refine r_powI ?_ ?_)); decide) | dsimp only [endP])
      refine z_dec (fun hr => ?_) (fun hr => ?_)
      · repeat (first | with_reducible (first | refine zs_seq ?_ | refine zs_asg ?_ | refine zs_drop ?_ | refine zs_ret ?_ | refine zs_retN ?_ | refine zs_next ?_ | refine zs_brk ?_ | refine zs_cnt ?_ | refine zs_if ?_ | refine zs_for ?_ | refine zs_while ?_ | refine z_true ?_ | refine z_false ?_ | refine r_k ?_ | refine r_op ?_ | refine r_un ?_ | refine r_nil ?_ | refine r_cons ?_ | refine r_tup ?_ | refine r_ptp ?_ | refine r_lst ?_ | refine r_ife ?_ | refine r_if1 ?_ | refine r_if0 ?_ | refine r_and ?_ | refine r_or ?_ | refine r_not ?_ | refine r_bool ?_ | refine r_asB ?_ | refine r_tru ?_ | refine r_truB ?_ | refine r_truI ?_ | refine r_andV ?_ | refine r_orV ?_ | refine r_andV1 ?_ | refine r_andV0 ?_ | refine r_orV1 ?_ | refine r_orV0 ?_ | refine r_notV ?_ | refine r_call ?_ | refine r_meth ?_ | refine r_addI ?_ | refine r_subI ?_ | refine r_negI ?_ | refine r_andI ?_ | refine r_ltI ?_ | refine r_gtI ?_ | refine r_leI ?_ | refine r_geI ?_ | refine r_eqI ?_ | refine r_eqS ?_ | refine r_neI ?_ | refine r_neS ?_ | refine r_is0 ?_ | refine r_is1 ?_ | refine r_is2 ?_ | refine r_is3 ?_ | refine r_isn0 ?_ | refine r_isn1 ?_ | refine r_isn2 ?_ | refine r_isn3 ?_ | refine r_lenT ?_ | refine r_intI ?_ | refine r_absI ?_ | refine r_sl ?_ | refine r_no ?_ | refine r_part ?_ | refine r_asP ?_ | refine r_slT ?_ | refine r_slR ?_ | refine r_iter ?_ | refine r_asT ?_ | refine r_asPt ?_ | refine r_asRo ?_ | refine r_rng1 ?_ | refine r_gNm ?_ | refine r_gIx ?_ | refine r_comp ?_ | refine r_chain ?_ | refine r_chn1 ?_ | refine r_chn0 ?_ | refine r_isi ?_ | refine r_newL ?_ | refine r_ok ?_) | ((with_reducible (first | refine e_var ?_ | refine e_ixT ?_ | refine e_gTp ?_)); refine ⟨_, rfl, ?_⟩) | ((with_reducible (first | refine r_mkT ?_ ?_ | refine r_mkP ?_ ?_ | refine r_mkL ?_ ?_)); exact Nat.le_of_ble_eq_true rfl) | ((with_reducible (first | refine e_mth ?_ | refine e_lenO ?_ | refine e_asO ?_ | refine e_truO ?_ | refine e_tupleO ?_ | refine e_tupleP ?_ | refine e_slO ?_ | refine e_reverse ?_ | refine e_listO ?_)); refine ⟨_, (by assumption), ?_⟩) | ((with_reducible (first | refine e_ixO ?_ | refine e_set ?_)); refine ⟨_, (by assumption), _, rfl, ?_⟩) | ((with_reducible (first | refine r_mulI ?_ ?_)); first | exact mul_ok (Or.inr (by decide)) | exact mul_ok (Or.inl (by decide))) | ((with_reducible (first | refine r_modI ?_ ?_ | refine r_fdvI ?_ ?_ | refine r_powI ?_ ?_)); decide) | dsimp only [endP])
        exact ⟨.swap b, rfl, rfl, P2, x1.trans x2⟩
      · repeat (first | with_reducible (first | refine zs_seq ?_ | refine zs_asg ?_ | refine zs_drop ?_ | refine zs_ret ?_ | refine zs_retN ?_ | refine zs_next ?_ | refine zs_brk ?_ | refine zs_cnt ?_ | refine zs_if ?_ | refine zs_for ?_ | refine zs_while ?_ | refine z_true ?_ | refine z_false ?_ | refine r_k ?_ | refine r_op ?_ | refine r_un ?_ | refine r_nil ?_ | refine r_cons ?_ | refine r_tup ?_ | refine r_ptp ?_ | refine r_lst ?_ | refine r_ife ?_ | refine r_if1 ?_ | refine r_if0 ?_ | refine r_and ?_ | refine r_or ?_ | refine r_not ?_ | refine r_bool ?_ | refine r_asB ?_ | refine r_tru ?_ | refine r_truB ?_ | refine r_truI ?_ | refine r_andV ?_ | refine r_orV ?_ | refine r_andV1 ?_ | refine r_andV0 ?_ | refine r_orV1 ?_ | refine r_orV0 ?_ | refine r_notV ?_ | refine r_call ?_ | refine r_meth ?_ | refine r_addI ?_ | refine r_subI ?_ | refine r_negI ?_ | refine r_andI ?_ | refine r_ltI ?_ | refine r_gtI ?_ | refine r_leI ?_ | refine r_geI ?_ | refine r_eqI ?_ | refine r_eqS ?_ | refine r_neI ?_ | refine r_neS ?_ | refine r_is0 ?_ | refine r_is1 ?_ | refine r_is2 ?_ | refine r_is3 ?_ | refine r_isn0 ?_ | refine r_isn1 ?_ | refine r_isn2 ?_ | refine r_isn3 ?_ | refine r_lenT ?_ | refine r_intI ?_ | refine r_absI ?_ | refine r_sl ?_ | refine r_no ?_ | refine r_part ?_ | refine r_asP ?_ | refine r_slT ?_ | refine r_slR ?_ | refine r_iter ?_ | refine r_asT ?_ | refine r_asPt ?_ | refine r_asRo ?_ | refine r_rng1 ?_ | refine r_gNm ?_ | refine r_gIx ?_ | refine r_comp ?_ | refine r_chain ?_ | refine r_chn1 ?_ | refine r_chn0 ?_ | refine r_isi ?_ | refine r_newL ?_ | refine r_ok ?_) | ((with_reducible (first | refine e_var ?_ | refine e_ixT ?_ | refine e_gTp ?_)); refine ⟨_, rfl, ?_⟩) | ((with_reducible (first | refine r_mkT ?_ ?_ | refine r_mkP ?_ ?_ | refine r_mkL ?_ ?_)); exact Nat.le_of_ble_eq_true rfl) | ((with_reducible (first | refine e_mth ?_ | refine e_lenO ?_ | refine e_asO ?_ | refine e_truO ?_ | refine e_tupleO ?_ | refine e_tupleP ?_ | refine e_slO ?_ | refine e_reverse ?_ | refine e_listO ?_)); refine ⟨_, (by assumption), ?_⟩) | ((with_reducible (first | refine e_ixO ?_ | refine e_set ?_)); refine ⟨_, (by assumption), _, rfl, ?_⟩) | ((with_reducible (first | refine r_mulI ?_ ?_)); first | exact mul_ok (Or.inr (by decide)) | exact mul_ok (Or.inl (by decide))) | ((with_reducible (first | refine r_modI ?_ ?_ | refine r_fdvI ?_ ?_ | refine r_powI ?_ ?_)); decide) | dsimp only [endP])
        refine (draw_ok P2 (by decide) (by decide)).to ?_
        rintro _ s3 ⟨r3, rfl, _, _, P3, x3⟩
        repeat (first | with_reducible (first | refine zs_seq ?_ | refine zs_asg ?_ | refine zs_drop ?_ | refine zs_ret ?_ | refine zs_retN ?_ | refine zs_next ?_ | refine zs_brk ?_ | refine zs_cnt ?_ | refine zs_if ?_ | refine zs_for ?_ | refine zs_while ?_ | refine z_true ?_ | refine z_false ?_ | refine r_k ?_ | refine r_op ?_ | refine r_un ?_ | refine r_nil ?_ | refine r_cons ?_ | refine r_tup ?_ | refine r_ptp ?_ | refine r_lst ?_ | refine r_ife ?_ | refine r_if1 ?_ | refine r_if0 ?_ | refine r_and ?_ | refine r_or ?_ | refine r_not ?_ | refine r_bool ?_ | refine r_asB ?_ | refine r_tru ?_ | refine r_truB ?_ | refine r_truI ?_ | refine r_andV ?_ | refine r_orV ?_ | refine r_andV1 ?_ | refine r_andV0 ?_ | refine r_orV1 ?_ | refine r_orV0 ?_ | refine r_notV ?_ | refine r_call ?_ | refine r_meth ?_ | refine r_addI ?_ | refine r_subI ?_ | refine r_negI ?_ | refine r_andI ?_ | refine r_ltI ?_ | refine r_gtI ?_ | refine r_leI ?_ | refine r_geI ?_ | refine r_eqI ?_ | refine r_eqS ?_ | refine r_neI ?_ | refine r_neS ?_ | refine r_is0 ?_ | refine r_is1 ?_ | refine r_is2 ?_ | refine r_is3 ?_ | refine r_isn0 ?_ | refine r_isn1 ?_ | refine r_isn2 ?_ | refine r_isn3 ?_ | refine r_lenT ?_ | refine r_intI ?_ | refine r_absI ?_ | refine r_sl ?_ | refine r_no ?_ | refine r_part ?_ | refine r_asP ?_ | refine r_slT ?_ | refine r_slR ?_ | refine r_iter ?_ | refine r_asT ?_ | refine r_asPt ?_ | refine r_asRo ?_ | refine r_rng1 ?_ | refine r_gNm ?_ | refine r_gIx ?_ | refine r_comp ?_ | refine r_chain ?_ | refine r_chn1 ?_ | refine r_chn0 ?_ | refine r_isi ?_ | refine r_newL ?_ | refine r_ok ?_) | ((with_reducible (first | refine e_var ?_ | refine e_ixT ?_ | refine e_gTp ?_)); refine ⟨_, rfl, ?_⟩) | ((with_reducible (first | refine r_mkT ?_ ?_ | refine r_mkP ?_ ?_ | refine r_mkL ?_ ?_)); exact Nat.le_of_ble_eq_true rfl) | ((with_reducible (first | refine e_mth ?_ | refine e_lenO ?_ | refine e_asO ?_ | refine e_truO ?_ | refine e_tupleO ?_ | refine e_tupleP ?_ | refine e_slO ?_ | refine e_reverse ?_ | refine e_listO ?_)); refine ⟨_, (by assumption), ?_⟩) | ((with_reducible (first | refine e_ixO ?_ | refine e_set ?_)); refine ⟨_, (by assumption), _, rfl, ?_⟩) | ((with_reducible (first | refine r_mulI ?_ ?_)); first | exact mul_ok (Or.inr (by decide)) | exact mul_ok (Or.inl (by decide))) | ((with_reducible (first | refine r_modI ?_ ?_ | refine r_fdvI ?_ ?_ | refine r_powI ?_ ?_)); decide) | dsimp only [endP])
        exact ⟨.swap r3, rfl, rfl, P3, (x1.trans x2).trans x3⟩
end Kw

namespace Kw
open Kc PySem
theorem ex_app {ss : List Sp} {t : Sp} (h : ∃ s ∈ ss, s.tk = true) : ∃ s ∈ ss ++ [t], s.tk = true := by
  obtain ⟨s, h1, h2⟩ := h
  exact ⟨s, List.mem_append_left _ h1, h2⟩
theorem fitting_ok {p c : Nat} {st : Sto} {ns : List Int} (h : Bx p c st) (hn : ns.length ≤ 400) : RW (F_law_fitting [.obj p, .tup (ns.map D.int)] st) (fun d st' => ∃ (l : Nat) (ss : List Sp), d = .obj l ∧ st'[l]? = some (.lst (ss.map Sp.d)) ∧ ss.length ≤ 802 ∧ (ns ≠ [] → ∃ s ∈ ss, s.tk = true) ∧ st.length ≤ l ∧ Bx p c st' ∧ Ext [p] st st') noX := by
  have hp := h.lt
  refine rw_run rfl ?_
  unfold B_law_fitting
  simp only [List.map_cons, List.map_nil, List.cons_append, List.nil_append, List.replicate_succ, List.replicate_zero, Nat.reduceSub]
  repeat (first | with_reducible (first | refine zs_seq ?_ | refine zs_asg ?_ | refine zs_drop ?_ | refine zs_ret ?_ | refine zs_retN ?_ | refine zs_next ?_ | refine zs_brk ?_ | refine zs_cnt ?_ | refine zs_if ?_ | refine zs_for ?_ | refine zs_while ?_ | refine z_true ?_ | refine z_false ?_ | refine r_k ?_ | refine r_op ?_ | refine r_un ?_ | refine r_nil ?_ | refine r_cons ?_ | refine r_tup ?_ | refine r_ptp ?_ | refine r_lst ?_ | refine r_ife ?_ | refine r_if1 ?_ | refine r_if0 ?_ | refine r_and ?_ | refine r_or ?_ | refine r_not ?_ | refine r_bool ?_ | refine r_asB ?_ | refine r_tru ?_ | refine r_truB ?_ | refine r_truI ?_ | refine r_andV ?_ | refine r_orV ?_ | refine r_andV1 ?_ | refine r_andV0 ?_ | refine r_orV1 ?_ | refine r_orV0 ?_ | refine r_notV ?_ | refine r_call ?_ | refine r_meth ?_ | refine r_addI ?_ | refine r_subI ?_ | refine r_negI ?_ | refine r_andI ?_ | refine r_ltI ?_ | refine r_gtI ?_ | refine r_leI ?_ | refine r_geI ?_ | refine r_eqI ?_ | refine r_eqS ?_ | refine r_neI ?_ | refine r_neS ?_ | refine r_is0 ?_ | refine r_is1 ?_ | refine r_is2 ?_ | refine r_is3 ?_ | refine r_isn0 ?_ | refine r_isn1 ?_ | refine r_isn2 ?_ | refine r_isn3 ?_ | refine r_lenT ?_ | refine r_intI ?_ | refine r_absI ?_ | refine r_sl ?_ | refine r_no ?_ | refine r_part ?_ | refine r_asP ?_ | refine r_slT ?_ | refine r_slR ?_ | refine r_iter ?_ | refine r_asT ?_ | refine r_asPt ?_ | refine r_asRo ?_ | refine r_rng1 ?_ | refine r_gNm ?_ | refine r_gIx ?_ | refine r_comp ?_ | refine r_chain ?_ | refine r_chn1 ?_ | refine r_chn0 ?_ | refine r_isi ?_ | refine r_newL ?_ | refine r_ok ?_) | ((with_reducible (first | refine e_var ?_ | refine e_ixT ?_ | refine e_gTp ?_)); refine ⟨_, rfl, ?_⟩) | ((with_reducible (first | refine r_mkT ?_ ?_ | refine r_mkP ?_ ?_ | refine r_mkL ?_ ?_)); exact Nat.le_of_ble_eq_true rfl) | ((with_reducible (first | refine e_mth ?_ | refine e_lenO ?_ | refine e_asO ?_ | refine e_truO ?_ | refine e_tupleO ?_ | refine e_tupleP ?_ | refine e_slO ?_ | refine e_reverse ?_ | refine e_listO ?_)); refine ⟨_, (by assumption), ?_⟩) | ((with_reducible (first | refine e_ixO ?_ | refine e_set ?_)); refine ⟨_, (by assumption), _, rfl, ?_⟩) | ((with_reducible (first | refine r_mulI ?_ ?_)); first | exact mul_ok (Or.inr (by decide)) | exact mul_ok (Or.inl (by decide))) | ((with_reducible (first | refine r_modI ?_ ?_ | refine r_fdvI ?_ ?_ | refine r_powI ?_ ?_)); decide) | dsimp only [endP])
  refine zw_for ns.length (fun i e s => (∃ y z : Option D, e = [some (.obj p), some (.tup (ns.map D.int)), some (.obj st.length), y, z]) ∧ ∃ ss : List Sp, s[st.length]? = some (.lst (ss.map Sp.d)) ∧ ss.length ≤ 2 * i ∧ (0 < i → ∃ s ∈ ss, s.tk = true) ∧ Bx p c s ∧ Ext [p] st s) (lt_fuel (by omega)) ?_ ?_ ?_
  · exact ⟨⟨_, _, rfl⟩, [], push_at, by simp, by omega, h.ext Ext.push, Ext.push⟩
  · rintro i _ s hi ⟨⟨y, z, rfl⟩, ss, hs, hl, ht, P, x⟩
    refine ⟨_, itT_map hi, ?_⟩
    repeat (first | with_reducible (first | refine zq_asg ?_ | refine zq_drop ?_ | refine zs_asg ?_ | refine zs_drop ?_ | refine zs_ret ?_ | refine zs_retN ?_ | refine zs_next ?_ | refine zs_brk ?_ | refine zs_cnt ?_ | refine zs_if ?_ | refine zs_for ?_ | refine zs_while ?_ | refine z_true ?_ | refine z_false ?_ | refine r_k ?_ | refine r_op ?_ | refine r_un ?_ | refine r_nil ?_ | refine r_cons ?_ | refine r_tup ?_ | refine r_ptp ?_ | refine r_lst ?_ | refine r_ife ?_ | refine r_if1 ?_ | refine r_if0 ?_ | refine r_and ?_ | refine r_or ?_ | refine r_not ?_ | refine r_bool ?_ | refine r_asB ?_ | refine r_tru ?_ | refine r_truB ?_ | refine r_truI ?_ | refine r_andV ?_ | refine r_orV ?_ | refine r_andV1 ?_ | refine r_andV0 ?_ | refine r_orV1 ?_ | refine r_orV0 ?_ | refine r_notV ?_ | refine r_call ?_ | refine r_meth ?_ | refine r_addI ?_ | refine r_subI ?_ | refine r_negI ?_ | refine r_andI ?_ | refine r_ltI ?_ | refine r_gtI ?_ | refine r_leI ?_ | refine r_geI ?_ | refine r_eqI ?_ | refine r_eqS ?_ | refine r_neI ?_ | refine r_neS ?_ | refine r_is0 ?_ | refine r_is1 ?_ | refine r_is2 ?_ | refine r_is3 ?_ | refine r_isn0 ?_ | refine r_isn1 ?_ | refine r_isn2 ?_ | refine r_isn3 ?_ | refine r_lenT ?_ | refine r_intI ?_ | refine r_absI ?_ | refine r_sl ?_ | refine r_no ?_ | refine r_part ?_ | refine r_asP ?_ | refine r_slT ?_ | refine r_slR ?_ | refine r_iter ?_ | refine r_asT ?_ | refine r_asPt ?_ | refine r_asRo ?_ | refine r_rng1 ?_ | refine r_gNm ?_ | refine r_gIx ?_ | refine r_comp ?_ | refine r_chain ?_ | refine r_chn1 ?_ | refine r_chn0 ?_ | refine r_isi ?_ | refine r_newL ?_ | refine r_ok ?_) | ((with_reducible (first | refine e_var ?_ | refine e_ixT ?_ | refine e_gTp ?_)); refine ⟨_, rfl, ?_⟩) | ((with_reducible (first | refine r_mkT ?_ ?_ | refine r_mkP ?_ ?_ | refine r_mkL ?_ ?_)); exact Nat.le_of_ble_eq_true rfl) | ((with_reducible (first | refine e_mth ?_ | refine e_lenO ?_ | refine e_asO ?_ | refine e_truO ?_ | refine e_tupleO ?_ | refine e_tupleP ?_ | refine e_slO ?_ | refine e_reverse ?_ | refine e_listO ?_)); refine ⟨_, (by assumption), ?_⟩) | ((with_reducible (first | refine e_ixO ?_ | refine e_set ?_)); refine ⟨_, (by assumption), _, rfl, ?_⟩) | ((with_reducible (first | refine r_mulI ?_ ?_)); first | exact mul_ok (Or.inr (by decide)) | exact mul_ok (Or.inl (by decide))) | ((with_reducible (first | refine r_modI ?_ ?_ | refine r_fdvI ?_ ?_ | refine r_powI ?_ ?_)); decide) | dsimp only [endP])
    refine zs_seq (z_cut (fun e s => (∃ z : Option D, e = [some (.obj p), some (.tup (ns.map D.int)), some (.obj st.length), some (.int ns[i]), z]) ∧ ∃ ss : List Sp, s[st.length]? = some (.lst (ss.map Sp.d)) ∧ ss.length ≤ 2 * i + 1 ∧ Bx p c s ∧ Ext [p] st s) ?_ ?_)
    · repeat (first | with_reducible (first | refine zs_seq ?_ | refine zs_asg ?_ | refine zs_drop ?_ | refine zs_ret ?_ | refine zs_retN ?_ | refine zs_next ?_ | refine zs_brk ?_ | refine zs_cnt ?_ | refine zs_if ?_ | refine zs_for ?_ | refine zs_while ?_ | refine z_true ?_ | refine z_false ?_ | refine r_k ?_ | refine r_op ?_ | refine r_un ?_ | refine r_nil ?_ | refine r_cons ?_ | refine r_tup ?_ | refine r_ptp ?_ | refine r_lst ?_ | refine r_ife ?_ | refine r_if1 ?_ | refine r_if0 ?_ | refine r_and ?_ | refine r_or ?_ | refine r_not ?_ | refine r_bool ?_ | refine r_asB ?_ | refine r_tru ?_ | refine r_truB ?_ | refine r_truI ?_ | refine r_andV ?_ | refine r_orV ?_ | refine r_andV1 ?_ | refine r_andV0 ?_ | refine r_orV1 ?_ | refine r_orV0 ?_ | refine r_notV ?_ | refine r_call ?_ | refine r_meth ?_ | refine r_addI ?_ | refine r_subI ?_ | refine r_negI ?_ | refine r_andI ?_ | refine r_ltI ?_ | refine r_gtI ?_ | refine r_leI ?_ | refine r_geI ?_ | refine r_eqI ?_ | refine r_eqS ?_ | refine r_neI ?_ | refine r_neS ?_ | refine r_is0 ?_ | refine r_is1 ?_ | refine r_is2 ?_ | refine r_is3 ?_ | refine r_isn0 ?_ | refine r_isn1 ?_ | refine r_isn2 ?_ | refine r_isn3 ?_ | refine r_lenT ?_ | refine r_intI ?_ | refine r_absI ?_ | refine r_sl ?_ | refine r_no ?_ | refine r_part ?_ | refine r_asP ?_ | refine r_slT ?_ | refine r_slR ?_ | refine r_iter ?_ | refine r_asT ?_ | refine r_asPt ?_ | refine r_asRo ?_ | refine r_rng1 ?_ | refine r_gNm ?_ | refine r_gIx ?_ | refine r_comp ?_ | refine r_chain ?_ | refine r_chn1 ?_ | refine r_chn0 ?_ | refine r_isi ?_ | refine r_newL ?_ | refine r_ok ?_) | ((with_reducible (first | refine e_var ?_ | refine e_ixT ?_ | refine e_gTp ?_)); refine ⟨_, rfl, ?_⟩) | ((with_reducible (first | refine r_mkT ?_ ?_ | refine r_mkP ?_ ?_ | refine r_mkL ?_ ?_)); exact Nat.le_of_ble_eq_true rfl) | ((with_reducible (first | refine e_mth ?_ | refine e_lenO ?_ | refine e_asO ?_ | refine e_truO ?_ | refine e_tupleO ?_ | refine e_tupleP ?_ | refine e_slO ?_ | refine e_reverse ?_ | refine e_listO ?_)); refine ⟨_, (by assumption), ?_⟩) | ((with_reducible (first | refine e_ixO ?_ | refine e_set ?_)); refine ⟨_, (by assumption), _, rfl, ?_⟩) | ((with_reducible (first | refine r_mulI ?_ ?_)); first | exact mul_ok (Or.inr (by decide)) | exact mul_ok (Or.inl (by decide))) | ((with_reducible (first | refine r_modI ?_ ?_ | refine r_fdvI ?_ ?_ | refine r_powI ?_ ?_)); decide) | dsimp only [endP])
      refine (draw_ok P (by decide) (by decide)).to ?_
      rintro _ s2 ⟨r2, rfl, _, _, P2, x2⟩
      have hs2 := x2.get hs (by simp; omega)
      repeat (first | with_reducible (first | refine zs_seq ?_ | refine zs_asg ?_ | refine zs_drop ?_ | refine zs_ret ?_ | refine zs_retN ?_ | refine zs_next ?_ | refine zs_brk ?_ | refine zs_cnt ?_ | refine zs_if ?_ | refine zs_for ?_ | refine zs_while ?_ | refine z_true ?_ | refine z_false ?_ | refine r_k ?_ | refine r_op ?_ | refine r_un ?_ | refine r_nil ?_ | refine r_cons ?_ | refine r_tup ?_ | refine r_ptp ?_ | refine r_lst ?_ | refine r_ife ?_ | refine r_if1 ?_ | refine r_if0 ?_ | refine r_and ?_ | refine r_or ?_ | refine r_not ?_ | refine r_bool ?_ | refine r_asB ?_ | refine r_tru ?_ | refine r_truB ?_ | refine r_truI ?_ | refine r_andV ?_ | refine r_orV ?_ | refine r_andV1 ?_ | refine r_andV0 ?_ | refine r_orV1 ?_ | refine r_orV0 ?_ | refine r_notV ?_ | refine r_call ?_ | refine r_meth ?_ | refine r_addI ?_ | refine r_subI ?_ | refine r_negI ?_ | refine r_andI ?_ | refine r_ltI ?_ | refine r_gtI ?_ | refine r_leI ?_ | refine r_geI ?_ | refine r_eqI ?_ | refine r_eqS ?_ | refine r_neI ?_ | refine r_neS ?_ | refine r_is0 ?_ | refine r_is1 ?_ | refine r_is2 ?_ | refine r_is3 ?_ | refine r_isn0 ?_ | refine r_isn1 ?_ | refine r_isn2 ?_ | refine r_isn3 ?_ | refine r_lenT ?_ | refine r_intI ?_ | refine r_absI ?_ | refine r_sl ?_ | refine r_no ?_ | refine r_part ?_ | refine r_asP ?_ | refine r_slT ?_ | refine r_slR ?_ | refine r_iter ?_ | refine r_asT ?_ | refine r_asPt ?_ | refine r_asRo ?_ | refine r_rng1 ?_ | refine r_gNm ?_ | refine r_gIx ?_ | refine r_comp ?_ | refine r_chain ?_ | refine r_chn1 ?_ | refine r_chn0 ?_ | refine r_isi ?_ | refine r_newL ?_ | refine r_ok ?_) | ((with_reducible (first | refine e_var ?_ | refine e_ixT ?_ | refine e_gTp ?_)); refine ⟨_, rfl, ?_⟩) | ((with_reducible (first | refine r_mkT ?_ ?_ | refine r_mkP ?_ ?_ | refine r_mkL ?_ ?_)); exact Nat.le_of_ble_eq_true rfl) | ((with_reducible (first | refine e_mth ?_ | refine e_lenO ?_ | refine e_asO ?_ | refine e_truO ?_ | refine e_tupleO ?_ | refine e_tupleP ?_ | refine e_slO ?_ | refine e_reverse ?_ | refine e_listO ?_)); refine ⟨_, (by assumption), ?_⟩) | ((with_reducible (first | refine e_ixO ?_ | refine e_set ?_)); refine ⟨_, (by assumption), _, rfl, ?_⟩) | ((with_reducible (first | refine r_mulI ?_ ?_)); first | exact mul_ok (Or.inr (by decide)) | exact mul_ok (Or.inl (by decide))) | ((with_reducible (first | refine r_modI ?_ ?_ | refine r_fdvI ?_ ?_ | refine r_powI ?_ ?_)); decide) | dsimp only [endP])
      refine z_dec (fun hr => ?_) (fun hr => ?_)
      · repeat (first | with_reducible (first | refine zs_seq ?_ | refine zs_asg ?_ | refine zs_drop ?_ | refine zs_ret ?_ | refine zs_retN ?_ | refine zs_next ?_ | refine zs_brk ?_ | refine zs_cnt ?_ | refine zs_if ?_ | refine zs_for ?_ | refine zs_while ?_ | refine z_true ?_ | refine z_false ?_ | refine r_k ?_ | refine r_op ?_ | refine r_un ?_ | refine r_nil ?_ | refine r_cons ?_ | refine r_tup ?_ | refine r_ptp ?_ | refine r_lst ?_ | refine r_ife ?_ | refine r_if1 ?_ | refine r_if0 ?_ | refine r_and ?_ | refine r_or ?_ | refine r_not ?_ | refine r_bool ?_ | refine r_asB ?_ | refine r_tru ?_ | refine r_truB ?_ | refine r_truI ?_ | refine r_andV ?_ | refine r_orV ?_ | refine r_andV1 ?_ | refine r_andV0 ?_ | refine r_orV1 ?_ | refine r_orV0 ?_ | refine r_notV ?_ | refine r_call ?_ | refine r_meth ?_ | refine r_addI ?_ | refine r_subI ?_ | refine r_negI ?_ | refine r_andI ?_ | refine r_ltI ?_ | refine r_gtI ?_ | refine r_leI ?_ | refine r_geI ?_ | refine r_eqI ?_ | refine r_eqS ?_ | refine r_neI ?_ | refine r_neS ?_ | refine r_is0 ?_ | refine r_is1 ?_ | refine r_is2 ?_ | refine r_is3 ?_ | refine r_isn0 ?_ | refine r_isn1 ?_ | refine r_isn2 ?_ | refine r_isn3 ?_ | refine r_lenT ?_ | refine r_intI ?_ | refine r_absI ?_ | refine r_sl ?_ | refine r_no ?_ | refine r_part ?_ | refine r_asP ?_ | refine r_slT ?_ | refine r_slR ?_ | refine r_iter ?_ | refine r_asT ?_ | refine r_asPt ?_ | refine r_asRo ?_ | refine r_rng1 ?_ | refine r_gNm ?_ | refine r_gIx ?_ | refine r_comp ?_ | refine r_chain ?_ | refine r_chn1 ?_ | refine r_chn0 ?_ | refine r_isi ?_ | refine r_newL ?_ | refine r_ok ?_) | ((with_reducible (first | refine e_var ?_ | refine e_ixT ?_ | refine e_gTp ?_)); refine ⟨_, rfl, ?_⟩) | ((with_reducible (first | refine r_mkT ?_ ?_ | refine r_mkP ?_ ?_ | refine r_mkL ?_ ?_)); exact Nat.le_of_ble_eq_true rfl) | ((with_reducible (first | refine e_mth ?_ | refine e_lenO ?_ | refine e_asO ?_ | refine e_truO ?_ | refine e_tupleO ?_ | refine e_tupleP ?_ | refine e_slO ?_ | refine e_reverse ?_ | refine e_listO ?_)); refine ⟨_, (by assumption), ?_⟩) | ((with_reducible (first | refine e_ixO ?_ | refine e_set ?_)); refine ⟨_, (by assumption), _, rfl, ?_⟩) | ((with_reducible (first | refine r_mulI ?_ ?_)); first | exact mul_ok (Or.inr (by decide)) | exact mul_ok (Or.inl (by decide))) | ((with_reducible (first | refine r_modI ?_ ?_ | refine r_fdvI ?_ ?_ | refine r_powI ?_ ?_)); decide) | dsimp only [endP])
        refine (draw_ok P2 (by decide) (by decide)).to ?_
        rintro _ s3 ⟨r3, rfl, _, _, P3, x3⟩
        have hs3 := x3.get hs2 (by simp; omega)
        repeat (first | with_reducible (first | refine zs_seq ?_ | refine zs_asg ?_ | refine zs_drop ?_ | refine zs_ret ?_ | refine zs_retN ?_ | refine zs_next ?_ | refine zs_brk ?_ | refine zs_cnt ?_ | refine zs_if ?_ | refine zs_for ?_ | refine zs_while ?_ | refine z_true ?_ | refine z_false ?_ | refine r_k ?_ | refine r_op ?_ | refine r_un ?_ | refine r_nil ?_ | refine r_cons ?_ | refine r_tup ?_ | refine r_ptp ?_ | refine r_lst ?_ | refine r_ife ?_ | refine r_if1 ?_ | refine r_if0 ?_ | refine r_and ?_ | refine r_or ?_ | refine r_not ?_ | refine r_bool ?_ | refine r_asB ?_ | refine r_tru ?_ | refine r_truB ?_ | refine r_truI ?_ | refine r_andV ?_ | refine r_orV ?_ | refine r_andV1 ?_ | refine r_andV0 ?_ | refine r_orV1 ?_ | refine r_orV0 ?_ | refine r_notV ?_ | refine r_call ?_ | refine r_meth ?_ | refine r_addI ?_ | refine r_subI ?_ | refine r_negI ?_ | refine r_andI ?_ | refine r_ltI ?_ | refine r_gtI ?_ | refine r_leI ?_ | refine r_geI ?_ | refine r_eqI ?_ | refine r_eqS ?_ | refine r_neI ?_ | refine r_neS ?_ | refine r_is0 ?_ | refine r_is1 ?_ | refine r_is2 ?_ | refine r_is3 ?_ | refine r_isn0 ?_ | refine r_isn1 ?_ | refine r_isn2 ?_ | refine r_isn3 ?_ | refine r_lenT ?_ | refine r_intI ?_ | refine r_absI ?_ | refine r_sl ?_ | refine r_no ?_ | refine r_part ?_ | refine r_asP ?_ | refine r_slT ?_ | refine r_slR ?_ | refine r_iter ?_ | refine r_asT ?_ | refine r_asPt ?_ | refine r_asRo ?_ | refine r_rng1 ?_ | refine r_gNm ?_ | refine r_gIx ?_ | refine r_comp ?_ | refine r_chain ?_ | refine r_chn1 ?_ | refine r_chn0 ?_ | refine r_isi ?_ | refine r_newL ?_ | refine r_ok ?_) | ((with_reducible (first | refine e_var ?_ | refine e_ixT ?_ | refine e_gTp ?_)); refine ⟨_, rfl, ?_⟩) | ((with_reducible (first | refine r_mkT ?_ ?_ | refine r_mkP ?_ ?_ | refine r_mkL ?_ ?_)); exact Nat.le_of_ble_eq_true rfl) | ((with_reducible (first | refine e_mth ?_ | refine e_lenO ?_ | refine e_asO ?_ | refine e_truO ?_ | refine e_tupleO ?_ | refine e_tupleP ?_ | refine e_slO ?_ | refine e_reverse ?_ | refine e_listO ?_)); refine ⟨_, (by assumption), ?_⟩) | ((with_reducible (first | refine e_ixO ?_ | refine e_set ?_)); refine ⟨_, (by assumption), _, rfl, ?_⟩) | ((with_reducible (first | refine r_mulI ?_ ?_)); first | exact mul_ok (Or.inr (by decide)) | exact mul_ok (Or.inl (by decide))) | ((with_reducible (first | refine r_modI ?_ ?_ | refine r_fdvI ?_ ?_ | refine r_powI ?_ ?_)); decide) | dsimp only [endP])
        refine r_append hs3 (lt_line (by simp; omega)) ?_
        exact ⟨⟨_, rfl⟩, ss ++ [.put r3], by rw [set_at hs3]; simp [Sp.d], by simp; omega, P3.set (by omega) (by omega), ((x.trans x2).trans x3).setNew (Nat.le_refl _)⟩
      · repeat (first | with_reducible (first | refine zs_seq ?_ | refine zs_asg ?_ | refine zs_drop ?_ | refine zs_ret ?_ | refine zs_retN ?_ | refine zs_next ?_ | refine zs_brk ?_ | refine zs_cnt ?_ | refine zs_if ?_ | refine zs_for ?_ | refine zs_while ?_ | refine z_true ?_ | refine z_false ?_ | refine r_k ?_ | refine r_op ?_ | refine r_un ?_ | refine r_nil ?_ | refine r_cons ?_ | refine r_tup ?_ | refine r_ptp ?_ | refine r_lst ?_ | refine r_ife ?_ | refine r_if1 ?_ | refine r_if0 ?_ | refine r_and ?_ | refine r_or ?_ | refine r_not ?_ | refine r_bool ?_ | refine r_asB ?_ | refine r_tru ?_ | refine r_truB ?_ | refine r_truI ?_ | refine r_andV ?_ | refine r_orV ?_ | refine r_andV1 ?_ | refine r_andV0 ?_ | refine r_orV1 ?_ | refine r_orV0 ?_ | refine r_notV ?_ | refine r_call ?_ | refine r_meth ?_ | refine r_addI ?_ | refine r_subI ?_ | refine r_negI ?_ | refine r_andI ?_ | refine r_ltI ?_ | refine r_gtI ?_ | refine r_leI ?_ | refine r_geI ?_ | refine r_eqI ?_ | refine r_eqS ?_ | refine r_neI ?_ | refine r_neS ?_ | refine r_is0 ?_ | refine r_is1 ?_ | refine r_is2 ?_ | refine r_is3 ?_ | refine r_isn0 ?_ | refine r_isn1 ?_ | refine r_isn2 ?_ | refine r_isn3 ?_ | refine r_lenT ?_ | refine r_intI ?_ | refine r_absI ?_ | refine r_sl ?_ | refine r_no ?_ | refine r_part ?_ | refine r_asP ?_ | refine r_slT ?_ | refine r_slR ?_ | refine r_iter ?_ | refine r_asT ?_ | refine r_asPt ?_ | refine r_asRo ?_ | refine r_rng1 ?_ | refine r_gNm ?_ | refine r_gIx ?_ | refine r_comp ?_ | refine r_chain ?_ | refine r_chn1 ?_ | refine r_chn0 ?_ | refine r_isi ?_ | refine r_newL ?_ | refine r_ok ?_) | ((with_reducible (first | refine e_var ?_ | refine e_ixT ?_ | refine e_gTp ?_)); refine ⟨_, rfl, ?_⟩) | ((with_reducible (first | refine r_mkT ?_ ?_ | refine r_mkP ?_ ?_ | refine r_mkL ?_ ?_)); exact Nat.le_of_ble_eq_true rfl) | ((with_reducible (first | refine e_mth ?_ | refine e_lenO ?_ | refine e_asO ?_ | refine e_truO ?_ | refine e_tupleO ?_ | refine e_tupleP ?_ | refine e_slO ?_ | refine e_reverse ?_ | refine e_listO ?_)); refine ⟨_, (by assumption), ?_⟩) | ((with_reducible (first | refine e_ixO ?_ | refine e_set ?_)); refine ⟨_, (by assumption), _, rfl, ?_⟩) | ((with_reducible (first | refine r_mulI ?_ ?_)); first | exact mul_ok (Or.inr (by decide)) | exact mul_ok (Or.inl (by decide))) | ((with_reducible (first | refine r_modI ?_ ?_ | refine r_fdvI ?_ ?_ | refine r_powI ?_ ?_)); decide) | dsimp only [endP])
        exact ⟨⟨_, rfl⟩, ss, hs2, by omega, P2, x.trans x2⟩
    · rintro _ s2 ⟨⟨z, rfl⟩, ss, hs, hl, P, x⟩
      repeat (first | with_reducible (first | refine zs_seq ?_ | refine zs_asg ?_ | refine zs_drop ?_ | refine zs_ret ?_ | refine zs_retN ?_ | refine zs_next ?_ | refine zs_brk ?_ | refine zs_cnt ?_ | refine zs_if ?_ | refine zs_for ?_ | refine zs_while ?_ | refine z_true ?_ | refine z_false ?_ | refine r_k ?_ | refine r_op ?_ | refine r_un ?_ | refine r_nil ?_ | refine r_cons ?_ | refine r_tup ?_ | refine r_ptp ?_ | refine r_lst ?_ | refine r_ife ?_ | refine r_if1 ?_ | refine r_if0 ?_ | refine r_and ?_ | refine r_or ?_ | refine r_not ?_ | refine r_bool ?_ | refine r_asB ?_ | refine r_tru ?_ | refine r_truB ?_ | refine r_truI ?_ | refine r_andV ?_ | refine r_orV ?_ | refine r_andV1 ?_ | refine r_andV0 ?_ | refine r_orV1 ?_ | refine r_orV0 ?_ | refine r_notV ?_ | refine r_call ?_ | refine r_meth ?_ | refine r_addI ?_ | refine r_subI ?_ | refine r_negI ?_ | refine r_andI ?_ | refine r_ltI ?_ | refine r_gtI ?_ | refine r_leI ?_ | refine r_geI ?_ | refine r_eqI ?_ | refine r_eqS ?_ | refine r_neI ?_ | refine r_neS ?_ | refine r_is0 ?_ | refine r_is1 ?_ | refine r_is2 ?_ | refine r_is3 ?_ | refine r_isn0 ?_ | refine r_isn1 ?_ | refine r_isn2 ?_ | refine r_isn3 ?_ | refine r_lenT ?_ | refine r_intI ?_ | refine r_absI ?_ | refine r_sl ?_ | refine r_no ?_ | refine r_part ?_ | refine r_asP ?_ | refine r_slT ?_ | refine r_slR ?_ | refine r_iter ?_ | refine r_asT ?_ | refine r_asPt ?_ | refine r_asRo ?_ | refine r_rng1 ?_ | refine r_gNm ?_ | refine r_gIx ?_ | refine r_comp ?_ | refine r_chain ?_ | refine r_chn1 ?_ | refine r_chn0 ?_ | refine r_isi ?_ | refine r_newL ?_ | refine r_ok ?_) | ((with_reducible (first | refine e_var ?_ | refine e_ixT ?_ | refine e_gTp ?_)); refine ⟨_, rfl, ?_⟩) | ((with_reducible (first | refine r_mkT ?_ ?_ | refine r_mkP ?_ ?_ | refine r_mkL ?_ ?_)); exact Nat.le_of_ble_eq_true rfl) | ((with_reducible (first | refine e_mth ?_ | refine e_lenO ?_ | refine e_asO ?_ | refine e_truO ?_ | refine e_tupleO ?_ | refine e_tupleP ?_ | refine e_slO ?_ | refine e_reverse ?_ | refine e_listO ?_)); refine ⟨_, (by assumption), ?_⟩) | ((with_reducible (first | refine e_ixO ?_ | refine e_set ?_)); refine ⟨_, (by assumption), _, rfl, ?_⟩) | ((with_reducible (first | refine r_mulI ?_ ?_)); first | exact mul_ok (Or.inr (by decide)) | exact mul_ok (Or.inl (by decide))) | ((with_reducible (first | refine r_modI ?_ ?_ | refine r_fdvI ?_ ?_ | refine r_powI ?_ ?_)); decide) | dsimp only [endP])
      refine (taking_ok P).to ?_
      rintro _ s3 ⟨t, rfl, htk, P3, x3⟩
      have hs3 := x3.get hs (by simp; omega)
      repeat (first | with_reducible (first | refine zs_seq ?_ | refine zs_asg ?_ | refine zs_drop ?_ | refine zs_ret ?_ | refine zs_retN ?_ | refine zs_next ?_ | refine zs_brk ?_ | refine zs_cnt ?_ | refine zs_if ?_ | refine zs_for ?_ | refine zs_while ?_ | refine z_true ?_ | refine z_false ?_ | refine r_k ?_ | refine r_op ?_ | refine r_un ?_ | refine r_nil ?_ | refine r_cons ?_ | refine r_tup ?_ | refine r_ptp ?_ | refine r_lst ?_ | refine r_ife ?_ | refine r_if1 ?_ | refine r_if0 ?_ | refine r_and ?_ | refine r_or ?_ | refine r_not ?_ | refine r_bool ?_ | refine r_asB ?_ | refine r_tru ?_ | refine r_truB ?_ | refine r_truI ?_ | refine r_andV ?_ | refine r_orV ?_ | refine r_andV1 ?_ | refine r_andV0 ?_ | refine r_orV1 ?_ | refine r_orV0 ?_ | refine r_notV ?_ | refine r_call ?_ | refine r_meth ?_ | refine r_addI ?_ | refine r_subI ?_ | refine r_negI ?_ | refine r_andI ?_ | refine r_ltI ?_ | refine r_gtI ?_ | refine r_leI ?_ | refine r_geI ?_ | refine r_eqI ?_ | refine r_eqS ?_ | refine r_neI ?_ | refine r_neS ?_ | refine r_is0 ?_ | refine r_is1 ?_ | refine r_is2 ?_ | refine r_is3 ?_ | refine r_isn0 ?_ | refine r_isn1 ?_ | refine r_isn2 ?_ | refine r_isn3 ?_ | refine r_lenT ?_ | refine r_intI ?_ | refine r_absI ?_ | refine r_sl ?_ | refine r_no ?_ | refine r_part ?_ | refine r_asP ?_ | refine r_slT ?_ | refine r_slR ?_ | refine r_iter ?_ | refine r_asT ?_ | refine r_asPt ?_ | refine r_asRo ?_ | refine r_rng1 ?_ | refine r_gNm ?_ | refine r_gIx ?_ | refine r_comp ?_ | refine r_chain ?_ | refine r_chn1 ?_ | refine r_chn0 ?_ | refine r_isi ?_ | refine r_newL ?_ | refine r_ok ?_) | ((with_reducible (first | refine e_var ?_ | refine e_ixT ?_ | refine e_gTp ?_)); refine ⟨_, rfl, ?_⟩) | ((with_reducible (first | refine r_mkT ?_ ?_ | refine r_mkP ?_ ?_ | refine r_mkL ?_ ?_)); exact Nat.le_of_ble_eq_true rfl) | ((with_reducible (first | refine e_mth ?_ | refine e_lenO ?_ | refine e_asO ?_ | refine e_truO ?_ | refine e_tupleO ?_ | refine e_tupleP ?_ | refine e_slO ?_ | refine e_reverse ?_ | refine e_listO ?_)); refine ⟨_, (by assumption), ?_⟩) | ((with_reducible (first | refine e_ixO ?_ | refine e_set ?_)); refine ⟨_, (by assumption), _, rfl, ?_⟩) | ((with_reducible (first | refine r_mulI ?_ ?_)); first | exact mul_ok (Or.inr (by decide)) | exact mul_ok (Or.inl (by decide))) | ((with_reducible (first | refine r_modI ?_ ?_ | refine r_fdvI ?_ ?_ | refine r_powI ?_ ?_)); decide) | dsimp only [endP])
      refine r_append hs3 (lt_line (by simp; omega)) ?_
      exact ⟨⟨_, _, rfl⟩, ss ++ [t], by rw [set_at hs3]; simp, by simp; omega, fun _ => ⟨t, by simp, htk⟩, P3.set (by omega) (by omega), (x.trans x3).setNew (Nat.le_refl _)⟩
  · rintro _ s ⟨⟨y, z, rfl⟩, ss, hs, hl, ht, P, x⟩
    refine ⟨itT_fin, ?_⟩
    repeat (first | with_reducible (first | refine zs_seq ?_ | refine zs_asg ?_ | refine zs_drop ?_ | refine zs_ret ?_ | refine zs_retN ?_ | refine zs_next ?_ | refine zs_brk ?_ | refine zs_cnt ?_ | refine zs_if ?_ | refine zs_for ?_ | refine zs_while ?_ | refine z_true ?_ | refine z_false ?_ | refine r_k ?_ | refine r_op ?_ | refine r_un ?_ | refine r_nil ?_ | refine r_cons ?_ | refine r_tup ?_ | refine r_ptp ?_ | refine r_lst ?_ | refine r_ife ?_ | refine r_if1 ?_ | refine r_if0 ?_ | refine r_and ?_ | refine r_or ?_ | refine r_not ?_ | refine r_bool ?_ | refine r_asB ?_ | refine r_tru ?_ | refine r_truB ?_ | refine r_truI ?_ | refine r_andV ?_ | refine r_orV ?_ | refine r_andV1 ?_ | refine r_andV0 ?_ | refine r_orV1 ?_ | refine r_orV0 ?_ | refine r_notV ?_ | refine r_call ?_ | refine r_meth ?_ | refine r_addI ?_ | refine r_subI ?_ | refine r_negI ?_ | refine r_andI ?_ | refine r_ltI ?_ | refine r_gtI ?_ | refine r_leI ?_ | refine r_geI ?_ | refine r_eqI ?_ | refine r_eqS ?_ | refine r_neI ?_ | refine r_neS ?_ | refine r_is0 ?_ | refine r_is1 ?_ | refine r_is2 ?_ | refine r_is3 ?_ | refine r_isn0 ?_ | refine r_isn1 ?_ | refine r_isn2 ?_ | refine r_isn3 ?_ | refine r_lenT ?_ | refine r_intI ?_ | refine r_absI ?_ | refine r_sl ?_ | refine r_no ?_ | refine r_part ?_ | refine r_asP ?_ | refine r_slT ?_ | refine r_slR ?_ | refine r_iter ?_ | refine r_asT ?_ | refine r_asPt ?_ | refine r_asRo ?_ | refine r_rng1 ?_ | refine r_gNm ?_ | refine r_gIx ?_ | refine r_comp ?_ | refine r_chain ?_ | refine r_chn1 ?_ | refine r_chn0 ?_ | refine r_isi ?_ | refine r_newL ?_ | refine r_ok ?_) | ((with_reducible (first | refine e_var ?_ | refine e_ixT ?_ | refine e_gTp ?_)); refine ⟨_, rfl, ?_⟩) | ((with_reducible (first | refine r_mkT ?_ ?_ | refine r_mkP ?_ ?_ | refine r_mkL ?_ ?_)); exact Nat.le_of_ble_eq_true rfl) | ((with_reducible (first | refine e_mth ?_ | refine e_lenO ?_ | refine e_asO ?_ | refine e_truO ?_ | refine e_tupleO ?_ | refine e_tupleP ?_ | refine e_slO ?_ | refine e_reverse ?_ | refine e_listO ?_)); refine ⟨_, (by assumption), ?_⟩) | ((with_reducible (first | refine e_ixO ?_ | refine e_set ?_)); refine ⟨_, (by assumption), _, rfl, ?_⟩) | ((with_reducible (first | refine r_mulI ?_ ?_)); first | exact mul_ok (Or.inr (by decide)) | exact mul_ok (Or.inl (by decide))) | ((with_reducible (first | refine r_modI ?_ ?_ | refine r_fdvI ?_ ?_ | refine r_powI ?_ ?_)); decide) | dsimp only [endP])
    refine (draw_ok P (by decide) (by decide)).to ?_
    rintro _ s2 ⟨r2, rfl, u0, u1, P2, x2⟩
    have hs2 := x2.get hs (by simp; omega)
    repeat (first | with_reducible (first | refine zs_seq ?_ | refine zs_asg ?_ | refine zs_drop ?_ | refine zs_ret ?_ | refine zs_retN ?_ | refine zs_next ?_ | refine zs_brk ?_ | refine zs_cnt ?_ | refine zs_if ?_ | refine zs_for ?_ | refine zs_while ?_ | refine z_true ?_ | refine z_false ?_ | refine r_k ?_ | refine r_op ?_ | refine r_un ?_ | refine r_nil ?_ | refine r_cons ?_ | refine r_tup ?_ | refine r_ptp ?_ | refine r_lst ?_ | refine r_ife ?_ | refine r_if1 ?_ | refine r_if0 ?_ | refine r_and ?_ | refine r_or ?_ | refine r_not ?_ | refine r_bool ?_ | refine r_asB ?_ | refine r_tru ?_ | refine r_truB ?_ | refine r_truI ?_ | refine r_andV ?_ | refine r_orV ?_ | refine r_andV1 ?_ | refine r_andV0 ?_ | refine r_orV1 ?_ | refine r_orV0 ?_ | refine r_notV ?_ | refine r_call ?_ | refine r_meth ?_ | refine r_addI ?_ | refine r_subI ?_ | refine r_negI ?_ | refine r_andI ?_ | refine r_ltI ?_ | refine r_gtI ?_ | refine r_leI ?_ | refine r_geI ?_ | refine r_eqI ?_ | refine r_eqS ?_ | refine r_neI ?_ | refine r_neS ?_ | refine r_is0 ?_ | refine r_is1 ?_ | refine r_is2 ?_ | refine r_is3 ?_ | refine r_isn0 ?_ | refine r_isn1 ?_ | refine r_isn2 ?_ | refine r_isn3 ?_ | refine r_lenT ?_ | refine r_intI ?_ | refine r_absI ?_ | refine r_sl ?_ | refine r_no ?_ | refine r_part ?_ | refine r_asP ?_ | refine r_slT ?_ | refine r_slR ?_ | refine r_iter ?_ | refine r_asT ?_ | refine r_asPt ?_ | refine r_asRo ?_ | refine r_rng1 ?_ | refine r_gNm ?_ | refine r_gIx ?_ | refine r_comp ?_ | refine r_chain ?_ | refine r_chn1 ?_ | refine r_chn0 ?_ | refine r_isi ?_ | refine r_newL ?_ | refine r_ok ?_) | ((with_reducible (first | refine e_var ?_ | refine e_ixT ?_ | refine e_gTp ?_)); refine ⟨_, rfl, ?_⟩) | ((with_reducible (first | refine r_mkT ?_ ?_ | refine r_mkP ?_ ?_ | refine r_mkL ?_ ?_)); exact Nat.le_of_ble_eq_true rfl) | ((with_reducible (first | refine e_mth ?_ | refine e_lenO ?_ | refine e_asO ?_ | refine e_truO ?_ | refine e_tupleO ?_ | refine e_tupleP ?_ | refine e_slO ?_ | refine e_reverse ?_ | refine e_listO ?_)); refine ⟨_, (by assumption), ?_⟩) | ((with_reducible (first | refine e_ixO ?_ | refine e_set ?_)); refine ⟨_, (by assumption), _, rfl, ?_⟩) | ((with_reducible (first | refine r_mulI ?_ ?_)); first | exact mul_ok (Or.inr (by decide)) | exact mul_ok (Or.inl (by decide))) | ((with_reducible (first | refine r_modI ?_ ?_ | refine r_fdvI ?_ ?_ | refine r_powI ?_ ?_)); decide) | dsimp only [endP])
    refine r_asR1 (by omega) ?_
    refine zw_for r2.toNat (fun i e s => (∃ y z : Option D, e = [some (.obj p), some (.tup (ns.map D.int)), some (.obj st.length), y, z]) ∧ ∃ ss : List Sp, s[st.length]? = some (.lst (ss.map Sp.d)) ∧ ss.length ≤ 2 * ns.length + i ∧ (0 < ns.length → ∃ s ∈ ss, s.tk = true) ∧ Bx p c s ∧ Ext [p] st s) (lt_fuel (by omega)) ?_ ?_ ?_
    · exact ⟨⟨_, _, rfl⟩, ss, hs2, by omega, ht, P2, x.trans x2⟩
    · rintro i _ s hi ⟨⟨y, z, rfl⟩, ss, hs, hl, ht, P, x⟩
      refine ⟨_, itR_in (by omega), ?_⟩
      repeat (first | with_reducible (first | refine zs_seq ?_ | refine zs_asg ?_ | refine zs_drop ?_ | refine zs_ret ?_ | refine zs_retN ?_ | refine zs_next ?_ | refine zs_brk ?_ | refine zs_cnt ?_ | refine zs_if ?_ | refine zs_for ?_ | refine zs_while ?_ | refine z_true ?_ | refine z_false ?_ | refine r_k ?_ | refine r_op ?_ | refine r_un ?_ | refine r_nil ?_ | refine r_cons ?_ | refine r_tup ?_ | refine r_ptp ?_ | refine r_lst ?_ | refine r_ife ?_ | refine r_if1 ?_ | refine r_if0 ?_ | refine r_and ?_ | refine r_or ?_ | refine r_not ?_ | refine r_bool ?_ | refine r_asB ?_ | refine r_tru ?_ | refine r_truB ?_ | refine r_truI ?_ | refine r_andV ?_ | refine r_orV ?_ | refine r_andV1 ?_ | refine r_andV0 ?_ | refine r_orV1 ?_ | refine r_orV0 ?_ | refine r_notV ?_ | refine r_call ?_ | refine r_meth ?_ | refine r_addI ?_ | refine r_subI ?_ | refine r_negI ?_ | refine r_andI ?_ | refine r_ltI ?_ | refine r_gtI ?_ | refine r_leI ?_ | refine r_geI ?_ | refine r_eqI ?_ | refine r_eqS ?_ | refine r_neI ?_ | refine r_neS ?_ | refine r_is0 ?_ | refine r_is1 ?_ | refine r_is2 ?_ | refine r_is3 ?_ | refine r_isn0 ?_ | refine r_isn1 ?_ | refine r_isn2 ?_ | refine r_isn3 ?_ | refine r_lenT ?_ | refine r_intI ?_ | refine r_absI ?_ | refine r_sl ?_ | refine r_no ?_ | refine r_part ?_ | refine r_asP ?_ | refine r_slT ?_ | refine r_slR ?_ | refine r_iter ?_ | refine r_asT ?_ | refine r_asPt ?_ | refine r_asRo ?_ | refine r_rng1 ?_ | refine r_gNm ?_ | refine r_gIx ?_ | refine r_comp ?_ | refine r_chain ?_ | refine r_chn1 ?_ | refine r_chn0 ?_ | refine r_isi ?_ | refine r_newL ?_ | refine r_ok ?_) | ((with_reducible (first | refine e_var ?_ | refine e_ixT ?_ | refine e_gTp ?_)); refine ⟨_, rfl, ?_⟩) | ((with_reducible (first | refine r_mkT ?_ ?_ | refine r_mkP ?_ ?_ | refine r_mkL ?_ ?_)); exact Nat.le_of_ble_eq_true rfl) | ((with_reducible (first | refine e_mth ?_ | refine e_lenO ?_ | refine e_asO ?_ | refine e_truO ?_ | refine e_tupleO ?_ | refine e_tupleP ?_ | refine e_slO ?_ | refine e_reverse ?_ | refine e_listO ?_)); refine ⟨_, (by assumption), ?_⟩) | ((with_reducible (first | refine e_ixO ?_ | refine e_set ?_)); refine ⟨_, (by assumption), _, rfl, ?_⟩) | ((with_reducible (first | refine r_mulI ?_ ?_)); first | exact mul_ok (Or.inr (by decide)) | exact mul_ok (Or.inl (by decide))) | ((with_reducible (first | refine r_modI ?_ ?_ | refine r_fdvI ?_ ?_ | refine r_powI ?_ ?_)); decide) | dsimp only [endP])
      refine (draw_ok P (by decide) (by decide)).to ?_
      rintro _ s3 ⟨r3, rfl, _, _, P3, x3⟩
      have hs3 := x3.get hs (by simp; omega)
      repeat (first | with_reducible (first | refine zs_seq ?_ | refine zs_asg ?_ | refine zs_drop ?_ | refine zs_ret ?_ | refine zs_retN ?_ | refine zs_next ?_ | refine zs_brk ?_ | refine zs_cnt ?_ | refine zs_if ?_ | refine zs_for ?_ | refine zs_while ?_ | refine z_true ?_ | refine z_false ?_ | refine r_k ?_ | refine r_op ?_ | refine r_un ?_ | refine r_nil ?_ | refine r_cons ?_ | refine r_tup ?_ | refine r_ptp ?_ | refine r_lst ?_ | refine r_ife ?_ | refine r_if1 ?_ | refine r_if0 ?_ | refine r_and ?_ | refine r_or ?_ | refine r_not ?_ | refine r_bool ?_ | refine r_asB ?_ | refine r_tru ?_ | refine r_truB ?_ | refine r_truI ?_ | refine r_andV ?_ | refine r_orV ?_ | refine r_andV1 ?_ | refine r_andV0 ?_ | refine r_orV1 ?_ | refine r_orV0 ?_ | refine r_notV ?_ | refine r_call ?_ | refine r_meth ?_ | refine r_addI ?_ | refine r_subI ?_ | refine r_negI ?_ | refine r_andI ?_ | refine r_ltI ?_ | refine r_gtI ?_ | refine r_leI ?_ | refine r_geI ?_ | refine r_eqI ?_ | refine r_eqS ?_ | refine r_neI ?_ | refine r_neS ?_ | refine r_is0 ?_ | refine r_is1 ?_ | refine r_is2 ?_ | refine r_is3 ?_ | refine r_isn0 ?_ | refine r_isn1 ?_ | refine r_isn2 ?_ | refine r_isn3 ?_ | refine r_lenT ?_ | refine r_intI ?_ | refine r_absI ?_ | refine r_sl ?_ | refine r_no ?_ | refine r_part ?_ | refine r_asP ?_ | refine r_slT ?_ | refine r_slR ?_ | refine r_iter ?_ | refine r_asT ?_ | refine r_asPt ?_ | refine r_asRo ?_ | refine r_rng1 ?_ | refine r_gNm ?_ | refine r_gIx ?_ | refine r_comp ?_ | refine r_chain ?_ | refine r_chn1 ?_ | refine r_chn0 ?_ | refine r_isi ?_ | refine r_newL ?_ | refine r_ok ?_) | ((with_reducible (first | refine e_var ?_ | refine e_ixT ?_ | refine e_gTp ?_)); refine ⟨_, rfl, ?_⟩) | ((with_reducible (first | refine r_mkT ?_ ?_ | refine r_mkP ?_ ?_ | refine r_mkL ?_ ?_)); exact Nat.le_of_ble_eq_true rfl) | ((with_reducible (first | refine e_mth ?_ | refine e_lenO ?_ | refine e_asO ?_ | refine e_truO ?_ | refine e_tupleO ?_ | refine e_tupleP ?_ | refine e_slO ?_ | refine e_reverse ?_ | refine e_listO ?_)); refine ⟨_, (by assumption), ?_⟩) | ((with_reducible (first | refine e_ixO ?_ | refine e_set ?_)); refine ⟨_, (by assumption), _, rfl, ?_⟩) | ((with_reducible (first | refine r_mulI ?_ ?_)); first | exact mul_ok (Or.inr (by decide)) | exact mul_ok (Or.inl (by decide))) | ((with_reducible (first | refine r_modI ?_ ?_ | refine r_fdvI ?_ ?_ | refine r_powI ?_ ?_)); decide) | dsimp only [endP])
      refine r_append hs3 (lt_line (by simp; omega)) ?_
      exact ⟨⟨_, _, rfl⟩, ss ++ [.put r3], by rw [set_at hs3]; simp [Sp.d], by simp; omega, fun h => ex_app (ht h), P3.set (by omega) (by omega), (x.trans x3).setNew (Nat.le_refl _)⟩
    · rintro _ s ⟨⟨y, z, rfl⟩, ss, hs, hl, ht, P, x⟩
      refine ⟨itR_end, ?_⟩
      repeat (first | with_reducible (first | refine zs_seq ?_ | refine zs_asg ?_ | refine zs_drop ?_ | refine zs_ret ?_ | refine zs_retN ?_ | refine zs_next ?_ | refine zs_brk ?_ | refine zs_cnt ?_ | refine zs_if ?_ | refine zs_for ?_ | refine zs_while ?_ | refine z_true ?_ | refine z_false ?_ | refine r_k ?_ | refine r_op ?_ | refine r_un ?_ | refine r_nil ?_ | refine r_cons ?_ | refine r_tup ?_ | refine r_ptp ?_ | refine r_lst ?_ | refine r_ife ?_ | refine r_if1 ?_ | refine r_if0 ?_ | refine r_and ?_ | refine r_or ?_ | refine r_not ?_ | refine r_bool ?_ | refine r_asB ?_ | refine r_tru ?_ | refine r_truB ?_ | refine r_truI ?_ | refine r_andV ?_ | refine r_orV ?_ | refine r_andV1 ?_ | refine r_andV0 ?_ | refine r_orV1 ?_ | refine r_orV0 ?_ | refine r_notV ?_ | refine r_call ?_ | refine r_meth ?_ | refine r_addI ?_ | refine r_subI ?_ | refine r_negI ?_ | refine r_andI ?_ | refine r_ltI ?_ | refine r_gtI ?_ | refine r_leI ?_ | refine r_geI ?_ | refine r_eqI ?_ | refine r_eqS ?_ | refine r_neI ?_ | refine r_neS ?_ | refine r_is0 ?_ | refine r_is1 ?_ | refine r_is2 ?_ | refine r_is3 ?_ | refine r_isn0 ?_ | refine r_isn1 ?_ | refine r_isn2 ?_ | refine r_isn3 ?_ | refine r_lenT ?_ | refine r_intI ?_ | refine r_absI ?_ | refine r_sl ?_ | refine r_no ?_ | refine r_part ?_ | refine r_asP ?_ | refine r_slT ?_ | refine r_slR ?_ | refine r_iter ?_ | refine r_asT ?_ | refine r_asPt ?_ | refine r_asRo ?_ | refine r_rng1 ?_ | refine r_gNm ?_ | refine r_gIx ?_ | refine r_comp ?_ | refine r_chain ?_ | refine r_chn1 ?_ | refine r_chn0 ?_ | refine r_isi ?_ | refine r_newL ?_ | refine r_ok ?_) | ((with_reducible (first | refine e_var ?_ | refine e_ixT ?_ | refine e_gTp ?_)); refine ⟨_, rfl, ?_⟩) | ((with_reducible (first | refine r_mkT ?_ ?_ | refine r_mkP ?_ ?_ | refine r_mkL ?_ ?_)); exact Nat.le_of_ble_eq_true rfl) | ((with_reducible (first | refine e_mth ?_ | refine e_lenO ?_ | refine e_asO ?_ | refine e_truO ?_ | refine e_tupleO ?_ | refine e_tupleP ?_ | refine e_slO ?_ | refine e_reverse ?_ | refine e_listO ?_)); refine ⟨_, (by assumption), ?_⟩) | ((with_reducible (first | refine e_ixO ?_ | refine e_set ?_)); refine ⟨_, (by assumption), _, rfl, ?_⟩) | ((with_reducible (first | refine r_mulI ?_ ?_)); first | exact mul_ok (Or.inr (by decide)) | exact mul_ok (Or.inl (by decide))) | ((with_reducible (first | refine r_modI ?_ ?_ | refine r_fdvI ?_ ?_ | refine r_powI ?_ ?_)); decide) | dsimp only [endP])
      exact ⟨_, ss, rfl, hs, by omega, fun h => ht (List.length_pos_iff.mpr h), Nat.le_refl _, P, x⟩
end Kw

namespace Kw
open Kc PySem
theorem r_insert {l : Nat} {xs : List D} {i : Int} {y : D} {st : Sto} {Q : D → Sto → Prop} {X : Ex → Sto → Prop} (e : st[l]? = some (.lst xs)) (z : xs.length < sizeLine ∧ 0 ≤ i ∧ i < 2 ^ 63) (q : Q .non (st.set l (.lst (xs.take i.toNat ++ [y] ++ xs.drop i.toNat)))) : RW (mInsert (.obj l) [.int i, y] st) Q X := by
  unfold mInsert
  simp only [e, if_pos z]
  exact ⟨q⟩
theorem atI_0 {α : Type} {x : α} {xs : List α} : L2.atI (x :: xs) 0 = some x := by
  obtain ⟨y, e1, e2⟩ := atI_of (xs := x :: xs) (i := 0) (by omega) (by simp)
  simp at e2
  rw [e1, e2]
theorem tk_ne {s : Sp} : ∃ w ds, s.d = .tup (.str w :: ds) ∧ (decide (w = "put") = !s.tk) := by
  cases s <;> exact ⟨_, _, rfl, by simp only [Sp.tk]; decide⟩
theorem steps_ok {p c : Nat} {st : Sto} {ns : List Int} {way : Int} (h : Bx p c st) (hn : ns.length ≤ 400) : RW (F_law_steps [.obj p, .tup (ns.map D.int), .int way] st) (fun d st' => ∃ ss : List Sp, d = .tup (ss.map Sp.d) ∧ ss.length ≤ 900 ∧ Bx p c st' ∧ Ext [p] st st') noX := by
  have hp := h.lt
  refine rw_run rfl ?_
  unfold B_law_steps
  simp only [List.map_cons, List.map_nil, List.cons_append, List.nil_append, List.replicate_succ, List.replicate_zero, Nat.reduceSub]
  repeat (first | with_reducible (first | refine zs_seq ?_ | refine zs_asg ?_ | refine zs_drop ?_ | refine zs_ret ?_ | refine zs_retN ?_ | refine zs_next ?_ | refine zs_brk ?_ | refine zs_cnt ?_ | refine zs_if ?_ | refine zs_for ?_ | refine zs_while ?_ | refine z_true ?_ | refine z_false ?_ | refine r_k ?_ | refine r_op ?_ | refine r_un ?_ | refine r_nil ?_ | refine r_cons ?_ | refine r_tup ?_ | refine r_ptp ?_ | refine r_lst ?_ | refine r_ife ?_ | refine r_if1 ?_ | refine r_if0 ?_ | refine r_and ?_ | refine r_or ?_ | refine r_not ?_ | refine r_bool ?_ | refine r_asB ?_ | refine r_tru ?_ | refine r_truB ?_ | refine r_truI ?_ | refine r_andV ?_ | refine r_orV ?_ | refine r_andV1 ?_ | refine r_andV0 ?_ | refine r_orV1 ?_ | refine r_orV0 ?_ | refine r_notV ?_ | refine r_call ?_ | refine r_meth ?_ | refine r_addI ?_ | refine r_subI ?_ | refine r_negI ?_ | refine r_andI ?_ | refine r_ltI ?_ | refine r_gtI ?_ | refine r_leI ?_ | refine r_geI ?_ | refine r_eqI ?_ | refine r_eqS ?_ | refine r_neI ?_ | refine r_neS ?_ | refine r_is0 ?_ | refine r_is1 ?_ | refine r_is2 ?_ | refine r_is3 ?_ | refine r_isn0 ?_ | refine r_isn1 ?_ | refine r_isn2 ?_ | refine r_isn3 ?_ | refine r_lenT ?_ | refine r_intI ?_ | refine r_absI ?_ | refine r_sl ?_ | refine r_no ?_ | refine r_part ?_ | refine r_asP ?_ | refine r_slT ?_ | refine r_slR ?_ | refine r_iter ?_ | refine r_asT ?_ | refine r_asPt ?_ | refine r_asRo ?_ | refine r_rng1 ?_ | refine r_gNm ?_ | refine r_gIx ?_ | refine r_comp ?_ | refine r_chain ?_ | refine r_chn1 ?_ | refine r_chn0 ?_ | refine r_isi ?_ | refine r_newL ?_ | refine r_ok ?_) | ((with_reducible (first | refine e_var ?_ | refine e_ixT ?_ | refine e_gTp ?_)); refine ⟨_, rfl, ?_⟩) | ((with_reducible (first | refine r_mkT ?_ ?_ | refine r_mkP ?_ ?_ | refine r_mkL ?_ ?_)); exact Nat.le_of_ble_eq_true rfl) | ((with_reducible (first | refine e_mth ?_ | refine e_lenO ?_ | refine e_asO ?_ | refine e_truO ?_ | refine e_tupleO ?_ | refine e_tupleP ?_ | refine e_slO ?_ | refine e_reverse ?_ | refine e_listO ?_)); refine ⟨_, (by assumption), ?_⟩) | ((with_reducible (first | refine e_ixO ?_ | refine e_set ?_)); refine ⟨_, (by assumption), _, rfl, ?_⟩) | ((with_reducible (first | refine r_mulI ?_ ?_)); first | exact mul_ok (Or.inr (by decide)) | exact mul_ok (Or.inl (by decide))) | ((with_reducible (first | refine r_modI ?_ ?_ | refine r_fdvI ?_ ?_ | refine r_powI ?_ ?_)); decide) | dsimp only [endP])
  refine z_dec (fun hw => ?_) (fun hw => ?_)
  · repeat (first | with_reducible (first | refine zs_seq ?_ | refine zs_asg ?_ | refine zs_drop ?_ | refine zs_ret ?_ | refine zs_retN ?_ | refine zs_next ?_ | refine zs_brk ?_ | refine zs_cnt ?_ | refine zs_if ?_ | refine zs_for ?_ | refine zs_while ?_ | refine z_true ?_ | refine z_false ?_ | refine r_k ?_ | refine r_op ?_ | refine r_un ?_ | refine r_nil ?_ | refine r_cons ?_ | refine r_tup ?_ | refine r_ptp ?_ | refine r_lst ?_ | refine r_ife ?_ | refine r_if1 ?_ | refine r_if0 ?_ | refine r_and ?_ | refine r_or ?_ | refine r_not ?_ | refine r_bool ?_ | refine r_asB ?_ | refine r_tru ?_ | refine r_truB ?_ | refine r_truI ?_ | refine r_andV ?_ | refine r_orV ?_ | refine r_andV1 ?_ | refine r_andV0 ?_ | refine r_orV1 ?_ | refine r_orV0 ?_ | refine r_notV ?_ | refine r_call ?_ | refine r_meth ?_ | refine r_addI ?_ | refine r_subI ?_ | refine r_negI ?_ | refine r_andI ?_ | refine r_ltI ?_ | refine r_gtI ?_ | refine r_leI ?_ | refine r_geI ?_ | refine r_eqI ?_ | refine r_eqS ?_ | refine r_neI ?_ | refine r_neS ?_ | refine r_is0 ?_ | refine r_is1 ?_ | refine r_is2 ?_ | refine r_is3 ?_ | refine r_isn0 ?_ | refine r_isn1 ?_ | refine r_isn2 ?_ | refine r_isn3 ?_ | refine r_lenT ?_ | refine r_intI ?_ | refine r_absI ?_ | refine r_sl ?_ | refine r_no ?_ | refine r_part ?_ | refine r_asP ?_ | refine r_slT ?_ | refine r_slR ?_ | refine r_iter ?_ | refine r_asT ?_ | refine r_asPt ?_ | refine r_asRo ?_ | refine r_rng1 ?_ | refine r_gNm ?_ | refine r_gIx ?_ | refine r_comp ?_ | refine r_chain ?_ | refine r_chn1 ?_ | refine r_chn0 ?_ | refine r_isi ?_ | refine r_newL ?_ | refine r_ok ?_) | ((with_reducible (first | refine e_var ?_ | refine e_ixT ?_ | refine e_gTp ?_)); refine ⟨_, rfl, ?_⟩) | ((with_reducible (first | refine r_mkT ?_ ?_ | refine r_mkP ?_ ?_ | refine r_mkL ?_ ?_)); exact Nat.le_of_ble_eq_true rfl) | ((with_reducible (first | refine e_mth ?_ | refine e_lenO ?_ | refine e_asO ?_ | refine e_truO ?_ | refine e_tupleO ?_ | refine e_tupleP ?_ | refine e_slO ?_ | refine e_reverse ?_ | refine e_listO ?_)); refine ⟨_, (by assumption), ?_⟩) | ((with_reducible (first | refine e_ixO ?_ | refine e_set ?_)); refine ⟨_, (by assumption), _, rfl, ?_⟩) | ((with_reducible (first | refine r_mulI ?_ ?_)); first | exact mul_ok (Or.inr (by decide)) | exact mul_ok (Or.inl (by decide))) | ((with_reducible (first | refine r_modI ?_ ?_ | refine r_fdvI ?_ ?_ | refine r_powI ?_ ?_)); decide) | dsimp only [endP])
    exact ⟨[], rfl, by simp, h, Ext.refl⟩
  repeat (first | with_reducible (first | refine zs_seq ?_ | refine zs_asg ?_ | refine zs_drop ?_ | refine zs_ret ?_ | refine zs_retN ?_ | refine zs_next ?_ | refine zs_brk ?_ | refine zs_cnt ?_ | refine zs_if ?_ | refine zs_for ?_ | refine zs_while ?_ | refine z_true ?_ | refine z_false ?_ | refine r_k ?_ | refine r_op ?_ | refine r_un ?_ | refine r_nil ?_ | refine r_cons ?_ | refine r_tup ?_ | refine r_ptp ?_ | refine r_lst ?_ | refine r_ife ?_ | refine r_if1 ?_ | refine r_if0 ?_ | refine r_and ?_ | refine r_or ?_ | refine r_not ?_ | refine r_bool ?_ | refine r_asB ?_ | refine r_tru ?_ | refine r_truB ?_ | refine r_truI ?_ | refine r_andV ?_ | refine r_orV ?_ | refine r_andV1 ?_ | refine r_andV0 ?_ | refine r_orV1 ?_ | refine r_orV0 ?_ | refine r_notV ?_ | refine r_call ?_ | refine r_meth ?_ | refine r_addI ?_ | refine r_subI ?_ | refine r_negI ?_ | refine r_andI ?_ | refine r_ltI ?_ | refine r_gtI ?_ | refine r_leI ?_ | refine r_geI ?_ | refine r_eqI ?_ | refine r_eqS ?_ | refine r_neI ?_ | refine r_neS ?_ | refine r_is0 ?_ | refine r_is1 ?_ | refine r_is2 ?_ | refine r_is3 ?_ | refine r_isn0 ?_ | refine r_isn1 ?_ | refine r_isn2 ?_ | refine r_isn3 ?_ | refine r_lenT ?_ | refine r_intI ?_ | refine r_absI ?_ | refine r_sl ?_ | refine r_no ?_ | refine r_part ?_ | refine r_asP ?_ | refine r_slT ?_ | refine r_slR ?_ | refine r_iter ?_ | refine r_asT ?_ | refine r_asPt ?_ | refine r_asRo ?_ | refine r_rng1 ?_ | refine r_gNm ?_ | refine r_gIx ?_ | refine r_comp ?_ | refine r_chain ?_ | refine r_chn1 ?_ | refine r_chn0 ?_ | refine r_isi ?_ | refine r_newL ?_ | refine r_ok ?_) | ((with_reducible (first | refine e_var ?_ | refine e_ixT ?_ | refine e_gTp ?_)); refine ⟨_, rfl, ?_⟩) | ((with_reducible (first | refine r_mkT ?_ ?_ | refine r_mkP ?_ ?_ | refine r_mkL ?_ ?_)); exact Nat.le_of_ble_eq_true rfl) | ((with_reducible (first | refine e_mth ?_ | refine e_lenO ?_ | refine e_asO ?_ | refine e_truO ?_ | refine e_tupleO ?_ | refine e_tupleP ?_ | refine e_slO ?_ | refine e_reverse ?_ | refine e_listO ?_)); refine ⟨_, (by assumption), ?_⟩) | ((with_reducible (first | refine e_ixO ?_ | refine e_set ?_)); refine ⟨_, (by assumption), _, rfl, ?_⟩) | ((with_reducible (first | refine r_mulI ?_ ?_)); first | exact mul_ok (Or.inr (by decide)) | exact mul_ok (Or.inl (by decide))) | ((with_reducible (first | refine r_modI ?_ ?_ | refine r_fdvI ?_ ?_ | refine r_powI ?_ ?_)); decide) | dsimp only [endP])
  refine z_dec (fun hw => ?_) (fun hw => ?_)
  · repeat (first | with_reducible (first | refine zs_seq ?_ | refine zs_asg ?_ | refine zs_drop ?_ | refine zs_ret ?_ | refine zs_retN ?_ | refine zs_next ?_ | refine zs_brk ?_ | refine zs_cnt ?_ | refine zs_if ?_ | refine zs_for ?_ | refine zs_while ?_ | refine z_true ?_ | refine z_false ?_ | refine r_k ?_ | refine r_op ?_ | refine r_un ?_ | refine r_nil ?_ | refine r_cons ?_ | refine r_tup ?_ | refine r_ptp ?_ | refine r_lst ?_ | refine r_ife ?_ | refine r_if1 ?_ | refine r_if0 ?_ | refine r_and ?_ | refine r_or ?_ | refine r_not ?_ | refine r_bool ?_ | refine r_asB ?_ | refine r_tru ?_ | refine r_truB ?_ | refine r_truI ?_ | refine r_andV ?_ | refine r_orV ?_ | refine r_andV1 ?_ | refine r_andV0 ?_ | refine r_orV1 ?_ | refine r_orV0 ?_ | refine r_notV ?_ | refine r_call ?_ | refine r_meth ?_ | refine r_addI ?_ | refine r_subI ?_ | refine r_negI ?_ | refine r_andI ?_ | refine r_ltI ?_ | refine r_gtI ?_ | refine r_leI ?_ | refine r_geI ?_ | refine r_eqI ?_ | refine r_eqS ?_ | refine r_neI ?_ | refine r_neS ?_ | refine r_is0 ?_ | refine r_is1 ?_ | refine r_is2 ?_ | refine r_is3 ?_ | refine r_isn0 ?_ | refine r_isn1 ?_ | refine r_isn2 ?_ | refine r_isn3 ?_ | refine r_lenT ?_ | refine r_intI ?_ | refine r_absI ?_ | refine r_sl ?_ | refine r_no ?_ | refine r_part ?_ | refine r_asP ?_ | refine r_slT ?_ | refine r_slR ?_ | refine r_iter ?_ | refine r_asT ?_ | refine r_asPt ?_ | refine r_asRo ?_ | refine r_rng1 ?_ | refine r_gNm ?_ | refine r_gIx ?_ | refine r_comp ?_ | refine r_chain ?_ | refine r_chn1 ?_ | refine r_chn0 ?_ | refine r_isi ?_ | refine r_newL ?_ | refine r_ok ?_) | ((with_reducible (first | refine e_var ?_ | refine e_ixT ?_ | refine e_gTp ?_)); refine ⟨_, rfl, ?_⟩) | ((with_reducible (first | refine r_mkT ?_ ?_ | refine r_mkP ?_ ?_ | refine r_mkL ?_ ?_)); exact Nat.le_of_ble_eq_true rfl) | ((with_reducible (first | refine e_mth ?_ | refine e_lenO ?_ | refine e_asO ?_ | refine e_truO ?_ | refine e_tupleO ?_ | refine e_tupleP ?_ | refine e_slO ?_ | refine e_reverse ?_ | refine e_listO ?_)); refine ⟨_, (by assumption), ?_⟩) | ((with_reducible (first | refine e_ixO ?_ | refine e_set ?_)); refine ⟨_, (by assumption), _, rfl, ?_⟩) | ((with_reducible (first | refine r_mulI ?_ ?_)); first | exact mul_ok (Or.inr (by decide)) | exact mul_ok (Or.inl (by decide))) | ((with_reducible (first | refine r_modI ?_ ?_ | refine r_fdvI ?_ ?_ | refine r_powI ?_ ?_)); decide) | dsimp only [endP])
    refine (draw_ok h (by decide) (by decide)).to ?_
    rintro _ s1 ⟨r, rfl, q0, q1, P1, x1⟩
    repeat (first | with_reducible (first | refine zs_seq ?_ | refine zs_asg ?_ | refine zs_drop ?_ | refine zs_ret ?_ | refine zs_retN ?_ | refine zs_next ?_ | refine zs_brk ?_ | refine zs_cnt ?_ | refine zs_if ?_ | refine zs_for ?_ | refine zs_while ?_ | refine z_true ?_ | refine z_false ?_ | refine r_k ?_ | refine r_op ?_ | refine r_un ?_ | refine r_nil ?_ | refine r_cons ?_ | refine r_tup ?_ | refine r_ptp ?_ | refine r_lst ?_ | refine r_ife ?_ | refine r_if1 ?_ | refine r_if0 ?_ | refine r_and ?_ | refine r_or ?_ | refine r_not ?_ | refine r_bool ?_ | refine r_asB ?_ | refine r_tru ?_ | refine r_truB ?_ | refine r_truI ?_ | refine r_andV ?_ | refine r_orV ?_ | refine r_andV1 ?_ | refine r_andV0 ?_ | refine r_orV1 ?_ | refine r_orV0 ?_ | refine r_notV ?_ | refine r_call ?_ | refine r_meth ?_ | refine r_addI ?_ | refine r_subI ?_ | refine r_negI ?_ | refine r_andI ?_ | refine r_ltI ?_ | refine r_gtI ?_ | refine r_leI ?_ | refine r_geI ?_ | refine r_eqI ?_ | refine r_eqS ?_ | refine r_neI ?_ | refine r_neS ?_ | refine r_is0 ?_ | refine r_is1 ?_ | refine r_is2 ?_ | refine r_is3 ?_ | refine r_isn0 ?_ | refine r_isn1 ?_ | refine r_isn2 ?_ | refine r_isn3 ?_ | refine r_lenT ?_ | refine r_intI ?_ | refine r_absI ?_ | refine r_sl ?_ | refine r_no ?_ | refine r_part ?_ | refine r_asP ?_ | refine r_slT ?_ | refine r_slR ?_ | refine r_iter ?_ | refine r_asT ?_ | refine r_asPt ?_ | refine r_asRo ?_ | refine r_rng1 ?_ | refine r_gNm ?_ | refine r_gIx ?_ | refine r_comp ?_ | refine r_chain ?_ | refine r_chn1 ?_ | refine r_chn0 ?_ | refine r_isi ?_ | refine r_newL ?_ | refine r_ok ?_) | ((with_reducible (first | refine e_var ?_ | refine e_ixT ?_ | refine e_gTp ?_)); refine ⟨_, rfl, ?_⟩) | ((with_reducible (first | refine r_mkT ?_ ?_ | refine r_mkP ?_ ?_ | refine r_mkL ?_ ?_)); exact Nat.le_of_ble_eq_true rfl) | ((with_reducible (first | refine e_mth ?_ | refine e_lenO ?_ | refine e_asO ?_ | refine e_truO ?_ | refine e_tupleO ?_ | refine e_tupleP ?_ | refine e_slO ?_ | refine e_reverse ?_ | refine e_listO ?_)); refine ⟨_, (by assumption), ?_⟩) | ((with_reducible (first | refine e_ixO ?_ | refine e_set ?_)); refine ⟨_, (by assumption), _, rfl, ?_⟩) | ((with_reducible (first | refine r_mulI ?_ ?_)); first | exact mul_ok (Or.inr (by decide)) | exact mul_ok (Or.inl (by decide))) | ((with_reducible (first | refine r_modI ?_ ?_ | refine r_fdvI ?_ ?_ | refine r_powI ?_ ?_)); decide) | dsimp only [endP])
    refine r_asR1 (by omega) ?_
    refine rw_comp r.toNat (fun i acc s => ∃ ss : List Sp, acc = ss.map Sp.d ∧ ss.length = i ∧ Bx p c s ∧ Ext [p] st s) (lt_fuel (by omega)) ⟨[], rfl, rfl, P1, x1⟩ ?_ ?_
    · rintro i acc s hi ⟨ss, rfl, hl, P, x⟩
      refine ⟨_, _, itR_in (by omega), rfl, ?_⟩
      refine r_ok ⟨fun _ => ?_, fun z => by cases z⟩
      repeat (first | with_reducible (first | refine zs_seq ?_ | refine zs_asg ?_ | refine zs_drop ?_ | refine zs_ret ?_ | refine zs_retN ?_ | refine zs_next ?_ | refine zs_brk ?_ | refine zs_cnt ?_ | refine zs_if ?_ | refine zs_for ?_ | refine zs_while ?_ | refine z_true ?_ | refine z_false ?_ | refine r_k ?_ | refine r_op ?_ | refine r_un ?_ | refine r_nil ?_ | refine r_cons ?_ | refine r_tup ?_ | refine r_ptp ?_ | refine r_lst ?_ | refine r_ife ?_ | refine r_if1 ?_ | refine r_if0 ?_ | refine r_and ?_ | refine r_or ?_ | refine r_not ?_ | refine r_bool ?_ | refine r_asB ?_ | refine r_tru ?_ | refine r_truB ?_ | refine r_truI ?_ | refine r_andV ?_ | refine r_orV ?_ | refine r_andV1 ?_ | refine r_andV0 ?_ | refine r_orV1 ?_ | refine r_orV0 ?_ | refine r_notV ?_ | refine r_call ?_ | refine r_meth ?_ | refine r_addI ?_ | refine r_subI ?_ | refine r_negI ?_ | refine r_andI ?_ | refine r_ltI ?_ | refine r_gtI ?_ | refine r_leI ?_ | refine r_geI ?_ | refine r_eqI ?_ | refine r_eqS ?_ | refine r_neI ?_ | refine r_neS ?_ | refine r_is0 ?_ | refine r_is1 ?_ | refine r_is2 ?_ | refine r_is3 ?_ | refine r_isn0 ?_ | refine r_isn1 ?_ | refine r_isn2 ?_ | refine r_isn3 ?_ | refine r_lenT ?_ | refine r_intI ?_ | refine r_absI ?_ | refine r_sl ?_ | refine r_no ?_ | refine r_part ?_ | refine r_asP ?_ | refine r_slT ?_ | refine r_slR ?_ | refine r_iter ?_ | refine r_asT ?_ | refine r_asPt ?_ | refine r_asRo ?_ | refine r_rng1 ?_ | refine r_gNm ?_ | refine r_gIx ?_ | refine r_comp ?_ | refine r_chain ?_ | refine r_chn1 ?_ | refine r_chn0 ?_ | refine r_isi ?_ | refine r_newL ?_ | refine r_ok ?_) | ((with_reducible (first | refine e_var ?_ | refine e_ixT ?_ | refine e_gTp ?_)); refine ⟨_, rfl, ?_⟩) | ((with_reducible (first | refine r_mkT ?_ ?_ | refine r_mkP ?_ ?_ | refine r_mkL ?_ ?_)); exact Nat.le_of_ble_eq_true rfl) | ((with_reducible (first | refine e_mth ?_ | refine e_lenO ?_ | refine e_asO ?_ | refine e_truO ?_ | refine e_tupleO ?_ | refine e_tupleP ?_ | refine e_slO ?_ | refine e_reverse ?_ | refine e_listO ?_)); refine ⟨_, (by assumption), ?_⟩) | ((with_reducible (first | refine e_ixO ?_ | refine e_set ?_)); refine ⟨_, (by assumption), _, rfl, ?_⟩) | ((with_reducible (first | refine r_mulI ?_ ?_)); first | exact mul_ok (Or.inr (by decide)) | exact mul_ok (Or.inl (by decide))) | ((with_reducible (first | refine r_modI ?_ ?_ | refine r_fdvI ?_ ?_ | refine r_powI ?_ ?_)); decide) | dsimp only [endP])
      refine (draw_ok P (by decide) (by decide)).to ?_
      rintro _ s2 ⟨r2, rfl, _, _, P2, x2⟩
      repeat (first | with_reducible (first | refine zs_seq ?_ | refine zs_asg ?_ | refine zs_drop ?_ | refine zs_ret ?_ | refine zs_retN ?_ | refine zs_next ?_ | refine zs_brk ?_ | refine zs_cnt ?_ | refine zs_if ?_ | refine zs_for ?_ | refine zs_while ?_ | refine z_true ?_ | refine z_false ?_ | refine r_k ?_ | refine r_op ?_ | refine r_un ?_ | refine r_nil ?_ | refine r_cons ?_ | refine r_tup ?_ | refine r_ptp ?_ | refine r_lst ?_ | refine r_ife ?_ | refine r_if1 ?_ | refine r_if0 ?_ | refine r_and ?_ | refine r_or ?_ | refine r_not ?_ | refine r_bool ?_ | refine r_asB ?_ | refine r_tru ?_ | refine r_truB ?_ | refine r_truI ?_ | refine r_andV ?_ | refine r_orV ?_ | refine r_andV1 ?_ | refine r_andV0 ?_ | refine r_orV1 ?_ | refine r_orV0 ?_ | refine r_notV ?_ | refine r_call ?_ | refine r_meth ?_ | refine r_addI ?_ | refine r_subI ?_ | refine r_negI ?_ | refine r_andI ?_ | refine r_ltI ?_ | refine r_gtI ?_ | refine r_leI ?_ | refine r_geI ?_ | refine r_eqI ?_ | refine r_eqS ?_ | refine r_neI ?_ | refine r_neS ?_ | refine r_is0 ?_ | refine r_is1 ?_ | refine r_is2 ?_ | refine r_is3 ?_ | refine r_isn0 ?_ | refine r_isn1 ?_ | refine r_isn2 ?_ | refine r_isn3 ?_ | refine r_lenT ?_ | refine r_intI ?_ | refine r_absI ?_ | refine r_sl ?_ | refine r_no ?_ | refine r_part ?_ | refine r_asP ?_ | refine r_slT ?_ | refine r_slR ?_ | refine r_iter ?_ | refine r_asT ?_ | refine r_asPt ?_ | refine r_asRo ?_ | refine r_rng1 ?_ | refine r_gNm ?_ | refine r_gIx ?_ | refine r_comp ?_ | refine r_chain ?_ | refine r_chn1 ?_ | refine r_chn0 ?_ | refine r_isi ?_ | refine r_newL ?_ | refine r_ok ?_) | ((with_reducible (first | refine e_var ?_ | refine e_ixT ?_ | refine e_gTp ?_)); refine ⟨_, rfl, ?_⟩) | ((with_reducible (first | refine r_mkT ?_ ?_ | refine r_mkP ?_ ?_ | refine r_mkL ?_ ?_)); exact Nat.le_of_ble_eq_true rfl) | ((with_reducible (first | refine e_mth ?_ | refine e_lenO ?_ | refine e_asO ?_ | refine e_truO ?_ | refine e_tupleO ?_ | refine e_tupleP ?_ | refine e_slO ?_ | refine e_reverse ?_ | refine e_listO ?_)); refine ⟨_, (by assumption), ?_⟩) | ((with_reducible (first | refine e_ixO ?_ | refine e_set ?_)); refine ⟨_, (by assumption), _, rfl, ?_⟩) | ((with_reducible (first | refine r_mulI ?_ ?_)); first | exact mul_ok (Or.inr (by decide)) | exact mul_ok (Or.inl (by decide))) | ((with_reducible (first | refine r_modI ?_ ?_ | refine r_fdvI ?_ ?_ | refine r_powI ?_ ?_)); decide) | dsimp only [endP])
      exact ⟨lt_line (by simp; omega), ss ++ [.put r2], by simp [Sp.d], by simp [hl], P2, x.trans x2⟩
    · rintro acc s ⟨ss, rfl, hl, P, x⟩
      refine ⟨itR_end, ?_⟩
      repeat (first | with_reducible (first | refine zs_seq ?_ | refine zs_asg ?_ | refine zs_drop ?_ | refine zs_ret ?_ | refine zs_retN ?_ | refine zs_next ?_ | refine zs_brk ?_ | refine zs_cnt ?_ | refine zs_if ?_ | refine zs_for ?_ | refine zs_while ?_ | refine z_true ?_ | refine z_false ?_ | refine r_k ?_ | refine r_op ?_ | refine r_un ?_ | refine r_nil ?_ | refine r_cons ?_ | refine r_tup ?_ | refine r_ptp ?_ | refine r_lst ?_ | refine r_ife ?_ | refine r_if1 ?_ | refine r_if0 ?_ | refine r_and ?_ | refine r_or ?_ | refine r_not ?_ | refine r_bool ?_ | refine r_asB ?_ | refine r_tru ?_ | refine r_truB ?_ | refine r_truI ?_ | refine r_andV ?_ | refine r_orV ?_ | refine r_andV1 ?_ | refine r_andV0 ?_ | refine r_orV1 ?_ | refine r_orV0 ?_ | refine r_notV ?_ | refine r_call ?_ | refine r_meth ?_ | refine r_addI ?_ | refine r_subI ?_ | refine r_negI ?_ | refine r_andI ?_ | refine r_ltI ?_ | refine r_gtI ?_ | refine r_leI ?_ | refine r_geI ?_ | refine r_eqI ?_ | refine r_eqS ?_ | refine r_neI ?_ | refine r_neS ?_ | refine r_is0 ?_ | refine r_is1 ?_ | refine r_is2 ?_ | refine r_is3 ?_ | refine r_isn0 ?_ | refine r_isn1 ?_ | refine r_isn2 ?_ | refine r_isn3 ?_ | refine r_lenT ?_ | refine r_intI ?_ | refine r_absI ?_ | refine r_sl ?_ | refine r_no ?_ | refine r_part ?_ | refine r_asP ?_ | refine r_slT ?_ | refine r_slR ?_ | refine r_iter ?_ | refine r_asT ?_ | refine r_asPt ?_ | refine r_asRo ?_ | refine r_rng1 ?_ | refine r_gNm ?_ | refine r_gIx ?_ | refine r_comp ?_ | refine r_chain ?_ | refine r_chn1 ?_ | refine r_chn0 ?_ | refine r_isi ?_ | refine r_newL ?_ | refine r_ok ?_) | ((with_reducible (first | refine e_var ?_ | refine e_ixT ?_ | refine e_gTp ?_)); refine ⟨_, rfl, ?_⟩) | ((with_reducible (first | refine r_mkT ?_ ?_ | refine r_mkP ?_ ?_ | refine r_mkL ?_ ?_)); exact Nat.le_of_ble_eq_true rfl) | ((with_reducible (first | refine e_mth ?_ | refine e_lenO ?_ | refine e_asO ?_ | refine e_truO ?_ | refine e_tupleO ?_ | refine e_tupleP ?_ | refine e_slO ?_ | refine e_reverse ?_ | refine e_listO ?_)); refine ⟨_, (by assumption), ?_⟩) | ((with_reducible (first | refine e_ixO ?_ | refine e_set ?_)); refine ⟨_, (by assumption), _, rfl, ?_⟩) | ((with_reducible (first | refine r_mulI ?_ ?_)); first | exact mul_ok (Or.inr (by decide)) | exact mul_ok (Or.inl (by decide))) | ((with_reducible (first | refine r_modI ?_ ?_ | refine r_fdvI ?_ ?_ | refine r_powI ?_ ?_)); decide) | dsimp only [endP])
      refine r_tupleO push_at ?_
      repeat (first | with_reducible (first | refine zs_seq ?_ | refine zs_asg ?_ | refine zs_drop ?_ | refine zs_ret ?_ | refine zs_retN ?_ | refine zs_next ?_ | refine zs_brk ?_ | refine zs_cnt ?_ | refine zs_if ?_ | refine zs_for ?_ | refine zs_while ?_ | refine z_true ?_ | refine z_false ?_ | refine r_k ?_ | refine r_op ?_ | refine r_un ?_ | refine r_nil ?_ | refine r_cons ?_ | refine r_tup ?_ | refine r_ptp ?_ | refine r_lst ?_ | refine r_ife ?_ | refine r_if1 ?_ | refine r_if0 ?_ | refine r_and ?_ | refine r_or ?_ | refine r_not ?_ | refine r_bool ?_ | refine r_asB ?_ | refine r_tru ?_ | refine r_truB ?_ | refine r_truI ?_ | refine r_andV ?_ | refine r_orV ?_ | refine r_andV1 ?_ | refine r_andV0 ?_ | refine r_orV1 ?_ | refine r_orV0 ?_ | refine r_notV ?_ | refine r_call ?_ | refine r_meth ?_ | refine r_addI ?_ | refine r_subI ?_ | refine r_negI ?_ | refine r_andI ?_ | refine r_ltI ?_ | refine r_gtI ?_ | refine r_leI ?_ | refine r_geI ?_ | refine r_eqI ?_ | refine r_eqS ?_ | refine r_neI ?_ | refine r_neS ?_ | refine r_is0 ?_ | refine r_is1 ?_ | refine r_is2 ?_ | refine r_is3 ?_ | refine r_isn0 ?_ | refine r_isn1 ?_ | refine r_isn2 ?_ | refine r_isn3 ?_ | refine r_lenT ?_ | refine r_intI ?_ | refine r_absI ?_ | refine r_sl ?_ | refine r_no ?_ | refine r_part ?_ | refine r_asP ?_ | refine r_slT ?_ | refine r_slR ?_ | refine r_iter ?_ | refine r_asT ?_ | refine r_asPt ?_ | refine r_asRo ?_ | refine r_rng1 ?_ | refine r_gNm ?_ | refine r_gIx ?_ | refine r_comp ?_ | refine r_chain ?_ | refine r_chn1 ?_ | refine r_chn0 ?_ | refine r_isi ?_ | refine r_newL ?_ | refine r_ok ?_) | ((with_reducible (first | refine e_var ?_ | refine e_ixT ?_ | refine e_gTp ?_)); refine ⟨_, rfl, ?_⟩) | ((with_reducible (first | refine r_mkT ?_ ?_ | refine r_mkP ?_ ?_ | refine r_mkL ?_ ?_)); exact Nat.le_of_ble_eq_true rfl) | ((with_reducible (first | refine e_mth ?_ | refine e_lenO ?_ | refine e_asO ?_ | refine e_truO ?_ | refine e_tupleO ?_ | refine e_tupleP ?_ | refine e_slO ?_ | refine e_reverse ?_ | refine e_listO ?_)); refine ⟨_, (by assumption), ?_⟩) | ((with_reducible (first | refine e_ixO ?_ | refine e_set ?_)); refine ⟨_, (by assumption), _, rfl, ?_⟩) | ((with_reducible (first | refine r_mulI ?_ ?_)); first | exact mul_ok (Or.inr (by decide)) | exact mul_ok (Or.inl (by decide))) | ((with_reducible (first | refine r_modI ?_ ?_ | refine r_fdvI ?_ ?_ | refine r_powI ?_ ?_)); decide) | dsimp only [endP])
      exact ⟨ss, rfl, by omega, P.ext Ext.push, x.trans Ext.push⟩
  repeat (first | with_reducible (first | refine zs_seq ?_ | refine zs_asg ?_ | refine zs_drop ?_ | refine zs_ret ?_ | refine zs_retN ?_ | refine zs_next ?_ | refine zs_brk ?_ | refine zs_cnt ?_ | refine zs_if ?_ | refine zs_for ?_ | refine zs_while ?_ | refine z_true ?_ | refine z_false ?_ | refine r_k ?_ | refine r_op ?_ | refine r_un ?_ | refine r_nil ?_ | refine r_cons ?_ | refine r_tup ?_ | refine r_ptp ?_ | refine r_lst ?_ | refine r_ife ?_ | refine r_if1 ?_ | refine r_if0 ?_ | refine r_and ?_ | refine r_or ?_ | refine r_not ?_ | refine r_bool ?_ | refine r_asB ?_ | refine r_tru ?_ | refine r_truB ?_ | refine r_truI ?_ | refine r_andV ?_ | refine r_orV ?_ | refine r_andV1 ?_ | refine r_andV0 ?_ | refine r_orV1 ?_ | refine r_orV0 ?_ | refine r_notV ?_ | refine r_call ?_ | refine r_meth ?_ | refine r_addI ?_ | refine r_subI ?_ | refine r_negI ?_ | refine r_andI ?_ | refine r_ltI ?_ | refine r_gtI ?_ | refine r_leI ?_ | refine r_geI ?_ | refine r_eqI ?_ | refine r_eqS ?_ | refine r_neI ?_ | refine r_neS ?_ | refine r_is0 ?_ | refine r_is1 ?_ | refine r_is2 ?_ | refine r_is3 ?_ | refine r_isn0 ?_ | refine r_isn1 ?_ | refine r_isn2 ?_ | refine r_isn3 ?_ | refine r_lenT ?_ | refine r_intI ?_ | refine r_absI ?_ | refine r_sl ?_ | refine r_no ?_ | refine r_part ?_ | refine r_asP ?_ | refine r_slT ?_ | refine r_slR ?_ | refine r_iter ?_ | refine r_asT ?_ | refine r_asPt ?_ | refine r_asRo ?_ | refine r_rng1 ?_ | refine r_gNm ?_ | refine r_gIx ?_ | refine r_comp ?_ | refine r_chain ?_ | refine r_chn1 ?_ | refine r_chn0 ?_ | refine r_isi ?_ | refine r_newL ?_ | refine r_ok ?_) | ((with_reducible (first | refine e_var ?_ | refine e_ixT ?_ | refine e_gTp ?_)); refine ⟨_, rfl, ?_⟩) | ((with_reducible (first | refine r_mkT ?_ ?_ | refine r_mkP ?_ ?_ | refine r_mkL ?_ ?_)); exact Nat.le_of_ble_eq_true rfl) | ((with_reducible (first | refine e_mth ?_ | refine e_lenO ?_ | refine e_asO ?_ | refine e_truO ?_ | refine e_tupleO ?_ | refine e_tupleP ?_ | refine e_slO ?_ | refine e_reverse ?_ | refine e_listO ?_)); refine ⟨_, (by assumption), ?_⟩) | ((with_reducible (first | refine e_ixO ?_ | refine e_set ?_)); refine ⟨_, (by assumption), _, rfl, ?_⟩) | ((with_reducible (first | refine r_mulI ?_ ?_)); first | exact mul_ok (Or.inr (by decide)) | exact mul_ok (Or.inl (by decide))) | ((with_reducible (first | refine r_modI ?_ ?_ | refine r_fdvI ?_ ?_ | refine r_powI ?_ ?_)); decide) | dsimp only [endP])
  refine z_dec (fun hw => ?_) (fun hw => ?_)
  · repeat (first | with_reducible (first | refine zs_seq ?_ | refine zs_asg ?_ | refine zs_drop ?_ | refine zs_ret ?_ | refine zs_retN ?_ | refine zs_next ?_ | refine zs_brk ?_ | refine zs_cnt ?_ | refine zs_if ?_ | refine zs_for ?_ | refine zs_while ?_ | refine z_true ?_ | refine z_false ?_ | refine r_k ?_ | refine r_op ?_ | refine r_un ?_ | refine r_nil ?_ | refine r_cons ?_ | refine r_tup ?_ | refine r_ptp ?_ | refine r_lst ?_ | refine r_ife ?_ | refine r_if1 ?_ | refine r_if0 ?_ | refine r_and ?_ | refine r_or ?_ | refine r_not ?_ | refine r_bool ?_ | refine r_asB ?_ | refine r_tru ?_ | refine r_truB ?_ | refine r_truI ?_ | refine r_andV ?_ | refine r_orV ?_ | refine r_andV1 ?_ | refine r_andV0 ?_ | refine r_orV1 ?_ | refine r_orV0 ?_ | refine r_notV ?_ | refine r_call ?_ | refine r_meth ?_ | refine r_addI ?_ | refine r_subI ?_ | refine r_negI ?_ | refine r_andI ?_ | refine r_ltI ?_ | refine r_gtI ?_ | refine r_leI ?_ | refine r_geI ?_ | refine r_eqI ?_ | refine r_eqS ?_ | refine r_neI ?_ | refine r_neS ?_ | refine r_is0 ?_ | refine r_is1 ?_ | refine r_is2 ?_ | refine r_is3 ?_ | refine r_isn0 ?_ | refine r_isn1 ?_ | refine r_isn2 ?_ | refine r_isn3 ?_ | refine r_lenT ?_ | refine r_intI ?_ | refine r_absI ?_ | refine r_sl ?_ | refine r_no ?_ | refine r_part ?_ | refine r_asP ?_ | refine r_slT ?_ | refine r_slR ?_ | refine r_iter ?_ | refine r_asT ?_ | refine r_asPt ?_ | refine r_asRo ?_ | refine r_rng1 ?_ | refine r_gNm ?_ | refine r_gIx ?_ | refine r_comp ?_ | refine r_chain ?_ | refine r_chn1 ?_ | refine r_chn0 ?_ | refine r_isi ?_ | refine r_newL ?_ | refine r_ok ?_) | ((with_reducible (first | refine e_var ?_ | refine e_ixT ?_ | refine e_gTp ?_)); refine ⟨_, rfl, ?_⟩) | ((with_reducible (first | refine r_mkT ?_ ?_ | refine r_mkP ?_ ?_ | refine r_mkL ?_ ?_)); exact Nat.le_of_ble_eq_true rfl) | ((with_reducible (first | refine e_mth ?_ | refine e_lenO ?_ | refine e_asO ?_ | refine e_truO ?_ | refine e_tupleO ?_ | refine e_tupleP ?_ | refine e_slO ?_ | refine e_reverse ?_ | refine e_listO ?_)); refine ⟨_, (by assumption), ?_⟩) | ((with_reducible (first | refine e_ixO ?_ | refine e_set ?_)); refine ⟨_, (by assumption), _, rfl, ?_⟩) | ((with_reducible (first | refine r_mulI ?_ ?_)); first | exact mul_ok (Or.inr (by decide)) | exact mul_ok (Or.inl (by decide))) | ((with_reducible (first | refine r_modI ?_ ?_ | refine r_fdvI ?_ ?_ | refine r_powI ?_ ?_)); decide) | dsimp only [endP])
    refine (draw_ok (h.ext Ext.push) (by decide) (by decide)).to ?_
    rintro _ s1 ⟨r, rfl, q0, q1, P1, x1⟩
    repeat (first | with_reducible (first | refine zs_seq ?_ | refine zs_asg ?_ | refine zs_drop ?_ | refine zs_ret ?_ | refine zs_retN ?_ | refine zs_next ?_ | refine zs_brk ?_ | refine zs_cnt ?_ | refine zs_if ?_ | refine zs_for ?_ | refine zs_while ?_ | refine z_true ?_ | refine z_false ?_ | refine r_k ?_ | refine r_op ?_ | refine r_un ?_ | refine r_nil ?_ | refine r_cons ?_ | refine r_tup ?_ | refine r_ptp ?_ | refine r_lst ?_ | refine r_ife ?_ | refine r_if1 ?_ | refine r_if0 ?_ | refine r_and ?_ | refine r_or ?_ | refine r_not ?_ | refine r_bool ?_ | refine r_asB ?_ | refine r_tru ?_ | refine r_truB ?_ | refine r_truI ?_ | refine r_andV ?_ | refine r_orV ?_ | refine r_andV1 ?_ | refine r_andV0 ?_ | refine r_orV1 ?_ | refine r_orV0 ?_ | refine r_notV ?_ | refine r_call ?_ | refine r_meth ?_ | refine r_addI ?_ | refine r_subI ?_ | refine r_negI ?_ | refine r_andI ?_ | refine r_ltI ?_ | refine r_gtI ?_ | refine r_leI ?_ | refine r_geI ?_ | refine r_eqI ?_ | refine r_eqS ?_ | refine r_neI ?_ | refine r_neS ?_ | refine r_is0 ?_ | refine r_is1 ?_ | refine r_is2 ?_ | refine r_is3 ?_ | refine r_isn0 ?_ | refine r_isn1 ?_ | refine r_isn2 ?_ | refine r_isn3 ?_ | refine r_lenT ?_ | refine r_intI ?_ | refine r_absI ?_ | refine r_sl ?_ | refine r_no ?_ | refine r_part ?_ | refine r_asP ?_ | refine r_slT ?_ | refine r_slR ?_ | refine r_iter ?_ | refine r_asT ?_ | refine r_asPt ?_ | refine r_asRo ?_ | refine r_rng1 ?_ | refine r_gNm ?_ | refine r_gIx ?_ | refine r_comp ?_ | refine r_chain ?_ | refine r_chn1 ?_ | refine r_chn0 ?_ | refine r_isi ?_ | refine r_newL ?_ | refine r_ok ?_) | ((with_reducible (first | refine e_var ?_ | refine e_ixT ?_ | refine e_gTp ?_)); refine ⟨_, rfl, ?_⟩) | ((with_reducible (first | refine r_mkT ?_ ?_ | refine r_mkP ?_ ?_ | refine r_mkL ?_ ?_)); exact Nat.le_of_ble_eq_true rfl) | ((with_reducible (first | refine e_mth ?_ | refine e_lenO ?_ | refine e_asO ?_ | refine e_truO ?_ | refine e_tupleO ?_ | refine e_tupleP ?_ | refine e_slO ?_ | refine e_reverse ?_ | refine e_listO ?_)); refine ⟨_, (by assumption), ?_⟩) | ((with_reducible (first | refine e_ixO ?_ | refine e_set ?_)); refine ⟨_, (by assumption), _, rfl, ?_⟩) | ((with_reducible (first | refine r_mulI ?_ ?_)); first | exact mul_ok (Or.inr (by decide)) | exact mul_ok (Or.inl (by decide))) | ((with_reducible (first | refine r_modI ?_ ?_ | refine r_fdvI ?_ ?_ | refine r_powI ?_ ?_)); decide) | dsimp only [endP])
    refine r_asR1 (by omega) ?_
    refine zw_for r.toNat (fun i e s => (∃ y z : Option D, e = [some (.obj p), some (.tup (ns.map D.int)), some (.int way), some (.obj st.length), y, z, none, none]) ∧ ∃ ss : List Sp, s[st.length]? = some (.lst (ss.map Sp.d)) ∧ ss.length ≤ i ∧ Bx p c s ∧ Ext [p] st s) (lt_fuel (by omega)) ?_ ?_ ?_
    · exact ⟨⟨_, _, rfl⟩, [], x1.get push_at (by simp; omega), by simp, P1, (Ext.push (ps := [p])).trans x1⟩
    · rintro i _ s hi ⟨⟨y, z, rfl⟩, ss, hs, hl, P, x⟩
      refine ⟨_, itR_in (by omega), ?_⟩
      repeat (first | with_reducible (first | refine zs_seq ?_ | refine zs_asg ?_ | refine zs_drop ?_ | refine zs_ret ?_ | refine zs_retN ?_ | refine zs_next ?_ | refine zs_brk ?_ | refine zs_cnt ?_ | refine zs_if ?_ | refine zs_for ?_ | refine zs_while ?_ | refine z_true ?_ | refine z_false ?_ | refine r_k ?_ | refine r_op ?_ | refine r_un ?_ | refine r_nil ?_ | refine r_cons ?_ | refine r_tup ?_ | refine r_ptp ?_ | refine r_lst ?_ | refine r_ife ?_ | refine r_if1 ?_ | refine r_if0 ?_ | refine r_and ?_ | refine r_or ?_ | refine r_not ?_ | refine r_bool ?_ | refine r_asB ?_ | refine r_tru ?_ | refine r_truB ?_ | refine r_truI ?_ | refine r_andV ?_ | refine r_orV ?_ | refine r_andV1 ?_ | refine r_andV0 ?_ | refine r_orV1 ?_ | refine r_orV0 ?_ | refine r_notV ?_ | refine r_call ?_ | refine r_meth ?_ | refine r_addI ?_ | refine r_subI ?_ | refine r_negI ?_ | refine r_andI ?_ | refine r_ltI ?_ | refine r_gtI ?_ | refine r_leI ?_ | refine r_geI ?_ | refine r_eqI ?_ | refine r_eqS ?_ | refine r_neI ?_ | refine r_neS ?_ | refine r_is0 ?_ | refine r_is1 ?_ | refine r_is2 ?_ | refine r_is3 ?_ | refine r_isn0 ?_ | refine r_isn1 ?_ | refine r_isn2 ?_ | refine r_isn3 ?_ | refine r_lenT ?_ | refine r_intI ?_ | refine r_absI ?_ | refine r_sl ?_ | refine r_no ?_ | refine r_part ?_ | refine r_asP ?_ | refine r_slT ?_ | refine r_slR ?_ | refine r_iter ?_ | refine r_asT ?_ | refine r_asPt ?_ | refine r_asRo ?_ | refine r_rng1 ?_ | refine r_gNm ?_ | refine r_gIx ?_ | refine r_comp ?_ | refine r_chain ?_ | refine r_chn1 ?_ | refine r_chn0 ?_ | refine r_isi ?_ | refine r_newL ?_ | refine r_ok ?_) | ((with_reducible (first | refine e_var ?_ | refine e_ixT ?_ | refine e_gTp ?_)); refine ⟨_, rfl, ?_⟩) | ((with_reducible (first | refine r_mkT ?_ ?_ | refine r_mkP ?_ ?_ | refine r_mkL ?_ ?_)); exact Nat.le_of_ble_eq_true rfl) | ((with_reducible (first | refine e_mth ?_ | refine e_lenO ?_ | refine e_asO ?_ | refine e_truO ?_ | refine e_tupleO ?_ | refine e_tupleP ?_ | refine e_slO ?_ | refine e_reverse ?_ | refine e_listO ?_)); refine ⟨_, (by assumption), ?_⟩) | ((with_reducible (first | refine e_ixO ?_ | refine e_set ?_)); refine ⟨_, (by assumption), _, rfl, ?_⟩) | ((with_reducible (first | refine r_mulI ?_ ?_)); first | exact mul_ok (Or.inr (by decide)) | exact mul_ok (Or.inl (by decide))) | ((with_reducible (first | refine r_modI ?_ ?_ | refine r_fdvI ?_ ?_ | refine r_powI ?_ ?_)); decide) | dsimp only [endP])
      refine (draw_ok P (by decide) (by decide)).to ?_
      rintro _ s2 ⟨r2, rfl, _, _, P2, x2⟩
      have hs2 := x2.get hs (by simp; omega)
      repeat (first | with_reducible (first | refine zq_asg ?_ | refine zq_drop ?_ | refine zs_asg ?_ | refine zs_drop ?_ | refine zs_ret ?_ | refine zs_retN ?_ | refine zs_next ?_ | refine zs_brk ?_ | refine zs_cnt ?_ | refine zs_if ?_ | refine zs_for ?_ | refine zs_while ?_ | refine z_true ?_ | refine z_false ?_ | refine r_k ?_ | refine r_op ?_ | refine r_un ?_ | refine r_nil ?_ | refine r_cons ?_ | refine r_tup ?_ | refine r_ptp ?_ | refine r_lst ?_ | refine r_ife ?_ | refine r_if1 ?_ | refine r_if0 ?_ | refine r_and ?_ | refine r_or ?_ | refine r_not ?_ | refine r_bool ?_ | refine r_asB ?_ | refine r_tru ?_ | refine r_truB ?_ | refine r_truI ?_ | refine r_andV ?_ | refine r_orV ?_ | refine r_andV1 ?_ | refine r_andV0 ?_ | refine r_orV1 ?_ | refine r_orV0 ?_ | refine r_notV ?_ | refine r_call ?_ | refine r_meth ?_ | refine r_addI ?_ | refine r_subI ?_ | refine r_negI ?_ | refine r_andI ?_ | refine r_ltI ?_ | refine r_gtI ?_ | refine r_leI ?_ | refine r_geI ?_ | refine r_eqI ?_ | refine r_eqS ?_ | refine r_neI ?_ | refine r_neS ?_ | refine r_is0 ?_ | refine r_is1 ?_ | refine r_is2 ?_ | refine r_is3 ?_ | refine r_isn0 ?_ | refine r_isn1 ?_ | refine r_isn2 ?_ | refine r_isn3 ?_ | refine r_lenT ?_ | refine r_intI ?_ | refine r_absI ?_ | refine r_sl ?_ | refine r_no ?_ | refine r_part ?_ | refine r_asP ?_ | refine r_slT ?_ | refine r_slR ?_ | refine r_iter ?_ | refine r_asT ?_ | refine r_asPt ?_ | refine r_asRo ?_ | refine r_rng1 ?_ | refine r_gNm ?_ | refine r_gIx ?_ | refine r_comp ?_ | refine r_chain ?_ | refine r_chn1 ?_ | refine r_chn0 ?_ | refine r_isi ?_ | refine r_newL ?_ | refine r_ok ?_) | ((with_reducible (first | refine e_var ?_ | refine e_ixT ?_ | refine e_gTp ?_)); refine ⟨_, rfl, ?_⟩) | ((with_reducible (first | refine r_mkT ?_ ?_ | refine r_mkP ?_ ?_ | refine r_mkL ?_ ?_)); exact Nat.le_of_ble_eq_true rfl) | ((with_reducible (first | refine e_mth ?_ | refine e_lenO ?_ | refine e_asO ?_ | refine e_truO ?_ | refine e_tupleO ?_ | refine e_tupleP ?_ | refine e_slO ?_ | refine e_reverse ?_ | refine e_listO ?_)); refine ⟨_, (by assumption), ?_⟩) | ((with_reducible (first | refine e_ixO ?_ | refine e_set ?_)); refine ⟨_, (by assumption), _, rfl, ?_⟩) | ((with_reducible (first | refine r_mulI ?_ ?_)); first | exact mul_ok (Or.inr (by decide)) | exact mul_ok (Or.inl (by decide))) | ((with_reducible (first | refine r_modI ?_ ?_ | refine r_fdvI ?_ ?_ | refine r_powI ?_ ?_)); decide) | dsimp only [endP])
      refine zs_seq (z_cut (fun e s => (∃ (y : Option D) (t : Sp), e = [some (.obj p), some (.tup (ns.map D.int)), some (.int way), some (.obj st.length), y, some t.d, none, none]) ∧ s[st.length]? = some (.lst (ss.map Sp.d)) ∧ Bx p c s ∧ Ext [p] st s) ?_ ?_)
      · repeat (first | with_reducible (first | refine zs_seq ?_ | refine zs_asg ?_ | refine zs_drop ?_ | refine zs_ret ?_ | refine zs_retN ?_ | refine zs_next ?_ | refine zs_brk ?_ | refine zs_cnt ?_ | refine zs_if ?_ | refine zs_for ?_ | refine zs_while ?_ | refine z_true ?_ | refine z_false ?_ | refine r_k ?_ | refine r_op ?_ | refine r_un ?_ | refine r_nil ?_ | refine r_cons ?_ | refine r_tup ?_ | refine r_ptp ?_ | refine r_lst ?_ | refine r_ife ?_ | refine r_if1 ?_ | refine r_if0 ?_ | refine r_and ?_ | refine r_or ?_ | refine r_not ?_ | refine r_bool ?_ | refine r_asB ?_ | refine r_tru ?_ | refine r_truB ?_ | refine r_truI ?_ | refine r_andV ?_ | refine r_orV ?_ | refine r_andV1 ?_ | refine r_andV0 ?_ | refine r_orV1 ?_ | refine r_orV0 ?_ | refine r_notV ?_ | refine r_call ?_ | refine r_meth ?_ | refine r_addI ?_ | refine r_subI ?_ | refine r_negI ?_ | refine r_andI ?_ | refine r_ltI ?_ | refine r_gtI ?_ | refine r_leI ?_ | refine r_geI ?_ | refine r_eqI ?_ | refine r_eqS ?_ | refine r_neI ?_ | refine r_neS ?_ | refine r_is0 ?_ | refine r_is1 ?_ | refine r_is2 ?_ | refine r_is3 ?_ | refine r_isn0 ?_ | refine r_isn1 ?_ | refine r_isn2 ?_ | refine r_isn3 ?_ | refine r_lenT ?_ | refine r_intI ?_ | refine r_absI ?_ | refine r_sl ?_ | refine r_no ?_ | refine r_part ?_ | refine r_asP ?_ | refine r_slT ?_ | refine r_slR ?_ | refine r_iter ?_ | refine r_asT ?_ | refine r_asPt ?_ | refine r_asRo ?_ | refine r_rng1 ?_ | refine r_gNm ?_ | refine r_gIx ?_ | refine r_comp ?_ | refine r_chain ?_ | refine r_chn1 ?_ | refine r_chn0 ?_ | refine r_isi ?_ | refine r_newL ?_ | refine r_ok ?_) | ((with_reducible (first | refine e_var ?_ | refine e_ixT ?_ | refine e_gTp ?_)); refine ⟨_, rfl, ?_⟩) | ((with_reducible (first | refine r_mkT ?_ ?_ | refine r_mkP ?_ ?_ | refine r_mkL ?_ ?_)); exact Nat.le_of_ble_eq_true rfl) | ((with_reducible (first | refine e_mth ?_ | refine e_lenO ?_ | refine e_asO ?_ | refine e_truO ?_ | refine e_tupleO ?_ | refine e_tupleP ?_ | refine e_slO ?_ | refine e_reverse ?_ | refine e_listO ?_)); refine ⟨_, (by assumption), ?_⟩) | ((with_reducible (first | refine e_ixO ?_ | refine e_set ?_)); refine ⟨_, (by assumption), _, rfl, ?_⟩) | ((with_reducible (first | refine r_mulI ?_ ?_)); first | exact mul_ok (Or.inr (by decide)) | exact mul_ok (Or.inl (by decide))) | ((with_reducible (first | refine r_modI ?_ ?_ | refine r_fdvI ?_ ?_ | refine r_powI ?_ ?_)); decide) | dsimp only [endP])
        refine (draw_ok P2 (by decide) (by decide)).to ?_
        rintro _ s3 ⟨r3, rfl, _, _, P3, x3⟩
        have hs3 := x3.get hs2 (by simp; omega)
        repeat (first | with_reducible (first | refine zs_seq ?_ | refine zs_asg ?_ | refine zs_drop ?_ | refine zs_ret ?_ | refine zs_retN ?_ | refine zs_next ?_ | refine zs_brk ?_ | refine zs_cnt ?_ | refine zs_if ?_ | refine zs_for ?_ | refine zs_while ?_ | refine z_true ?_ | refine z_false ?_ | refine r_k ?_ | refine r_op ?_ | refine r_un ?_ | refine r_nil ?_ | refine r_cons ?_ | refine r_tup ?_ | refine r_ptp ?_ | refine r_lst ?_ | refine r_ife ?_ | refine r_if1 ?_ | refine r_if0 ?_ | refine r_and ?_ | refine r_or ?_ | refine r_not ?_ | refine r_bool ?_ | refine r_asB ?_ | refine r_tru ?_ | refine r_truB ?_ | refine r_truI ?_ | refine r_andV ?_ | refine r_orV ?_ | refine r_andV1 ?_ | refine r_andV0 ?_ | refine r_orV1 ?_ | refine r_orV0 ?_ | refine r_notV ?_ | refine r_call ?_ | refine r_meth ?_ | refine r_addI ?_ | refine r_subI ?_ | refine r_negI ?_ | refine r_andI ?_ | refine r_ltI ?_ | refine r_gtI ?_ | refine r_leI ?_ | refine r_geI ?_ | refine r_eqI ?_ | refine r_eqS ?_ | refine r_neI ?_ | refine r_neS ?_ | refine r_is0 ?_ | refine r_is1 ?_ | refine r_is2 ?_ | refine r_is3 ?_ | refine r_isn0 ?_ | refine r_isn1 ?_ | refine r_isn2 ?_ | refine r_isn3 ?_ | refine r_lenT ?_ | refine r_intI ?_ | refine r_absI ?_ | refine r_sl ?_ | refine r_no ?_ | refine r_part ?_ | refine r_asP ?_ | refine r_slT ?_ | refine r_slR ?_ | refine r_iter ?_ | refine r_asT ?_ | refine r_asPt ?_ | refine r_asRo ?_ | refine r_rng1 ?_ | refine r_gNm ?_ | refine r_gIx ?_ | refine r_comp ?_ | refine r_chain ?_ | refine r_chn1 ?_ | refine r_chn0 ?_ | refine r_isi ?_ | refine r_newL ?_ | refine r_ok ?_) | ((with_reducible (first | refine e_var ?_ | refine e_ixT ?_ | refine e_gTp ?_)); refine ⟨_, rfl, ?_⟩) | ((with_reducible (first | refine r_mkT ?_ ?_ | refine r_mkP ?_ ?_ | refine r_mkL ?_ ?_)); exact Nat.le_of_ble_eq_true rfl) | ((with_reducible (first | refine e_mth ?_ | refine e_lenO ?_ | refine e_asO ?_ | refine e_truO ?_ | refine e_tupleO ?_ | refine e_tupleP ?_ | refine e_slO ?_ | refine e_reverse ?_ | refine e_listO ?_)); refine ⟨_, (by assumption), ?_⟩) | ((with_reducible (first | refine e_ixO ?_ | refine e_set ?_)); refine ⟨_, (by assumption), _, rfl, ?_⟩) | ((with_reducible (first | refine r_mulI ?_ ?_)); first | exact mul_ok (Or.inr (by decide)) | exact mul_ok (Or.inl (by decide))) | ((with_reducible (first | refine r_modI ?_ ?_ | refine r_fdvI ?_ ?_ | refine r_powI ?_ ?_)); decide) | dsimp only [endP])
        refine z_dec (fun hr => ?_) (fun hr => ?_)
        · repeat (first | with_reducible (first | refine zs_seq ?_ | refine zs_asg ?_ | refine zs_drop ?_ | refine zs_ret ?_ | refine zs_retN ?_ | refine zs_next ?_ | refine zs_brk ?_ | refine zs_cnt ?_ | refine zs_if ?_ | refine zs_for ?_ | refine zs_while ?_ | refine z_true ?_ | refine z_false ?_ | refine r_k ?_ | refine r_op ?_ | refine r_un ?_ | refine r_nil ?_ | refine r_cons ?_ | refine r_tup ?_ | refine r_ptp ?_ | refine r_lst ?_ | refine r_ife ?_ | refine r_if1 ?_ | refine r_if0 ?_ | refine r_and ?_ | refine r_or ?_ | refine r_not ?_ | refine r_bool ?_ | refine r_asB ?_ | refine r_tru ?_ | refine r_truB ?_ | refine r_truI ?_ | refine r_andV ?_ | refine r_orV ?_ | refine r_andV1 ?_ | refine r_andV0 ?_ | refine r_orV1 ?_ | refine r_orV0 ?_ | refine r_notV ?_ | refine r_call ?_ | refine r_meth ?_ | refine r_addI ?_ | refine r_subI ?_ | refine r_negI ?_ | refine r_andI ?_ | refine r_ltI ?_ | refine r_gtI ?_ | refine r_leI ?_ | refine r_geI ?_ | refine r_eqI ?_ | refine r_eqS ?_ | refine r_neI ?_ | refine r_neS ?_ | refine r_is0 ?_ | refine r_is1 ?_ | refine r_is2 ?_ | refine r_is3 ?_ | refine r_isn0 ?_ | refine r_isn1 ?_ | refine r_isn2 ?_ | refine r_isn3 ?_ | refine r_lenT ?_ | refine r_intI ?_ | refine r_absI ?_ | refine r_sl ?_ | refine r_no ?_ | refine r_part ?_ | refine r_asP ?_ | refine r_slT ?_ | refine r_slR ?_ | refine r_iter ?_ | refine r_asT ?_ | refine r_asPt ?_ | refine r_asRo ?_ | refine r_rng1 ?_ | refine r_gNm ?_ | refine r_gIx ?_ | refine r_comp ?_ | refine r_chain ?_ | refine r_chn1 ?_ | refine r_chn0 ?_ | refine r_isi ?_ | refine r_newL ?_ | refine r_ok ?_) | ((with_reducible (first | refine e_var ?_ | refine e_ixT ?_ | refine e_gTp ?_)); refine ⟨_, rfl, ?_⟩) | ((with_reducible (first | refine r_mkT ?_ ?_ | refine r_mkP ?_ ?_ | refine r_mkL ?_ ?_)); exact Nat.le_of_ble_eq_true rfl) | ((with_reducible (first | refine e_mth ?_ | refine e_lenO ?_ | refine e_asO ?_ | refine e_truO ?_ | refine e_tupleO ?_ | refine e_tupleP ?_ | refine e_slO ?_ | refine e_reverse ?_ | refine e_listO ?_)); refine ⟨_, (by assumption), ?_⟩) | ((with_reducible (first | refine e_ixO ?_ | refine e_set ?_)); refine ⟨_, (by assumption), _, rfl, ?_⟩) | ((with_reducible (first | refine r_mulI ?_ ?_)); first | exact mul_ok (Or.inr (by decide)) | exact mul_ok (Or.inl (by decide))) | ((with_reducible (first | refine r_modI ?_ ?_ | refine r_fdvI ?_ ?_ | refine r_powI ?_ ?_)); decide) | dsimp only [endP])
          refine (draw_ok P3 (by decide) (by decide)).to ?_
          rintro _ s4 ⟨r4, rfl, _, _, P4, x4⟩
          have hs4 := x4.get hs3 (by simp; omega)
          repeat (first | with_reducible (first | refine zs_seq ?_ | refine zs_asg ?_ | refine zs_drop ?_ | refine zs_ret ?_ | refine zs_retN ?_ | refine zs_next ?_ | refine zs_brk ?_ | refine zs_cnt ?_ | refine zs_if ?_ | refine zs_for ?_ | refine zs_while ?_ | refine z_true ?_ | refine z_false ?_ | refine r_k ?_ | refine r_op ?_ | refine r_un ?_ | refine r_nil ?_ | refine r_cons ?_ | refine r_tup ?_ | refine r_ptp ?_ | refine r_lst ?_ | refine r_ife ?_ | refine r_if1 ?_ | refine r_if0 ?_ | refine r_and ?_ | refine r_or ?_ | refine r_not ?_ | refine r_bool ?_ | refine r_asB ?_ | refine r_tru ?_ | refine r_truB ?_ | refine r_truI ?_ | refine r_andV ?_ | refine r_orV ?_ | refine r_andV1 ?_ | refine r_andV0 ?_ | refine r_orV1 ?_ | refine r_orV0 ?_ | refine r_notV ?_ | refine r_call ?_ | refine r_meth ?_ | refine r_addI ?_ | refine r_subI ?_ | refine r_negI ?_ | refine r_andI ?_ | refine r_ltI ?_ | refine r_gtI ?_ | refine r_leI ?_ | refine r_geI ?_ | refine r_eqI ?_ | refine r_eqS ?_ | refine r_neI ?_ | refine r_neS ?_ | refine r_is0 ?_ | refine r_is1 ?_ | refine r_is2 ?_ | refine r_is3 ?_ | refine r_isn0 ?_ | refine r_isn1 ?_ | refine r_isn2 ?_ | refine r_isn3 ?_ | refine r_lenT ?_ | refine r_intI ?_ | refine r_absI ?_ | refine r_sl ?_ | refine r_no ?_ | refine r_part ?_ | refine r_asP ?_ | refine r_slT ?_ | refine r_slR ?_ | refine r_iter ?_ | refine r_asT ?_ | refine r_asPt ?_ | refine r_asRo ?_ | refine r_rng1 ?_ | refine r_gNm ?_ | refine r_gIx ?_ | refine r_comp ?_ | refine r_chain ?_ | refine r_chn1 ?_ | refine r_chn0 ?_ | refine r_isi ?_ | refine r_newL ?_ | refine r_ok ?_) | ((with_reducible (first | refine e_var ?_ | refine e_ixT ?_ | refine e_gTp ?_)); refine ⟨_, rfl, ?_⟩) | ((with_reducible (first | refine r_mkT ?_ ?_ | refine r_mkP ?_ ?_ | refine r_mkL ?_ ?_)); exact Nat.le_of_ble_eq_true rfl) | ((with_reducible (first | refine e_mth ?_ | refine e_lenO ?_ | refine e_asO ?_ | refine e_truO ?_ | refine e_tupleO ?_ | refine e_tupleP ?_ | refine e_slO ?_ | refine e_reverse ?_ | refine e_listO ?_)); refine ⟨_, (by assumption), ?_⟩) | ((with_reducible (first | refine e_ixO ?_ | refine e_set ?_)); refine ⟨_, (by assumption), _, rfl, ?_⟩) | ((with_reducible (first | refine r_mulI ?_ ?_)); first | exact mul_ok (Or.inr (by decide)) | exact mul_ok (Or.inl (by decide))) | ((with_reducible (first | refine r_modI ?_ ?_ | refine r_fdvI ?_ ?_ | refine r_powI ?_ ?_)); decide) | dsimp only [endP])
          refine (taking_ok P4).to ?_
          rintro _ s5 ⟨t, rfl, htk, P5, x5⟩
          repeat (first | with_reducible (first | refine zs_seq ?_ | refine zs_asg ?_ | refine zs_drop ?_ | refine zs_ret ?_ | refine zs_retN ?_ | refine zs_next ?_ | refine zs_brk ?_ | refine zs_cnt ?_ | refine zs_if ?_ | refine zs_for ?_ | refine zs_while ?_ | refine z_true ?_ | refine z_false ?_ | refine r_k ?_ | refine r_op ?_ | refine r_un ?_ | refine r_nil ?_ | refine r_cons ?_ | refine r_tup ?_ | refine r_ptp ?_ | refine r_lst ?_ | refine r_ife ?_ | refine r_if1 ?_ | refine r_if0 ?_ | refine r_and ?_ | refine r_or ?_ | refine r_not ?_ | refine r_bool ?_ | refine r_asB ?_ | refine r_tru ?_ | refine r_truB ?_ | refine r_truI ?_ | refine r_andV ?_ | refine r_orV ?_ | refine r_andV1 ?_ | refine r_andV0 ?_ | refine r_orV1 ?_ | refine r_orV0 ?_ | refine r_notV ?_ | refine r_call ?_ | refine r_meth ?_ | refine r_addI ?_ | refine r_subI ?_ | refine r_negI ?_ | refine r_andI ?_ | refine r_ltI ?_ | refine r_gtI ?_ | refine r_leI ?_ | refine r_geI ?_ | refine r_eqI ?_ | refine r_eqS ?_ | refine r_neI ?_ | refine r_neS ?_ | refine r_is0 ?_ | refine r_is1 ?_ | refine r_is2 ?_ | refine r_is3 ?_ | refine r_isn0 ?_ | refine r_isn1 ?_ | refine r_isn2 ?_ | refine r_isn3 ?_ | refine r_lenT ?_ | refine r_intI ?_ | refine r_absI ?_ | refine r_sl ?_ | refine r_no ?_ | refine r_part ?_ | refine r_asP ?_ | refine r_slT ?_ | refine r_slR ?_ | refine r_iter ?_ | refine r_asT ?_ | refine r_asPt ?_ | refine r_asRo ?_ | refine r_rng1 ?_ | refine r_gNm ?_ | refine r_gIx ?_ | refine r_comp ?_ | refine r_chain ?_ | refine r_chn1 ?_ | refine r_chn0 ?_ | refine r_isi ?_ | refine r_newL ?_ | refine r_ok ?_) | ((with_reducible (first | refine e_var ?_ | refine e_ixT ?_ | refine e_gTp ?_)); refine ⟨_, rfl, ?_⟩) | ((with_reducible (first | refine r_mkT ?_ ?_ | refine r_mkP ?_ ?_ | refine r_mkL ?_ ?_)); exact Nat.le_of_ble_eq_true rfl) | ((with_reducible (first | refine e_mth ?_ | refine e_lenO ?_ | refine e_asO ?_ | refine e_truO ?_ | refine e_tupleO ?_ | refine e_tupleP ?_ | refine e_slO ?_ | refine e_reverse ?_ | refine e_listO ?_)); refine ⟨_, (by assumption), ?_⟩) | ((with_reducible (first | refine e_ixO ?_ | refine e_set ?_)); refine ⟨_, (by assumption), _, rfl, ?_⟩) | ((with_reducible (first | refine r_mulI ?_ ?_)); first | exact mul_ok (Or.inr (by decide)) | exact mul_ok (Or.inl (by decide))) | ((with_reducible (first | refine r_modI ?_ ?_ | refine r_fdvI ?_ ?_ | refine r_powI ?_ ?_)); decide) | dsimp only [endP])
          exact ⟨⟨_, t, rfl⟩, x5.get hs4 (by simp; omega), P5, (((x.trans x2).trans x3).trans x4).trans x5⟩
        · repeat (first | with_reducible (first | refine zs_seq ?_ | refine zs_asg ?_ | refine zs_drop ?_ | refine zs_ret ?_ | refine zs_retN ?_ | refine zs_next ?_ | refine zs_brk ?_ | refine zs_cnt ?_ | refine zs_if ?_ | refine zs_for ?_ | refine zs_while ?_ | refine z_true ?_ | refine z_false ?_ | refine r_k ?_ | refine r_op ?_ | refine r_un ?_ | refine r_nil ?_ | refine r_cons ?_ | refine r_tup ?_ | refine r_ptp ?_ | refine r_lst ?_ | refine r_ife ?_ | refine r_if1 ?_ | refine r_if0 ?_ | refine r_and ?_ | refine r_or ?_ | refine r_not ?_ | refine r_bool ?_ | refine r_asB ?_ | refine r_tru ?_ | refine r_truB ?_ | refine r_truI ?_ | refine r_andV ?_ | refine r_orV ?_ | refine r_andV1 ?_ | refine r_andV0 ?_ | refine r_orV1 ?_ | refine r_orV0 ?_ | refine r_notV ?_ | refine r_call ?_ | refine r_meth ?_ | refine r_addI ?_ | refine r_subI ?_ | refine r_negI ?_ | refine r_andI ?_ | refine r_ltI ?_ | refine r_gtI ?_ | refine r_leI ?_ | refine r_geI ?_ | refine r_eqI ?_ | refine r_eqS ?_ | refine r_neI ?_ | refine r_neS ?_ | refine r_is0 ?_ | refine r_is1 ?_ | refine r_is2 ?_ | refine r_is3 ?_ | refine r_isn0 ?_ | refine r_isn1 ?_ | refine r_isn2 ?_ | refine r_isn3 ?_ | refine r_lenT ?_ | refine r_intI ?_ | refine r_absI ?_ | refine r_sl ?_ | refine r_no ?_ | refine r_part ?_ | refine r_asP ?_ | refine r_slT ?_ | refine r_slR ?_ | refine r_iter ?_ | refine r_asT ?_ | refine r_asPt ?_ | refine r_asRo ?_ | refine r_rng1 ?_ | refine r_gNm ?_ | refine r_gIx ?_ | refine r_comp ?_ | refine r_chain ?_ | refine r_chn1 ?_ | refine r_chn0 ?_ | refine r_isi ?_ | refine r_newL ?_ | refine r_ok ?_) | ((with_reducible (first | refine e_var ?_ | refine e_ixT ?_ | refine e_gTp ?_)); refine ⟨_, rfl, ?_⟩) | ((with_reducible (first | refine r_mkT ?_ ?_ | refine r_mkP ?_ ?_ | refine r_mkL ?_ ?_)); exact Nat.le_of_ble_eq_true rfl) | ((with_reducible (first | refine e_mth ?_ | refine e_lenO ?_ | refine e_asO ?_ | refine e_truO ?_ | refine e_tupleO ?_ | refine e_tupleP ?_ | refine e_slO ?_ | refine e_reverse ?_ | refine e_listO ?_)); refine ⟨_, (by assumption), ?_⟩) | ((with_reducible (first | refine e_ixO ?_ | refine e_set ?_)); refine ⟨_, (by assumption), _, rfl, ?_⟩) | ((with_reducible (first | refine r_mulI ?_ ?_)); first | exact mul_ok (Or.inr (by decide)) | exact mul_ok (Or.inl (by decide))) | ((with_reducible (first | refine r_modI ?_ ?_ | refine r_fdvI ?_ ?_ | refine r_powI ?_ ?_)); decide) | dsimp only [endP])
          exact ⟨⟨_, .put r2, rfl⟩, hs3, P3, (x.trans x2).trans x3⟩
      · rintro _ s5 ⟨⟨y, t, rfl⟩, hs5, P5, x5⟩
        repeat (first | with_reducible (first | refine zs_seq ?_ | refine zs_asg ?_ | refine zs_drop ?_ | refine zs_ret ?_ | refine zs_retN ?_ | refine zs_next ?_ | refine zs_brk ?_ | refine zs_cnt ?_ | refine zs_if ?_ | refine zs_for ?_ | refine zs_while ?_ | refine z_true ?_ | refine z_false ?_ | refine r_k ?_ | refine r_op ?_ | refine r_un ?_ | refine r_nil ?_ | refine r_cons ?_ | refine r_tup ?_ | refine r_ptp ?_ | refine r_lst ?_ | refine r_ife ?_ | refine r_if1 ?_ | refine r_if0 ?_ | refine r_and ?_ | refine r_or ?_ | refine r_not ?_ | refine r_bool ?_ | refine r_asB ?_ | refine r_tru ?_ | refine r_truB ?_ | refine r_truI ?_ | refine r_andV ?_ | refine r_orV ?_ | refine r_andV1 ?_ | refine r_andV0 ?_ | refine r_orV1 ?_ | refine r_orV0 ?_ | refine r_notV ?_ | refine r_call ?_ | refine r_meth ?_ | refine r_addI ?_ | refine r_subI ?_ | refine r_negI ?_ | refine r_andI ?_ | refine r_ltI ?_ | refine r_gtI ?_ | refine r_leI ?_ | refine r_geI ?_ | refine r_eqI ?_ | refine r_eqS ?_ | refine r_neI ?_ | refine r_neS ?_ | refine r_is0 ?_ | refine r_is1 ?_ | refine r_is2 ?_ | refine r_is3 ?_ | refine r_isn0 ?_ | refine r_isn1 ?_ | refine r_isn2 ?_ | refine r_isn3 ?_ | refine r_lenT ?_ | refine r_intI ?_ | refine r_absI ?_ | refine r_sl ?_ | refine r_no ?_ | refine r_part ?_ | refine r_asP ?_ | refine r_slT ?_ | refine r_slR ?_ | refine r_iter ?_ | refine r_asT ?_ | refine r_asPt ?_ | refine r_asRo ?_ | refine r_rng1 ?_ | refine r_gNm ?_ | refine r_gIx ?_ | refine r_comp ?_ | refine r_chain ?_ | refine r_chn1 ?_ | refine r_chn0 ?_ | refine r_isi ?_ | refine r_newL ?_ | refine r_ok ?_) | ((with_reducible (first | refine e_var ?_ | refine e_ixT ?_ | refine e_gTp ?_)); refine ⟨_, rfl, ?_⟩) | ((with_reducible (first | refine r_mkT ?_ ?_ | refine r_mkP ?_ ?_ | refine r_mkL ?_ ?_)); exact Nat.le_of_ble_eq_true rfl) | ((with_reducible (first | refine e_mth ?_ | refine e_lenO ?_ | refine e_asO ?_ | refine e_truO ?_ | refine e_tupleO ?_ | refine e_tupleP ?_ | refine e_slO ?_ | refine e_reverse ?_ | refine e_listO ?_)); refine ⟨_, (by assumption), ?_⟩) | ((with_reducible (first | refine e_ixO ?_ | refine e_set ?_)); refine ⟨_, (by assumption), _, rfl, ?_⟩) | ((with_reducible (first | refine r_mulI ?_ ?_)); first | exact mul_ok (Or.inr (by decide)) | exact mul_ok (Or.inl (by decide))) | ((with_reducible (first | refine r_modI ?_ ?_ | refine r_fdvI ?_ ?_ | refine r_powI ?_ ?_)); decide) | dsimp only [endP])
        refine r_append hs5 (lt_line (by simp; omega)) ?_
        exact ⟨⟨_, _, rfl⟩, ss ++ [t], by rw [set_at hs5]; simp, by simp; omega, P5.set (by omega) (by omega), x5.setNew (Nat.le_refl _)⟩
    · rintro _ s ⟨⟨y, z, rfl⟩, ss, hs, hl, P, x⟩
      refine ⟨itR_end, ?_⟩
      repeat (first | with_reducible (first | refine zs_seq ?_ | refine zs_asg ?_ | refine zs_drop ?_ | refine zs_ret ?_ | refine zs_retN ?_ | refine zs_next ?_ | refine zs_brk ?_ | refine zs_cnt ?_ | refine zs_if ?_ | refine zs_for ?_ | refine zs_while ?_ | refine z_true ?_ | refine z_false ?_ | refine r_k ?_ | refine r_op ?_ | refine r_un ?_ | refine r_nil ?_ | refine r_cons ?_ | refine r_tup ?_ | refine r_ptp ?_ | refine r_lst ?_ | refine r_ife ?_ | refine r_if1 ?_ | refine r_if0 ?_ | refine r_and ?_ | refine r_or ?_ | refine r_not ?_ | refine r_bool ?_ | refine r_asB ?_ | refine r_tru ?_ | refine r_truB ?_ | refine r_truI ?_ | refine r_andV ?_ | refine r_orV ?_ | refine r_andV1 ?_ | refine r_andV0 ?_ | refine r_orV1 ?_ | refine r_orV0 ?_ | refine r_notV ?_ | refine r_call ?_ | refine r_meth ?_ | refine r_addI ?_ | refine r_subI ?_ | refine r_negI ?_ | refine r_andI ?_ | refine r_ltI ?_ | refine r_gtI ?_ | refine r_leI ?_ | refine r_geI ?_ | refine r_eqI ?_ | refine r_eqS ?_ | refine r_neI ?_ | refine r_neS ?_ | refine r_is0 ?_ | refine r_is1 ?_ | refine r_is2 ?_ | refine r_is3 ?_ | refine r_isn0 ?_ | refine r_isn1 ?_ | refine r_isn2 ?_ | refine r_isn3 ?_ | refine r_lenT ?_ | refine r_intI ?_ | refine r_absI ?_ | refine r_sl ?_ | refine r_no ?_ | refine r_part ?_ | refine r_asP ?_ | refine r_slT ?_ | refine r_slR ?_ | refine r_iter ?_ | refine r_asT ?_ | refine r_asPt ?_ | refine r_asRo ?_ | refine r_rng1 ?_ | refine r_gNm ?_ | refine r_gIx ?_ | refine r_comp ?_ | refine r_chain ?_ | refine r_chn1 ?_ | refine r_chn0 ?_ | refine r_isi ?_ | refine r_newL ?_ | refine r_ok ?_) | ((with_reducible (first | refine e_var ?_ | refine e_ixT ?_ | refine e_gTp ?_)); refine ⟨_, rfl, ?_⟩) | ((with_reducible (first | refine r_mkT ?_ ?_ | refine r_mkP ?_ ?_ | refine r_mkL ?_ ?_)); exact Nat.le_of_ble_eq_true rfl) | ((with_reducible (first | refine e_mth ?_ | refine e_lenO ?_ | refine e_asO ?_ | refine e_truO ?_ | refine e_tupleO ?_ | refine e_tupleP ?_ | refine e_slO ?_ | refine e_reverse ?_ | refine e_listO ?_)); refine ⟨_, (by assumption), ?_⟩) | ((with_reducible (first | refine e_ixO ?_ | refine e_set ?_)); refine ⟨_, (by assumption), _, rfl, ?_⟩) | ((with_reducible (first | refine r_mulI ?_ ?_)); first | exact mul_ok (Or.inr (by decide)) | exact mul_ok (Or.inl (by decide))) | ((with_reducible (first | refine r_modI ?_ ?_ | refine r_fdvI ?_ ?_ | refine r_powI ?_ ?_)); decide) | dsimp only [endP])
      exact ⟨ss, rfl, by omega, P, x⟩
  repeat (first | with_reducible (first | refine zs_seq ?_ | refine zs_asg ?_ | refine zs_drop ?_ | refine zs_ret ?_ | refine zs_retN ?_ | refine zs_next ?_ | refine zs_brk ?_ | refine zs_cnt ?_ | refine zs_if ?_ | refine zs_for ?_ | refine zs_while ?_ | refine z_true ?_ | refine z_false ?_ | refine r_k ?_ | refine r_op ?_ | refine r_un ?_ | refine r_nil ?_ | refine r_cons ?_ | refine r_tup ?_ | refine r_ptp ?_ | refine r_lst ?_ | refine r_ife ?_ | refine r_if1 ?_ | refine r_if0 ?_ | refine r_and ?_ | refine r_or ?_ | refine r_not ?_ | refine r_bool ?_ | refine r_asB ?_ | refine r_tru ?_ | refine r_truB ?_ | refine r_truI ?_ | refine r_andV ?_ | refine r_orV ?_ | refine r_andV1 ?_ | refine r_andV0 ?_ | refine r_orV1 ?_ | refine r_orV0 ?_ | refine r_notV ?_ | refine r_call ?_ | refine r_meth ?_ | refine r_addI ?_ | refine r_subI ?_ | refine r_negI ?_ | refine r_andI ?_ | refine r_ltI ?_ | refine r_gtI ?_ | refine r_leI ?_ | refine r_geI ?_ | refine r_eqI ?_ | refine r_eqS ?_ | refine r_neI ?_ | refine r_neS ?_ | refine r_is0 ?_ | refine r_is1 ?_ | refine r_is2 ?_ | refine r_is3 ?_ | refine r_isn0 ?_ | refine r_isn1 ?_ | refine r_isn2 ?_ | refine r_isn3 ?_ | refine r_lenT ?_ | refine r_intI ?_ | refine r_absI ?_ | refine r_sl ?_ | refine r_no ?_ | refine r_part ?_ | refine r_asP ?_ | refine r_slT ?_ | refine r_slR ?_ | refine r_iter ?_ | refine r_asT ?_ | refine r_asPt ?_ | refine r_asRo ?_ | refine r_rng1 ?_ | refine r_gNm ?_ | refine r_gIx ?_ | refine r_comp ?_ | refine r_chain ?_ | refine r_chn1 ?_ | refine r_chn0 ?_ | refine r_isi ?_ | refine r_newL ?_ | refine r_ok ?_) | ((with_reducible (first | refine e_var ?_ | refine e_ixT ?_ | refine e_gTp ?_)); refine ⟨_, rfl, ?_⟩) | ((with_reducible (first | refine r_mkT ?_ ?_ | refine r_mkP ?_ ?_ | refine r_mkL ?_ ?_)); exact Nat.le_of_ble_eq_true rfl) | ((with_reducible (first | refine e_mth ?_ | refine e_lenO ?_ | refine e_asO ?_ | refine e_truO ?_ | refine e_tupleO ?_ | refine e_tupleP ?_ | refine e_slO ?_ | refine e_reverse ?_ | refine e_listO ?_)); refine ⟨_, (by assumption), ?_⟩) | ((with_reducible (first | refine e_ixO ?_ | refine e_set ?_)); refine ⟨_, (by assumption), _, rfl, ?_⟩) | ((with_reducible (first | refine r_mulI ?_ ?_)); first | exact mul_ok (Or.inr (by decide)) | exact mul_ok (Or.inl (by decide))) | ((with_reducible (first | refine r_modI ?_ ?_ | refine r_fdvI ?_ ?_ | refine r_powI ?_ ?_)); decide) | dsimp only [endP])
  refine (fitting_ok h hn).to ?_
  rintro _ s1 ⟨l, ss, rfl, hs1, hl, ht, hle, P1, x1⟩
  repeat (first | with_reducible (first | refine zq_asg ?_ | refine zq_drop ?_ | refine zs_asg ?_ | refine zs_drop ?_ | refine zs_ret ?_ | refine zs_retN ?_ | refine zs_next ?_ | refine zs_brk ?_ | refine zs_cnt ?_ | refine zs_if ?_ | refine zs_for ?_ | refine zs_while ?_ | refine z_true ?_ | refine z_false ?_ | refine r_k ?_ | refine r_op ?_ | refine r_un ?_ | refine r_nil ?_ | refine r_cons ?_ | refine r_tup ?_ | refine r_ptp ?_ | refine r_lst ?_ | refine r_ife ?_ | refine r_if1 ?_ | refine r_if0 ?_ | refine r_and ?_ | refine r_or ?_ | refine r_not ?_ | refine r_bool ?_ | refine r_asB ?_ | refine r_tru ?_ | refine r_truB ?_ | refine r_truI ?_ | refine r_andV ?_ | refine r_orV ?_ | refine r_andV1 ?_ | refine r_andV0 ?_ | refine r_orV1 ?_ | refine r_orV0 ?_ | refine r_notV ?_ | refine r_call ?_ | refine r_meth ?_ | refine r_addI ?_ | refine r_subI ?_ | refine r_negI ?_ | refine r_andI ?_ | refine r_ltI ?_ | refine r_gtI ?_ | refine r_leI ?_ | refine r_geI ?_ | refine r_eqI ?_ | refine r_eqS ?_ | refine r_neI ?_ | refine r_neS ?_ | refine r_is0 ?_ | refine r_is1 ?_ | refine r_is2 ?_ | refine r_is3 ?_ | refine r_isn0 ?_ | refine r_isn1 ?_ | refine r_isn2 ?_ | refine r_isn3 ?_ | refine r_lenT ?_ | refine r_intI ?_ | refine r_absI ?_ | refine r_sl ?_ | refine r_no ?_ | refine r_part ?_ | refine r_asP ?_ | refine r_slT ?_ | refine r_slR ?_ | refine r_iter ?_ | refine r_asT ?_ | refine r_asPt ?_ | refine r_asRo ?_ | refine r_rng1 ?_ | refine r_gNm ?_ | refine r_gIx ?_ | refine r_comp ?_ | refine r_chain ?_ | refine r_chn1 ?_ | refine r_chn0 ?_ | refine r_isi ?_ | refine r_newL ?_ | refine r_ok ?_) | ((with_reducible (first | refine e_var ?_ | refine e_ixT ?_ | refine e_gTp ?_)); refine ⟨_, rfl, ?_⟩) | ((with_reducible (first | refine r_mkT ?_ ?_ | refine r_mkP ?_ ?_ | refine r_mkL ?_ ?_)); exact Nat.le_of_ble_eq_true rfl) | ((with_reducible (first | refine e_mth ?_ | refine e_lenO ?_ | refine e_asO ?_ | refine e_truO ?_ | refine e_tupleO ?_ | refine e_tupleP ?_ | refine e_slO ?_ | refine e_reverse ?_ | refine e_listO ?_)); refine ⟨_, (by assumption), ?_⟩) | ((with_reducible (first | refine e_ixO ?_ | refine e_set ?_)); refine ⟨_, (by assumption), _, rfl, ?_⟩) | ((with_reducible (first | refine r_mulI ?_ ?_)); first | exact mul_ok (Or.inr (by decide)) | exact mul_ok (Or.inl (by decide))) | ((with_reducible (first | refine r_modI ?_ ?_ | refine r_fdvI ?_ ?_ | refine r_powI ?_ ?_)); decide) | dsimp only [endP])
  refine zs_seq (z_cut (fun e s => (∃ y : Option D, e = [some (.obj p), some (.tup (ns.map D.int)), some (.int way), some (.obj l), none, none, y, none]) ∧ ∃ ss : List Sp, s[l]? = some (.lst (ss.map Sp.d)) ∧ ss.length ≤ 803 ∧ (ns ≠ [] → ∃ s ∈ ss, s.tk = true) ∧ Bx p c s ∧ Ext [p] st s) ?_ ?_)
  · repeat (first | with_reducible (first | refine zs_seq ?_ | refine zs_asg ?_ | refine zs_drop ?_ | refine zs_ret ?_ | refine zs_retN ?_ | refine zs_next ?_ | refine zs_brk ?_ | refine zs_cnt ?_ | refine zs_if ?_ | refine zs_for ?_ | refine zs_while ?_ | refine z_true ?_ | refine z_false ?_ | refine r_k ?_ | refine r_op ?_ | refine r_un ?_ | refine r_nil ?_ | refine r_cons ?_ | refine r_tup ?_ | refine r_ptp ?_ | refine r_lst ?_ | refine r_ife ?_ | refine r_if1 ?_ | refine r_if0 ?_ | refine r_and ?_ | refine r_or ?_ | refine r_not ?_ | refine r_bool ?_ | refine r_asB ?_ | refine r_tru ?_ | refine r_truB ?_ | refine r_truI ?_ | refine r_andV ?_ | refine r_orV ?_ | refine r_andV1 ?_ | refine r_andV0 ?_ | refine r_orV1 ?_ | refine r_orV0 ?_ | refine r_notV ?_ | refine r_call ?_ | refine r_meth ?_ | refine r_addI ?_ | refine r_subI ?_ | refine r_negI ?_ | refine r_andI ?_ | refine r_ltI ?_ | refine r_gtI ?_ | refine r_leI ?_ | refine r_geI ?_ | refine r_eqI ?_ | refine r_eqS ?_ | refine r_neI ?_ | refine r_neS ?_ | refine r_is0 ?_ | refine r_is1 ?_ | refine r_is2 ?_ | refine r_is3 ?_ | refine r_isn0 ?_ | refine r_isn1 ?_ | refine r_isn2 ?_ | refine r_isn3 ?_ | refine r_lenT ?_ | refine r_intI ?_ | refine r_absI ?_ | refine r_sl ?_ | refine r_no ?_ | refine r_part ?_ | refine r_asP ?_ | refine r_slT ?_ | refine r_slR ?_ | refine r_iter ?_ | refine r_asT ?_ | refine r_asPt ?_ | refine r_asRo ?_ | refine r_rng1 ?_ | refine r_gNm ?_ | refine r_gIx ?_ | refine r_comp ?_ | refine r_chain ?_ | refine r_chn1 ?_ | refine r_chn0 ?_ | refine r_isi ?_ | refine r_newL ?_ | refine r_ok ?_) | ((with_reducible (first | refine e_var ?_ | refine e_ixT ?_ | refine e_gTp ?_)); refine ⟨_, rfl, ?_⟩) | ((with_reducible (first | refine r_mkT ?_ ?_ | refine r_mkP ?_ ?_ | refine r_mkL ?_ ?_)); exact Nat.le_of_ble_eq_true rfl) | ((with_reducible (first | refine e_mth ?_ | refine e_lenO ?_ | refine e_asO ?_ | refine e_truO ?_ | refine e_tupleO ?_ | refine e_tupleP ?_ | refine e_slO ?_ | refine e_reverse ?_ | refine e_listO ?_)); refine ⟨_, (by assumption), ?_⟩) | ((with_reducible (first | refine e_ixO ?_ | refine e_set ?_)); refine ⟨_, (by assumption), _, rfl, ?_⟩) | ((with_reducible (first | refine r_mulI ?_ ?_)); first | exact mul_ok (Or.inr (by decide)) | exact mul_ok (Or.inl (by decide))) | ((with_reducible (first | refine r_modI ?_ ?_ | refine r_fdvI ?_ ?_ | refine r_powI ?_ ?_)); decide) | dsimp only [endP])
    refine z_dec (fun hw => ?_) (fun hw => ?_)
    · repeat (first | with_reducible (first | refine zs_seq ?_ | refine zs_asg ?_ | refine zs_drop ?_ | refine zs_ret ?_ | refine zs_retN ?_ | refine zs_next ?_ | refine zs_brk ?_ | refine zs_cnt ?_ | refine zs_if ?_ | refine zs_for ?_ | refine zs_while ?_ | refine z_true ?_ | refine z_false ?_ | refine r_k ?_ | refine r_op ?_ | refine r_un ?_ | refine r_nil ?_ | refine r_cons ?_ | refine r_tup ?_ | refine r_ptp ?_ | refine r_lst ?_ | refine r_ife ?_ | refine r_if1 ?_ | refine r_if0 ?_ | refine r_and ?_ | refine r_or ?_ | refine r_not ?_ | refine r_bool ?_ | refine r_asB ?_ | refine r_tru ?_ | refine r_truB ?_ | refine r_truI ?_ | refine r_andV ?_ | refine r_orV ?_ | refine r_andV1 ?_ | refine r_andV0 ?_ | refine r_orV1 ?_ | refine r_orV0 ?_ | refine r_notV ?_ | refine r_call ?_ | refine r_meth ?_ | refine r_addI ?_ | refine r_subI ?_ | refine r_negI ?_ | refine r_andI ?_ | refine r_ltI ?_ | refine r_gtI ?_ | refine r_leI ?_ | refine r_geI ?_ | refine r_eqI ?_ | refine r_eqS ?_ | refine r_neI ?_ | refine r_neS ?_ | refine r_is0 ?_ | refine r_is1 ?_ | refine r_is2 ?_ | refine r_is3 ?_ | refine r_isn0 ?_ | refine r_isn1 ?_ | refine r_isn2 ?_ | refine r_isn3 ?_ | refine r_lenT ?_ | refine r_intI ?_ | refine r_absI ?_ | refine r_sl ?_ | refine r_no ?_ | refine r_part ?_ | refine r_asP ?_ | refine r_slT ?_ | refine r_slR ?_ | refine r_iter ?_ | refine r_asT ?_ | refine r_asPt ?_ | refine r_asRo ?_ | refine r_rng1 ?_ | refine r_gNm ?_ | refine r_gIx ?_ | refine r_comp ?_ | refine r_chain ?_ | refine r_chn1 ?_ | refine r_chn0 ?_ | refine r_isi ?_ | refine r_newL ?_ | refine r_ok ?_) | ((with_reducible (first | refine e_var ?_ | refine e_ixT ?_ | refine e_gTp ?_)); refine ⟨_, rfl, ?_⟩) | ((with_reducible (first | refine r_mkT ?_ ?_ | refine r_mkP ?_ ?_ | refine r_mkL ?_ ?_)); exact Nat.le_of_ble_eq_true rfl) | ((with_reducible (first | refine e_mth ?_ | refine e_lenO ?_ | refine e_asO ?_ | refine e_truO ?_ | refine e_tupleO ?_ | refine e_tupleP ?_ | refine e_slO ?_ | refine e_reverse ?_ | refine e_listO ?_)); refine ⟨_, (by assumption), ?_⟩) | ((with_reducible (first | refine e_ixO ?_ | refine e_set ?_)); refine ⟨_, (by assumption), _, rfl, ?_⟩) | ((with_reducible (first | refine r_mulI ?_ ?_)); first | exact mul_ok (Or.inr (by decide)) | exact mul_ok (Or.inl (by decide))) | ((with_reducible (first | refine r_modI ?_ ?_ | refine r_fdvI ?_ ?_ | refine r_powI ?_ ?_)); decide) | dsimp only [endP])
      refine (draw_ok P1 (by simp only [List.length_map]; omega) (by simp only [List.length_map]; omega)).to ?_
      rintro _ s2 ⟨r2, rfl, u0, u1, P2, x2⟩
      have hs2 := x2.get hs1 (by simp; omega)
      repeat (first | with_reducible (first | refine zs_seq ?_ | refine zs_asg ?_ | refine zs_drop ?_ | refine zs_ret ?_ | refine zs_retN ?_ | refine zs_next ?_ | refine zs_brk ?_ | refine zs_cnt ?_ | refine zs_if ?_ | refine zs_for ?_ | refine zs_while ?_ | refine z_true ?_ | refine z_false ?_ | refine r_k ?_ | refine r_op ?_ | refine r_un ?_ | refine r_nil ?_ | refine r_cons ?_ | refine r_tup ?_ | refine r_ptp ?_ | refine r_lst ?_ | refine r_ife ?_ | refine r_if1 ?_ | refine r_if0 ?_ | refine r_and ?_ | refine r_or ?_ | refine r_not ?_ | refine r_bool ?_ | refine r_asB ?_ | refine r_tru ?_ | refine r_truB ?_ | refine r_truI ?_ | refine r_andV ?_ | refine r_orV ?_ | refine r_andV1 ?_ | refine r_andV0 ?_ | refine r_orV1 ?_ | refine r_orV0 ?_ | refine r_notV ?_ | refine r_call ?_ | refine r_meth ?_ | refine r_addI ?_ | refine r_subI ?_ | refine r_negI ?_ | refine r_andI ?_ | refine r_ltI ?_ | refine r_gtI ?_ | refine r_leI ?_ | refine r_geI ?_ | refine r_eqI ?_ | refine r_eqS ?_ | refine r_neI ?_ | refine r_neS ?_ | refine r_is0 ?_ | refine r_is1 ?_ | refine r_is2 ?_ | refine r_is3 ?_ | refine r_isn0 ?_ | refine r_isn1 ?_ | refine r_isn2 ?_ | refine r_isn3 ?_ | refine r_lenT ?_ | refine r_intI ?_ | refine r_absI ?_ | refine r_sl ?_ | refine r_no ?_ | refine r_part ?_ | refine r_asP ?_ | refine r_slT ?_ | refine r_slR ?_ | refine r_iter ?_ | refine r_asT ?_ | refine r_asPt ?_ | refine r_asRo ?_ | refine r_rng1 ?_ | refine r_gNm ?_ | refine r_gIx ?_ | refine r_comp ?_ | refine r_chain ?_ | refine r_chn1 ?_ | refine r_chn0 ?_ | refine r_isi ?_ | refine r_newL ?_ | refine r_ok ?_) | ((with_reducible (first | refine e_var ?_ | refine e_ixT ?_ | refine e_gTp ?_)); refine ⟨_, rfl, ?_⟩) | ((with_reducible (first | refine r_mkT ?_ ?_ | refine r_mkP ?_ ?_ | refine r_mkL ?_ ?_)); exact Nat.le_of_ble_eq_true rfl) | ((with_reducible (first | refine e_mth ?_ | refine e_lenO ?_ | refine e_asO ?_ | refine e_truO ?_ | refine e_tupleO ?_ | refine e_tupleP ?_ | refine e_slO ?_ | refine e_reverse ?_ | refine e_listO ?_)); refine ⟨_, (by assumption), ?_⟩) | ((with_reducible (first | refine e_ixO ?_ | refine e_set ?_)); refine ⟨_, (by assumption), _, rfl, ?_⟩) | ((with_reducible (first | refine r_mulI ?_ ?_)); first | exact mul_ok (Or.inr (by decide)) | exact mul_ok (Or.inl (by decide))) | ((with_reducible (first | refine r_modI ?_ ?_ | refine r_fdvI ?_ ?_ | refine r_powI ?_ ?_)); decide) | dsimp only [endP])
      refine (taking_ok P2).to ?_
      rintro _ s3 ⟨t, rfl, htk, P3, x3⟩
      have hs3 := x3.get hs2 (by simp; omega)
      repeat (first | with_reducible (first | refine zs_seq ?_ | refine zs_asg ?_ | refine zs_drop ?_ | refine zs_ret ?_ | refine zs_retN ?_ | refine zs_next ?_ | refine zs_brk ?_ | refine zs_cnt ?_ | refine zs_if ?_ | refine zs_for ?_ | refine zs_while ?_ | refine z_true ?_ | refine z_false ?_ | refine r_k ?_ | refine r_op ?_ | refine r_un ?_ | refine r_nil ?_ | refine r_cons ?_ | refine r_tup ?_ | refine r_ptp ?_ | refine r_lst ?_ | refine r_ife ?_ | refine r_if1 ?_ | refine r_if0 ?_ | refine r_and ?_ | refine r_or ?_ | refine r_not ?_ | refine r_bool ?_ | refine r_asB ?_ | refine r_tru ?_ | refine r_truB ?_ | refine r_truI ?_ | refine r_andV ?_ | refine r_orV ?_ | refine r_andV1 ?_ | refine r_andV0 ?_ | refine r_orV1 ?_ | refine r_orV0 ?_ | refine r_notV ?_ | refine r_call ?_ | refine r_meth ?_ | refine r_addI ?_ | refine r_subI ?_ | refine r_negI ?_ | refine r_andI ?_ | refine r_ltI ?_ | refine r_gtI ?_ | refine r_leI ?_ | refine r_geI ?_ | refine r_eqI ?_ | refine r_eqS ?_ | refine r_neI ?_ | refine r_neS ?_ | refine r_is0 ?_ | refine r_is1 ?_ | refine r_is2 ?_ | refine r_is3 ?_ | refine r_isn0 ?_ | refine r_isn1 ?_ | refine r_isn2 ?_ | refine r_isn3 ?_ | refine r_lenT ?_ | refine r_intI ?_ | refine r_absI ?_ | refine r_sl ?_ | refine r_no ?_ | refine r_part ?_ | refine r_asP ?_ | refine r_slT ?_ | refine r_slR ?_ | refine r_iter ?_ | refine r_asT ?_ | refine r_asPt ?_ | refine r_asRo ?_ | refine r_rng1 ?_ | refine r_gNm ?_ | refine r_gIx ?_ | refine r_comp ?_ | refine r_chain ?_ | refine r_chn1 ?_ | refine r_chn0 ?_ | refine r_isi ?_ | refine r_newL ?_ | refine r_ok ?_) | ((with_reducible (first | refine e_var ?_ | refine e_ixT ?_ | refine e_gTp ?_)); refine ⟨_, rfl, ?_⟩) | ((with_reducible (first | refine r_mkT ?_ ?_ | refine r_mkP ?_ ?_ | refine r_mkL ?_ ?_)); exact Nat.le_of_ble_eq_true rfl) | ((with_reducible (first | refine e_mth ?_ | refine e_lenO ?_ | refine e_asO ?_ | refine e_truO ?_ | refine e_tupleO ?_ | refine e_tupleP ?_ | refine e_slO ?_ | refine e_reverse ?_ | refine e_listO ?_)); refine ⟨_, (by assumption), ?_⟩) | ((with_reducible (first | refine e_ixO ?_ | refine e_set ?_)); refine ⟨_, (by assumption), _, rfl, ?_⟩) | ((with_reducible (first | refine r_mulI ?_ ?_)); first | exact mul_ok (Or.inr (by decide)) | exact mul_ok (Or.inl (by decide))) | ((with_reducible (first | refine r_modI ?_ ?_ | refine r_fdvI ?_ ?_ | refine r_powI ?_ ?_)); decide) | dsimp only [endP])
      refine r_insert hs3 ⟨lt_line (by simp; omega), u0, by simp at u1; omega⟩ ?_
      exact ⟨⟨_, rfl⟩, ss.take r2.toNat ++ [t] ++ ss.drop r2.toNat, by rw [set_at hs3]; simp, by simp; omega, fun _ => ⟨t, by simp, htk⟩, P3.set (by omega) (by omega), ((x1.trans x2).trans x3).setNew hle⟩
    · repeat (first | with_reducible (first | refine zs_seq ?_ | refine zs_asg ?_ | refine zs_drop ?_ | refine zs_ret ?_ | refine zs_retN ?_ | refine zs_next ?_ | refine zs_brk ?_ | refine zs_cnt ?_ | refine zs_if ?_ | refine zs_for ?_ | refine zs_while ?_ | refine z_true ?_ | refine z_false ?_ | refine r_k ?_ | refine r_op ?_ | refine r_un ?_ | refine r_nil ?_ | refine r_cons ?_ | refine r_tup ?_ | refine r_ptp ?_ | refine r_lst ?_ | refine r_ife ?_ | refine r_if1 ?_ | refine r_if0 ?_ | refine r_and ?_ | refine r_or ?_ | refine r_not ?_ | refine r_bool ?_ | refine r_asB ?_ | refine r_tru ?_ | refine r_truB ?_ | refine r_truI ?_ | refine r_andV ?_ | refine r_orV ?_ | refine r_andV1 ?_ | refine r_andV0 ?_ | refine r_orV1 ?_ | refine r_orV0 ?_ | refine r_notV ?_ | refine r_call ?_ | refine r_meth ?_ | refine r_addI ?_ | refine r_subI ?_ | refine r_negI ?_ | refine r_andI ?_ | refine r_ltI ?_ | refine r_gtI ?_ | refine r_leI ?_ | refine r_geI ?_ | refine r_eqI ?_ | refine r_eqS ?_ | refine r_neI ?_ | refine r_neS ?_ | refine r_is0 ?_ | refine r_is1 ?_ | refine r_is2 ?_ | refine r_is3 ?_ | refine r_isn0 ?_ | refine r_isn1 ?_ | refine r_isn2 ?_ | refine r_isn3 ?_ | refine r_lenT ?_ | refine r_intI ?_ | refine r_absI ?_ | refine r_sl ?_ | refine r_no ?_ | refine r_part ?_ | refine r_asP ?_ | refine r_slT ?_ | refine r_slR ?_ | refine r_iter ?_ | refine r_asT ?_ | refine r_asPt ?_ | refine r_asRo ?_ | refine r_rng1 ?_ | refine r_gNm ?_ | refine r_gIx ?_ | refine r_comp ?_ | refine r_chain ?_ | refine r_chn1 ?_ | refine r_chn0 ?_ | refine r_isi ?_ | refine r_newL ?_ | refine r_ok ?_) | ((with_reducible (first | refine e_var ?_ | refine e_ixT ?_ | refine e_gTp ?_)); refine ⟨_, rfl, ?_⟩) | ((with_reducible (first | refine r_mkT ?_ ?_ | refine r_mkP ?_ ?_ | refine r_mkL ?_ ?_)); exact Nat.le_of_ble_eq_true rfl) | ((with_reducible (first | refine e_mth ?_ | refine e_lenO ?_ | refine e_asO ?_ | refine e_truO ?_ | refine e_tupleO ?_ | refine e_tupleP ?_ | refine e_slO ?_ | refine e_reverse ?_ | refine e_listO ?_)); refine ⟨_, (by assumption), ?_⟩) | ((with_reducible (first | refine e_ixO ?_ | refine e_set ?_)); refine ⟨_, (by assumption), _, rfl, ?_⟩) | ((with_reducible (first | refine r_mulI ?_ ?_)); first | exact mul_ok (Or.inr (by decide)) | exact mul_ok (Or.inl (by decide))) | ((with_reducible (first | refine r_modI ?_ ?_ | refine r_fdvI ?_ ?_ | refine r_powI ?_ ?_)); decide) | dsimp only [endP])
      exact ⟨⟨_, rfl⟩, ss, hs1, by omega, ht, P1, x1⟩
  clear hs1 hl ht P1 x1
  rintro _ s1 ⟨⟨y, rfl⟩, ss, hs1, hl, ht, P1, x1⟩
  refine zs_seq (z_cut (fun e s => (∃ (l : Nat) (y z : Option D) (ss : List Sp), e = [some (.obj p), some (.tup (ns.map D.int)), some (.int way), some (.obj l), none, none, y, z] ∧ s[l]? = some (.lst (ss.map Sp.d)) ∧ ss.length ≤ 803 ∧ Bx p c s ∧ Ext [p] st s)) ?_ ?_)
  · repeat (first | with_reducible (first | refine zs_seq ?_ | refine zs_asg ?_ | refine zs_drop ?_ | refine zs_ret ?_ | refine zs_retN ?_ | refine zs_next ?_ | refine zs_brk ?_ | refine zs_cnt ?_ | refine zs_if ?_ | refine zs_for ?_ | refine zs_while ?_ | refine z_true ?_ | refine z_false ?_ | refine r_k ?_ | refine r_op ?_ | refine r_un ?_ | refine r_nil ?_ | refine r_cons ?_ | refine r_tup ?_ | refine r_ptp ?_ | refine r_lst ?_ | refine r_ife ?_ | refine r_if1 ?_ | refine r_if0 ?_ | refine r_and ?_ | refine r_or ?_ | refine r_not ?_ | refine r_bool ?_ | refine r_asB ?_ | refine r_tru ?_ | refine r_truB ?_ | refine r_truI ?_ | refine r_andV ?_ | refine r_orV ?_ | refine r_andV1 ?_ | refine r_andV0 ?_ | refine r_orV1 ?_ | refine r_orV0 ?_ | refine r_notV ?_ | refine r_call ?_ | refine r_meth ?_ | refine r_addI ?_ | refine r_subI ?_ | refine r_negI ?_ | refine r_andI ?_ | refine r_ltI ?_ | refine r_gtI ?_ | refine r_leI ?_ | refine r_geI ?_ | refine r_eqI ?_ | refine r_eqS ?_ | refine r_neI ?_ | refine r_neS ?_ | refine r_is0 ?_ | refine r_is1 ?_ | refine r_is2 ?_ | refine r_is3 ?_ | refine r_isn0 ?_ | refine r_isn1 ?_ | refine r_isn2 ?_ | refine r_isn3 ?_ | refine r_lenT ?_ | refine r_intI ?_ | refine r_absI ?_ | refine r_sl ?_ | refine r_no ?_ | refine r_part ?_ | refine r_asP ?_ | refine r_slT ?_ | refine r_slR ?_ | refine r_iter ?_ | refine r_asT ?_ | refine r_asPt ?_ | refine r_asRo ?_ | refine r_rng1 ?_ | refine r_gNm ?_ | refine r_gIx ?_ | refine r_comp ?_ | refine r_chain ?_ | refine r_chn1 ?_ | refine r_chn0 ?_ | refine r_isi ?_ | refine r_newL ?_ | refine r_ok ?_) | ((with_reducible (first | refine e_var ?_ | refine e_ixT ?_ | refine e_gTp ?_)); refine ⟨_, rfl, ?_⟩) | ((with_reducible (first | refine r_mkT ?_ ?_ | refine r_mkP ?_ ?_ | refine r_mkL ?_ ?_)); exact Nat.le_of_ble_eq_true rfl) | ((with_reducible (first | refine e_mth ?_ | refine e_lenO ?_ | refine e_asO ?_ | refine e_truO ?_ | refine e_tupleO ?_ | refine e_tupleP ?_ | refine e_slO ?_ | refine e_reverse ?_ | refine e_listO ?_)); refine ⟨_, (by assumption), ?_⟩) | ((with_reducible (first | refine e_ixO ?_ | refine e_set ?_)); refine ⟨_, (by assumption), _, rfl, ?_⟩) | ((with_reducible (first | refine r_mulI ?_ ?_)); first | exact mul_ok (Or.inr (by decide)) | exact mul_ok (Or.inl (by decide))) | ((with_reducible (first | refine r_modI ?_ ?_ | refine r_fdvI ?_ ?_ | refine r_powI ?_ ?_)); decide) | dsimp only [endP])
    refine r_dec (fun hw => ?_) (fun hw => ?_)
    · repeat (first | with_reducible (first | refine zs_seq ?_ | refine zs_asg ?_ | refine zs_drop ?_ | refine zs_ret ?_ | refine zs_retN ?_ | refine zs_next ?_ | refine zs_brk ?_ | refine zs_cnt ?_ | refine zs_if ?_ | refine zs_for ?_ | refine zs_while ?_ | refine z_true ?_ | refine z_false ?_ | refine r_k ?_ | refine r_op ?_ | refine r_un ?_ | refine r_nil ?_ | refine r_cons ?_ | refine r_tup ?_ | refine r_ptp ?_ | refine r_lst ?_ | refine r_ife ?_ | refine r_if1 ?_ | refine r_if0 ?_ | refine r_and ?_ | refine r_or ?_ | refine r_not ?_ | refine r_bool ?_ | refine r_asB ?_ | refine r_tru ?_ | refine r_truB ?_ | refine r_truI ?_ | refine r_andV ?_ | refine r_orV ?_ | refine r_andV1 ?_ | refine r_andV0 ?_ | refine r_orV1 ?_ | refine r_orV0 ?_ | refine r_notV ?_ | refine r_call ?_ | refine r_meth ?_ | refine r_addI ?_ | refine r_subI ?_ | refine r_negI ?_ | refine r_andI ?_ | refine r_ltI ?_ | refine r_gtI ?_ | refine r_leI ?_ | refine r_geI ?_ | refine r_eqI ?_ | refine r_eqS ?_ | refine r_neI ?_ | refine r_neS ?_ | refine r_is0 ?_ | refine r_is1 ?_ | refine r_is2 ?_ | refine r_is3 ?_ | refine r_isn0 ?_ | refine r_isn1 ?_ | refine r_isn2 ?_ | refine r_isn3 ?_ | refine r_lenT ?_ | refine r_intI ?_ | refine r_absI ?_ | refine r_sl ?_ | refine r_no ?_ | refine r_part ?_ | refine r_asP ?_ | refine r_slT ?_ | refine r_slR ?_ | refine r_iter ?_ | refine r_asT ?_ | refine r_asPt ?_ | refine r_asRo ?_ | refine r_rng1 ?_ | refine r_gNm ?_ | refine r_gIx ?_ | refine r_comp ?_ | refine r_chain ?_ | refine r_chn1 ?_ | refine r_chn0 ?_ | refine r_isi ?_ | refine r_newL ?_ | refine r_ok ?_) | ((with_reducible (first | refine e_var ?_ | refine e_ixT ?_ | refine e_gTp ?_)); refine ⟨_, rfl, ?_⟩) | ((with_reducible (first | refine r_mkT ?_ ?_ | refine r_mkP ?_ ?_ | refine r_mkL ?_ ?_)); exact Nat.le_of_ble_eq_true rfl) | ((with_reducible (first | refine e_mth ?_ | refine e_lenO ?_ | refine e_asO ?_ | refine e_truO ?_ | refine e_tupleO ?_ | refine e_tupleP ?_ | refine e_slO ?_ | refine e_reverse ?_ | refine e_listO ?_)); refine ⟨_, (by assumption), ?_⟩) | ((with_reducible (first | refine e_ixO ?_ | refine e_set ?_)); refine ⟨_, (by assumption), _, rfl, ?_⟩) | ((with_reducible (first | refine r_mulI ?_ ?_)); first | exact mul_ok (Or.inr (by decide)) | exact mul_ok (Or.inl (by decide))) | ((with_reducible (first | refine r_modI ?_ ?_ | refine r_fdvI ?_ ?_ | refine r_powI ?_ ?_)); decide) | dsimp only [endP])
      refine z_dec (fun hk => ?_) (fun hk => ?_)
      · have hss := ht (by intro e; subst e; simp at hk)
        repeat (first | with_reducible (first | refine zs_seq ?_ | refine zs_asg ?_ | refine zs_drop ?_ | refine zs_ret ?_ | refine zs_retN ?_ | refine zs_next ?_ | refine zs_brk ?_ | refine zs_cnt ?_ | refine zs_if ?_ | refine zs_for ?_ | refine zs_while ?_ | refine z_true ?_ | refine z_false ?_ | refine r_k ?_ | refine r_op ?_ | refine r_un ?_ | refine r_nil ?_ | refine r_cons ?_ | refine r_tup ?_ | refine r_ptp ?_ | refine r_lst ?_ | refine r_ife ?_ | refine r_if1 ?_ | refine r_if0 ?_ | refine r_and ?_ | refine r_or ?_ | refine r_not ?_ | refine r_bool ?_ | refine r_asB ?_ | refine r_tru ?_ | refine r_truB ?_ | refine r_truI ?_ | refine r_andV ?_ | refine r_orV ?_ | refine r_andV1 ?_ | refine r_andV0 ?_ | refine r_orV1 ?_ | refine r_orV0 ?_ | refine r_notV ?_ | refine r_call ?_ | refine r_meth ?_ | refine r_addI ?_ | refine r_subI ?_ | refine r_negI ?_ | refine r_andI ?_ | refine r_ltI ?_ | refine r_gtI ?_ | refine r_leI ?_ | refine r_geI ?_ | refine r_eqI ?_ | refine r_eqS ?_ | refine r_neI ?_ | refine r_neS ?_ | refine r_is0 ?_ | refine r_is1 ?_ | refine r_is2 ?_ | refine r_is3 ?_ | refine r_isn0 ?_ | refine r_isn1 ?_ | refine r_isn2 ?_ | refine r_isn3 ?_ | refine r_lenT ?_ | refine r_intI ?_ | refine r_absI ?_ | refine r_sl ?_ | refine r_no ?_ | refine r_part ?_ | refine r_asP ?_ | refine r_slT ?_ | refine r_slR ?_ | refine r_iter ?_ | refine r_asT ?_ | refine r_asPt ?_ | refine r_asRo ?_ | refine r_rng1 ?_ | refine r_gNm ?_ | refine r_gIx ?_ | refine r_comp ?_ | refine r_chain ?_ | refine r_chn1 ?_ | refine r_chn0 ?_ | refine r_isi ?_ | refine r_newL ?_ | refine r_ok ?_) | ((with_reducible (first | refine e_var ?_ | refine e_ixT ?_ | refine e_gTp ?_)); refine ⟨_, rfl, ?_⟩) | ((with_reducible (first | refine r_mkT ?_ ?_ | refine r_mkP ?_ ?_ | refine r_mkL ?_ ?_)); exact Nat.le_of_ble_eq_true rfl) | ((with_reducible (first | refine e_mth ?_ | refine e_lenO ?_ | refine e_asO ?_ | refine e_truO ?_ | refine e_tupleO ?_ | refine e_tupleP ?_ | refine e_slO ?_ | refine e_reverse ?_ | refine e_listO ?_)); refine ⟨_, (by assumption), ?_⟩) | ((with_reducible (first | refine e_ixO ?_ | refine e_set ?_)); refine ⟨_, (by assumption), _, rfl, ?_⟩) | ((with_reducible (first | refine r_mulI ?_ ?_)); first | exact mul_ok (Or.inr (by decide)) | exact mul_ok (Or.inl (by decide))) | ((with_reducible (first | refine r_modI ?_ ?_ | refine r_fdvI ?_ ?_ | refine r_powI ?_ ?_)); decide) | dsimp only [endP])
        refine r_asR1 (by simp only [List.length_map]; omega) ?_
        refine rw_comp ss.length (fun i acc s => s1 = s ∧ ∃ ks : List Nat, acc = ks.map (fun k => D.int (k : Nat)) ∧ ks.length ≤ i ∧ (∀ k ∈ ks, k < ss.length) ∧ ((∃ j, j < i ∧ ∃ s, ss[j]? = some s ∧ s.tk = true) → ks ≠ [])) (lt_fuel (by omega)) ⟨rfl, [], rfl, by simp, by simp, by rintro ⟨j, hj, _⟩; omega⟩ ?_ ?_
        · rintro i acc _ hi ⟨rfl, ks, rfl, hkl, hb, hne⟩
          refine ⟨_, _, itR_in (by simpa using hi), rfl, ?_⟩
          obtain ⟨w, ds, ed, ew⟩ := tk_ne (s := ss[i])
          rw [Int.zero_add]
          repeat (first | with_reducible (first | refine zs_seq ?_ | refine zs_asg ?_ | refine zs_drop ?_ | refine zs_ret ?_ | refine zs_retN ?_ | refine zs_next ?_ | refine zs_brk ?_ | refine zs_cnt ?_ | refine zs_if ?_ | refine zs_for ?_ | refine zs_while ?_ | refine z_true ?_ | refine z_false ?_ | refine r_k ?_ | refine r_op ?_ | refine r_un ?_ | refine r_nil ?_ | refine r_cons ?_ | refine r_tup ?_ | refine r_ptp ?_ | refine r_lst ?_ | refine r_ife ?_ | refine r_if1 ?_ | refine r_if0 ?_ | refine r_and ?_ | refine r_or ?_ | refine r_not ?_ | refine r_bool ?_ | refine r_asB ?_ | refine r_tru ?_ | refine r_truB ?_ | refine r_truI ?_ | refine r_andV ?_ | refine r_orV ?_ | refine r_andV1 ?_ | refine r_andV0 ?_ | refine r_orV1 ?_ | refine r_orV0 ?_ | refine r_notV ?_ | refine r_call ?_ | refine r_meth ?_ | refine r_addI ?_ | refine r_subI ?_ | refine r_negI ?_ | refine r_andI ?_ | refine r_ltI ?_ | refine r_gtI ?_ | refine r_leI ?_ | refine r_geI ?_ | refine r_eqI ?_ | refine r_eqS ?_ | refine r_neI ?_ | refine r_neS ?_ | refine r_is0 ?_ | refine r_is1 ?_ | refine r_is2 ?_ | refine r_is3 ?_ | refine r_isn0 ?_ | refine r_isn1 ?_ | refine r_isn2 ?_ | refine r_isn3 ?_ | refine r_lenT ?_ | refine r_intI ?_ | refine r_absI ?_ | refine r_sl ?_ | refine r_no ?_ | refine r_part ?_ | refine r_asP ?_ | refine r_slT ?_ | refine r_slR ?_ | refine r_iter ?_ | refine r_asT ?_ | refine r_asPt ?_ | refine r_asRo ?_ | refine r_rng1 ?_ | refine r_gNm ?_ | refine r_gIx ?_ | refine r_comp ?_ | refine r_chain ?_ | refine r_chn1 ?_ | refine r_chn0 ?_ | refine r_isi ?_ | refine r_newL ?_ | refine r_ok ?_) | ((with_reducible (first | refine e_var ?_ | refine e_ixT ?_ | refine e_gTp ?_)); refine ⟨_, rfl, ?_⟩) | ((with_reducible (first | refine r_mkT ?_ ?_ | refine r_mkP ?_ ?_ | refine r_mkL ?_ ?_)); exact Nat.le_of_ble_eq_true rfl) | ((with_reducible (first | refine e_mth ?_ | refine e_lenO ?_ | refine e_asO ?_ | refine e_truO ?_ | refine e_tupleO ?_ | refine e_tupleP ?_ | refine e_slO ?_ | refine e_reverse ?_ | refine e_listO ?_)); refine ⟨_, (by assumption), ?_⟩) | ((with_reducible (first | refine e_ixO ?_ | refine e_set ?_)); refine ⟨_, (by assumption), _, rfl, ?_⟩) | ((with_reducible (first | refine r_mulI ?_ ?_)); first | exact mul_ok (Or.inr (by decide)) | exact mul_ok (Or.inl (by decide))) | ((with_reducible (first | refine r_modI ?_ ?_ | refine r_fdvI ?_ ?_ | refine r_powI ?_ ?_)); decide) | dsimp only [endP])
          refine r_ixO hs1 (atI_map hi) ?_
          rw [ed]
          repeat (first | with_reducible (first | refine zs_seq ?_ | refine zs_asg ?_ | refine zs_drop ?_ | refine zs_ret ?_ | refine zs_retN ?_ | refine zs_next ?_ | refine zs_brk ?_ | refine zs_cnt ?_ | refine zs_if ?_ | refine zs_for ?_ | refine zs_while ?_ | refine z_true ?_ | refine z_false ?_ | refine r_k ?_ | refine r_op ?_ | refine r_un ?_ | refine r_nil ?_ | refine r_cons ?_ | refine r_tup ?_ | refine r_ptp ?_ | refine r_lst ?_ | refine r_ife ?_ | refine r_if1 ?_ | refine r_if0 ?_ | refine r_and ?_ | refine r_or ?_ | refine r_not ?_ | refine r_bool ?_ | refine r_asB ?_ | refine r_tru ?_ | refine r_truB ?_ | refine r_truI ?_ | refine r_andV ?_ | refine r_orV ?_ | refine r_andV1 ?_ | refine r_andV0 ?_ | refine r_orV1 ?_ | refine r_orV0 ?_ | refine r_notV ?_ | refine r_call ?_ | refine r_meth ?_ | refine r_addI ?_ | refine r_subI ?_ | refine r_negI ?_ | refine r_andI ?_ | refine r_ltI ?_ | refine r_gtI ?_ | refine r_leI ?_ | refine r_geI ?_ | refine r_eqI ?_ | refine r_eqS ?_ | refine r_neI ?_ | refine r_neS ?_ | refine r_is0 ?_ | refine r_is1 ?_ | refine r_is2 ?_ | refine r_is3 ?_ | refine r_isn0 ?_ | refine r_isn1 ?_ | refine r_isn2 ?_ | refine r_isn3 ?_ | refine r_lenT ?_ | refine r_intI ?_ | refine r_absI ?_ | refine r_sl ?_ | refine r_no ?_ | refine r_part ?_ | refine r_asP ?_ | refine r_slT ?_ | refine r_slR ?_ | refine r_iter ?_ | refine r_asT ?_ | refine r_asPt ?_ | refine r_asRo ?_ | refine r_rng1 ?_ | refine r_gNm ?_ | refine r_gIx ?_ | refine r_comp ?_ | refine r_chain ?_ | refine r_chn1 ?_ | refine r_chn0 ?_ | refine r_isi ?_ | refine r_newL ?_ | refine r_ok ?_) | ((with_reducible (first | refine e_var ?_ | refine e_ixT ?_ | refine e_gTp ?_)); refine ⟨_, rfl, ?_⟩) | ((with_reducible (first | refine r_mkT ?_ ?_ | refine r_mkP ?_ ?_ | refine r_mkL ?_ ?_)); exact Nat.le_of_ble_eq_true rfl) | ((with_reducible (first | refine e_mth ?_ | refine e_lenO ?_ | refine e_asO ?_ | refine e_truO ?_ | refine e_tupleO ?_ | refine e_tupleP ?_ | refine e_slO ?_ | refine e_reverse ?_ | refine e_listO ?_)); refine ⟨_, (by assumption), ?_⟩) | ((with_reducible (first | refine e_ixO ?_ | refine e_set ?_)); refine ⟨_, (by assumption), _, rfl, ?_⟩) | ((with_reducible (first | refine r_mulI ?_ ?_)); first | exact mul_ok (Or.inr (by decide)) | exact mul_ok (Or.inl (by decide))) | ((with_reducible (first | refine r_modI ?_ ?_ | refine r_fdvI ?_ ?_ | refine r_powI ?_ ?_)); decide) | dsimp only [endP])
          refine r_ixT atI_0 ?_
          repeat (first | with_reducible (first | refine zs_seq ?_ | refine zs_asg ?_ | refine zs_drop ?_ | refine zs_ret ?_ | refine zs_retN ?_ | refine zs_next ?_ | refine zs_brk ?_ | refine zs_cnt ?_ | refine zs_if ?_ | refine zs_for ?_ | refine zs_while ?_ | refine z_true ?_ | refine z_false ?_ | refine r_k ?_ | refine r_op ?_ | refine r_un ?_ | refine r_nil ?_ | refine r_cons ?_ | refine r_tup ?_ | refine r_ptp ?_ | refine r_lst ?_ | refine r_ife ?_ | refine r_if1 ?_ | refine r_if0 ?_ | refine r_and ?_ | refine r_or ?_ | refine r_not ?_ | refine r_bool ?_ | refine r_asB ?_ | refine r_tru ?_ | refine r_truB ?_ | refine r_truI ?_ | refine r_andV ?_ | refine r_orV ?_ | refine r_andV1 ?_ | refine r_andV0 ?_ | refine r_orV1 ?_ | refine r_orV0 ?_ | refine r_notV ?_ | refine r_call ?_ | refine r_meth ?_ | refine r_addI ?_ | refine r_subI ?_ | refine r_negI ?_ | refine r_andI ?_ | refine r_ltI ?_ | refine r_gtI ?_ | refine r_leI ?_ | refine r_geI ?_ | refine r_eqI ?_ | refine r_eqS ?_ | refine r_neI ?_ | refine r_neS ?_ | refine r_is0 ?_ | refine r_is1 ?_ | refine r_is2 ?_ | refine r_is3 ?_ | refine r_isn0 ?_ | refine r_isn1 ?_ | refine r_isn2 ?_ | refine r_isn3 ?_ | refine r_lenT ?_ | refine r_intI ?_ | refine r_absI ?_ | refine r_sl ?_ | refine r_no ?_ | refine r_part ?_ | refine r_asP ?_ | refine r_slT ?_ | refine r_slR ?_ | refine r_iter ?_ | refine r_asT ?_ | refine r_asPt ?_ | refine r_asRo ?_ | refine r_rng1 ?_ | refine r_gNm ?_ | refine r_gIx ?_ | refine r_comp ?_ | refine r_chain ?_ | refine r_chn1 ?_ | refine r_chn0 ?_ | refine r_isi ?_ | refine r_newL ?_ | refine r_ok ?_) | ((with_reducible (first | refine e_var ?_ | refine e_ixT ?_ | refine e_gTp ?_)); refine ⟨_, rfl, ?_⟩) | ((with_reducible (first | refine r_mkT ?_ ?_ | refine r_mkP ?_ ?_ | refine r_mkL ?_ ?_)); exact Nat.le_of_ble_eq_true rfl) | ((with_reducible (first | refine e_mth ?_ | refine e_lenO ?_ | refine e_asO ?_ | refine e_truO ?_ | refine e_tupleO ?_ | refine e_tupleP ?_ | refine e_slO ?_ | refine e_reverse ?_ | refine e_listO ?_)); refine ⟨_, (by assumption), ?_⟩) | ((with_reducible (first | refine e_ixO ?_ | refine e_set ?_)); refine ⟨_, (by assumption), _, rfl, ?_⟩) | ((with_reducible (first | refine r_mulI ?_ ?_)); first | exact mul_ok (Or.inr (by decide)) | exact mul_ok (Or.inl (by decide))) | ((with_reducible (first | refine r_modI ?_ ?_ | refine r_fdvI ?_ ?_ | refine r_powI ?_ ?_)); decide) | dsimp only [endP])
          rw [ew, Bool.not_not]
          refine ⟨fun hb2 => ?_, fun hb2 => ?_⟩
          · repeat (first | with_reducible (first | refine zs_seq ?_ | refine zs_asg ?_ | refine zs_drop ?_ | refine zs_ret ?_ | refine zs_retN ?_ | refine zs_next ?_ | refine zs_brk ?_ | refine zs_cnt ?_ | refine zs_if ?_ | refine zs_for ?_ | refine zs_while ?_ | refine z_true ?_ | refine z_false ?_ | refine r_k ?_ | refine r_op ?_ | refine r_un ?_ | refine r_nil ?_ | refine r_cons ?_ | refine r_tup ?_ | refine r_ptp ?_ | refine r_lst ?_ | refine r_ife ?_ | refine r_if1 ?_ | refine r_if0 ?_ | refine r_and ?_ | refine r_or ?_ | refine r_not ?_ | refine r_bool ?_ | refine r_asB ?_ | refine r_tru ?_ | refine r_truB ?_ | refine r_truI ?_ | refine r_andV ?_ | refine r_orV ?_ | refine r_andV1 ?_ | refine r_andV0 ?_ | refine r_orV1 ?_ | refine r_orV0 ?_ | refine r_notV ?_ | refine r_call ?_ | refine r_meth ?_ | refine r_addI ?_ | refine r_subI ?_ | refine r_negI ?_ | refine r_andI ?_ | refine r_ltI ?_ | refine r_gtI ?_ | refine r_leI ?_ | refine r_geI ?_ | refine r_eqI ?_ | refine r_eqS ?_ | refine r_neI ?_ | refine r_neS ?_ | refine r_is0 ?_ | refine r_is1 ?_ | refine r_is2 ?_ | refine r_is3 ?_ | refine r_isn0 ?_ | refine r_isn1 ?_ | refine r_isn2 ?_ | refine r_isn3 ?_ | refine r_lenT ?_ | refine r_intI ?_ | refine r_absI ?_ | refine r_sl ?_ | refine r_no ?_ | refine r_part ?_ | refine r_asP ?_ | refine r_slT ?_ | refine r_slR ?_ | refine r_iter ?_ | refine r_asT ?_ | refine r_asPt ?_ | refine r_asRo ?_ | refine r_rng1 ?_ | refine r_gNm ?_ | refine r_gIx ?_ | refine r_comp ?_ | refine r_chain ?_ | refine r_chn1 ?_ | refine r_chn0 ?_ | refine r_isi ?_ | refine r_newL ?_ | refine r_ok ?_) | ((with_reducible (first | refine e_var ?_ | refine e_ixT ?_ | refine e_gTp ?_)); refine ⟨_, rfl, ?_⟩) | ((with_reducible (first | refine r_mkT ?_ ?_ | refine r_mkP ?_ ?_ | refine r_mkL ?_ ?_)); exact Nat.le_of_ble_eq_true rfl) | ((with_reducible (first | refine e_mth ?_ | refine e_lenO ?_ | refine e_asO ?_ | refine e_truO ?_ | refine e_tupleO ?_ | refine e_tupleP ?_ | refine e_slO ?_ | refine e_reverse ?_ | refine e_listO ?_)); refine ⟨_, (by assumption), ?_⟩) | ((with_reducible (first | refine e_ixO ?_ | refine e_set ?_)); refine ⟨_, (by assumption), _, rfl, ?_⟩) | ((with_reducible (first | refine r_mulI ?_ ?_)); first | exact mul_ok (Or.inr (by decide)) | exact mul_ok (Or.inl (by decide))) | ((with_reducible (first | refine r_modI ?_ ?_ | refine r_fdvI ?_ ?_ | refine r_powI ?_ ?_)); decide) | dsimp only [endP])
            refine ⟨lt_line (by simp; omega), rfl, ks ++ [i], by simp, by simp; omega, fun k hk => ?_, fun _ => by simp⟩
            rcases List.mem_append.mp hk with hk | hk
            · exact hb k hk
            · rw [List.mem_singleton] at hk; subst hk; exact hi
          · refine ⟨rfl, ks, rfl, by omega, hb, fun ⟨j, hj, s, e1, e2⟩ => hne ⟨j, ?_, s, e1, e2⟩⟩
            rcases Nat.lt_or_eq_of_le (Nat.le_of_lt_succ hj) with hj | hj
            · exact hj
            · subst hj
              rw [List.getElem?_eq_getElem hi] at e1
              cases e1
              rw [hb2] at e2
              cases e2
        · rintro acc _ ⟨rfl, ks, rfl, hkl, hb, hne⟩
          refine ⟨by rw [List.length_map]; simpa using itR_end, ?_⟩
          repeat (first | with_reducible (first | refine zs_seq ?_ | refine zs_asg ?_ | refine zs_drop ?_ | refine zs_ret ?_ | refine zs_retN ?_ | refine zs_next ?_ | refine zs_brk ?_ | refine zs_cnt ?_ | refine zs_if ?_ | refine zs_for ?_ | refine zs_while ?_ | refine z_true ?_ | refine z_false ?_ | refine r_k ?_ | refine r_op ?_ | refine r_un ?_ | refine r_nil ?_ | refine r_cons ?_ | refine r_tup ?_ | refine r_ptp ?_ | refine r_lst ?_ | refine r_ife ?_ | refine r_if1 ?_ | refine r_if0 ?_ | refine r_and ?_ | refine r_or ?_ | refine r_not ?_ | refine r_bool ?_ | refine r_asB ?_ | refine r_tru ?_ | refine r_truB ?_ | refine r_truI ?_ | refine r_andV ?_ | refine r_orV ?_ | refine r_andV1 ?_ | refine r_andV0 ?_ | refine r_orV1 ?_ | refine r_orV0 ?_ | refine r_notV ?_ | refine r_call ?_ | refine r_meth ?_ | refine r_addI ?_ | refine r_subI ?_ | refine r_negI ?_ | refine r_andI ?_ | refine r_ltI ?_ | refine r_gtI ?_ | refine r_leI ?_ | refine r_geI ?_ | refine r_eqI ?_ | refine r_eqS ?_ | refine r_neI ?_ | refine r_neS ?_ | refine r_is0 ?_ | refine r_is1 ?_ | refine r_is2 ?_ | refine r_is3 ?_ | refine r_isn0 ?_ | refine r_isn1 ?_ | refine r_isn2 ?_ | refine r_isn3 ?_ | refine r_lenT ?_ | refine r_intI ?_ | refine r_absI ?_ | refine r_sl ?_ | refine r_no ?_ | refine r_part ?_ | refine r_asP ?_ | refine r_slT ?_ | refine r_slR ?_ | refine r_iter ?_ | refine r_asT ?_ | refine r_asPt ?_ | refine r_asRo ?_ | refine r_rng1 ?_ | refine r_gNm ?_ | refine r_gIx ?_ | refine r_comp ?_ | refine r_chain ?_ | refine r_chn1 ?_ | refine r_chn0 ?_ | refine r_isi ?_ | refine r_newL ?_ | refine r_ok ?_) | ((with_reducible (first | refine e_var ?_ | refine e_ixT ?_ | refine e_gTp ?_)); refine ⟨_, rfl, ?_⟩) | ((with_reducible (first | refine r_mkT ?_ ?_ | refine r_mkP ?_ ?_ | refine r_mkL ?_ ?_)); exact Nat.le_of_ble_eq_true rfl) | ((with_reducible (first | refine e_mth ?_ | refine e_lenO ?_ | refine e_asO ?_ | refine e_truO ?_ | refine e_tupleO ?_ | refine e_tupleP ?_ | refine e_slO ?_ | refine e_reverse ?_ | refine e_listO ?_)); refine ⟨_, (by assumption), ?_⟩) | ((with_reducible (first | refine e_ixO ?_ | refine e_set ?_)); refine ⟨_, (by assumption), _, rfl, ?_⟩) | ((with_reducible (first | refine r_mulI ?_ ?_)); first | exact mul_ok (Or.inr (by decide)) | exact mul_ok (Or.inl (by decide))) | ((with_reducible (first | refine r_modI ?_ ?_ | refine r_fdvI ?_ ?_ | refine r_powI ?_ ?_)); decide) | dsimp only [endP])
          have hk0 : ks ≠ [] := by
            obtain ⟨s, h1, h2⟩ := hss
            obtain ⟨j, hj, e⟩ := List.mem_iff_getElem.mp h1
            exact hne ⟨j, hj, s, by rw [List.getElem?_eq_getElem hj, e], h2⟩
          have hk1 := List.length_pos_iff.mpr hk0
          refine r_lenO push_at ?_
          repeat (first | with_reducible (first | refine zs_seq ?_ | refine zs_asg ?_ | refine zs_drop ?_ | refine zs_ret ?_ | refine zs_retN ?_ | refine zs_next ?_ | refine zs_brk ?_ | refine zs_cnt ?_ | refine zs_if ?_ | refine zs_for ?_ | refine zs_while ?_ | refine z_true ?_ | refine z_false ?_ | refine r_k ?_ | refine r_op ?_ | refine r_un ?_ | refine r_nil ?_ | refine r_cons ?_ | refine r_tup ?_ | refine r_ptp ?_ | refine r_lst ?_ | refine r_ife ?_ | refine r_if1 ?_ | refine r_if0 ?_ | refine r_and ?_ | refine r_or ?_ | refine r_not ?_ | refine r_bool ?_ | refine r_asB ?_ | refine r_tru ?_ | refine r_truB ?_ | refine r_truI ?_ | refine r_andV ?_ | refine r_orV ?_ | refine r_andV1 ?_ | refine r_andV0 ?_ | refine r_orV1 ?_ | refine r_orV0 ?_ | refine r_notV ?_ | refine r_call ?_ | refine r_meth ?_ | refine r_addI ?_ | refine r_subI ?_ | refine r_negI ?_ | refine r_andI ?_ | refine r_ltI ?_ | refine r_gtI ?_ | refine r_leI ?_ | refine r_geI ?_ | refine r_eqI ?_ | refine r_eqS ?_ | refine r_neI ?_ | refine r_neS ?_ | refine r_is0 ?_ | refine r_is1 ?_ | refine r_is2 ?_ | refine r_is3 ?_ | refine r_isn0 ?_ | refine r_isn1 ?_ | refine r_isn2 ?_ | refine r_isn3 ?_ | refine r_lenT ?_ | refine r_intI ?_ | refine r_absI ?_ | refine r_sl ?_ | refine r_no ?_ | refine r_part ?_ | refine r_asP ?_ | refine r_slT ?_ | refine r_slR ?_ | refine r_iter ?_ | refine r_asT ?_ | refine r_asPt ?_ | refine r_asRo ?_ | refine r_rng1 ?_ | refine r_gNm ?_ | refine r_gIx ?_ | refine r_comp ?_ | refine r_chain ?_ | refine r_chn1 ?_ | refine r_chn0 ?_ | refine r_isi ?_ | refine r_newL ?_ | refine r_ok ?_) | ((with_reducible (first | refine e_var ?_ | refine e_ixT ?_ | refine e_gTp ?_)); refine ⟨_, rfl, ?_⟩) | ((with_reducible (first | refine r_mkT ?_ ?_ | refine r_mkP ?_ ?_ | refine r_mkL ?_ ?_)); exact Nat.le_of_ble_eq_true rfl) | ((with_reducible (first | refine e_mth ?_ | refine e_lenO ?_ | refine e_asO ?_ | refine e_truO ?_ | refine e_tupleO ?_ | refine e_tupleP ?_ | refine e_slO ?_ | refine e_reverse ?_ | refine e_listO ?_)); refine ⟨_, (by assumption), ?_⟩) | ((with_reducible (first | refine e_ixO ?_ | refine e_set ?_)); refine ⟨_, (by assumption), _, rfl, ?_⟩) | ((with_reducible (first | refine r_mulI ?_ ?_)); first | exact mul_ok (Or.inr (by decide)) | exact mul_ok (Or.inl (by decide))) | ((with_reducible (first | refine r_modI ?_ ?_ | refine r_fdvI ?_ ?_ | refine r_powI ?_ ?_)); decide) | dsimp only [endP])
          refine (draw_ok (P1.ext Ext.push) (by simp only [List.length_map]; omega) (by simp only [List.length_map]; omega)).to ?_
          rintro _ s2 ⟨r, rfl, u0, u1, P2, x2⟩
          have hlt := P1.lt
          have hll := (List.getElem?_eq_some_iff.mp hs1).1
          have x1l := x1.len
          have hks := x2.get push_at (by simp; omega)
          have hs2 := x2.get (get_push hs1) (by simp; omega)
          obtain ⟨d, e1, e2⟩ := atI_of (xs := ks.map fun k => D.int (k : Nat)) u0 u1
          obtain ⟨k, rfl⟩ : ∃ k : Nat, d = .int k := by
            rw [List.getElem?_map] at e2
            cases e : ks[r.toNat]? with
            | none => rw [e] at e2; cases e2
            | some z => rw [e] at e2; exact ⟨z, (Option.some.inj e2).symm⟩
          refine r_ixO hks e1 ?_
          repeat (first | with_reducible (first | refine zs_seq ?_ | refine zs_asg ?_ | refine zs_drop ?_ | refine zs_ret ?_ | refine zs_retN ?_ | refine zs_next ?_ | refine zs_brk ?_ | refine zs_cnt ?_ | refine zs_if ?_ | refine zs_for ?_ | refine zs_while ?_ | refine z_true ?_ | refine z_false ?_ | refine r_k ?_ | refine r_op ?_ | refine r_un ?_ | refine r_nil ?_ | refine r_cons ?_ | refine r_tup ?_ | refine r_ptp ?_ | refine r_lst ?_ | refine r_ife ?_ | refine r_if1 ?_ | refine r_if0 ?_ | refine r_and ?_ | refine r_or ?_ | refine r_not ?_ | refine r_bool ?_ | refine r_asB ?_ | refine r_tru ?_ | refine r_truB ?_ | refine r_truI ?_ | refine r_andV ?_ | refine r_orV ?_ | refine r_andV1 ?_ | refine r_andV0 ?_ | refine r_orV1 ?_ | refine r_orV0 ?_ | refine r_notV ?_ | refine r_call ?_ | refine r_meth ?_ | refine r_addI ?_ | refine r_subI ?_ | refine r_negI ?_ | refine r_andI ?_ | refine r_ltI ?_ | refine r_gtI ?_ | refine r_leI ?_ | refine r_geI ?_ | refine r_eqI ?_ | refine r_eqS ?_ | refine r_neI ?_ | refine r_neS ?_ | refine r_is0 ?_ | refine r_is1 ?_ | refine r_is2 ?_ | refine r_is3 ?_ | refine r_isn0 ?_ | refine r_isn1 ?_ | refine r_isn2 ?_ | refine r_isn3 ?_ | refine r_lenT ?_ | refine r_intI ?_ | refine r_absI ?_ | refine r_sl ?_ | refine r_no ?_ | refine r_part ?_ | refine r_asP ?_ | refine r_slT ?_ | refine r_slR ?_ | refine r_iter ?_ | refine r_asT ?_ | refine r_asPt ?_ | refine r_asRo ?_ | refine r_rng1 ?_ | refine r_gNm ?_ | refine r_gIx ?_ | refine r_comp ?_ | refine r_chain ?_ | refine r_chn1 ?_ | refine r_chn0 ?_ | refine r_isi ?_ | refine r_newL ?_ | refine r_ok ?_) | ((with_reducible (first | refine e_var ?_ | refine e_ixT ?_ | refine e_gTp ?_)); refine ⟨_, rfl, ?_⟩) | ((with_reducible (first | refine r_mkT ?_ ?_ | refine r_mkP ?_ ?_ | refine r_mkL ?_ ?_)); exact Nat.le_of_ble_eq_true rfl) | ((with_reducible (first | refine e_mth ?_ | refine e_lenO ?_ | refine e_asO ?_ | refine e_truO ?_ | refine e_tupleO ?_ | refine e_tupleP ?_ | refine e_slO ?_ | refine e_reverse ?_ | refine e_listO ?_)); refine ⟨_, (by assumption), ?_⟩) | ((with_reducible (first | refine e_ixO ?_ | refine e_set ?_)); refine ⟨_, (by assumption), _, rfl, ?_⟩) | ((with_reducible (first | refine r_mulI ?_ ?_)); first | exact mul_ok (Or.inr (by decide)) | exact mul_ok (Or.inl (by decide))) | ((with_reducible (first | refine r_modI ?_ ?_ | refine r_fdvI ?_ ?_ | refine r_powI ?_ ?_)); decide) | dsimp only [endP])
          refine r_slO (get_push hs2) ?_
          rw [cut_to, ← List.map_take, show (k : Int) + 1 = ((k + 1 : Nat) : Int) by omega, cut_from, ← List.map_drop]
          repeat (first | with_reducible (first | refine zs_seq ?_ | refine zs_asg ?_ | refine zs_drop ?_ | refine zs_ret ?_ | refine zs_retN ?_ | refine zs_next ?_ | refine zs_brk ?_ | refine zs_cnt ?_ | refine zs_if ?_ | refine zs_for ?_ | refine zs_while ?_ | refine z_true ?_ | refine z_false ?_ | refine r_k ?_ | refine r_op ?_ | refine r_un ?_ | refine r_nil ?_ | refine r_cons ?_ | refine r_tup ?_ | refine r_ptp ?_ | refine r_lst ?_ | refine r_ife ?_ | refine r_if1 ?_ | refine r_if0 ?_ | refine r_and ?_ | refine r_or ?_ | refine r_not ?_ | refine r_bool ?_ | refine r_asB ?_ | refine r_tru ?_ | refine r_truB ?_ | refine r_truI ?_ | refine r_andV ?_ | refine r_orV ?_ | refine r_andV1 ?_ | refine r_andV0 ?_ | refine r_orV1 ?_ | refine r_orV0 ?_ | refine r_notV ?_ | refine r_call ?_ | refine r_meth ?_ | refine r_addI ?_ | refine r_subI ?_ | refine r_negI ?_ | refine r_andI ?_ | refine r_ltI ?_ | refine r_gtI ?_ | refine r_leI ?_ | refine r_geI ?_ | refine r_eqI ?_ | refine r_eqS ?_ | refine r_neI ?_ | refine r_neS ?_ | refine r_is0 ?_ | refine r_is1 ?_ | refine r_is2 ?_ | refine r_is3 ?_ | refine r_isn0 ?_ | refine r_isn1 ?_ | refine r_isn2 ?_ | refine r_isn3 ?_ | refine r_lenT ?_ | refine r_intI ?_ | refine r_absI ?_ | refine r_sl ?_ | refine r_no ?_ | refine r_part ?_ | refine r_asP ?_ | refine r_slT ?_ | refine r_slR ?_ | refine r_iter ?_ | refine r_asT ?_ | refine r_asPt ?_ | refine r_asRo ?_ | refine r_rng1 ?_ | refine r_gNm ?_ | refine r_gIx ?_ | refine r_comp ?_ | refine r_chain ?_ | refine r_chn1 ?_ | refine r_chn0 ?_ | refine r_isi ?_ | refine r_newL ?_ | refine r_ok ?_) | ((with_reducible (first | refine e_var ?_ | refine e_ixT ?_ | refine e_gTp ?_)); refine ⟨_, rfl, ?_⟩) | ((with_reducible (first | refine r_mkT ?_ ?_ | refine r_mkP ?_ ?_ | refine r_mkL ?_ ?_)); exact Nat.le_of_ble_eq_true rfl) | ((with_reducible (first | refine e_mth ?_ | refine e_lenO ?_ | refine e_asO ?_ | refine e_truO ?_ | refine e_tupleO ?_ | refine e_tupleP ?_ | refine e_slO ?_ | refine e_reverse ?_ | refine e_listO ?_)); refine ⟨_, (by assumption), ?_⟩) | ((with_reducible (first | refine e_ixO ?_ | refine e_set ?_)); refine ⟨_, (by assumption), _, rfl, ?_⟩) | ((with_reducible (first | refine r_mulI ?_ ?_)); first | exact mul_ok (Or.inr (by decide)) | exact mul_ok (Or.inl (by decide))) | ((with_reducible (first | refine r_modI ?_ ?_ | refine r_fdvI ?_ ?_ | refine r_powI ?_ ?_)); decide) | dsimp only [endP])
          refine r_addL (get_push push_at) push_at (le_line (by simp; omega)) ?_
          repeat (first | with_reducible (first | refine zs_seq ?_ | refine zs_asg ?_ | refine zs_drop ?_ | refine zs_ret ?_ | refine zs_retN ?_ | refine zs_next ?_ | refine zs_brk ?_ | refine zs_cnt ?_ | refine zs_if ?_ | refine zs_for ?_ | refine zs_while ?_ | refine z_true ?_ | refine z_false ?_ | refine r_k ?_ | refine r_op ?_ | refine r_un ?_ | refine r_nil ?_ | refine r_cons ?_ | refine r_tup ?_ | refine r_ptp ?_ | refine r_lst ?_ | refine r_ife ?_ | refine r_if1 ?_ | refine r_if0 ?_ | refine r_and ?_ | refine r_or ?_ | refine r_not ?_ | refine r_bool ?_ | refine r_asB ?_ | refine r_tru ?_ | refine r_truB ?_ | refine r_truI ?_ | refine r_andV ?_ | refine r_orV ?_ | refine r_andV1 ?_ | refine r_andV0 ?_ | refine r_orV1 ?_ | refine r_orV0 ?_ | refine r_notV ?_ | refine r_call ?_ | refine r_meth ?_ | refine r_addI ?_ | refine r_subI ?_ | refine r_negI ?_ | refine r_andI ?_ | refine r_ltI ?_ | refine r_gtI ?_ | refine r_leI ?_ | refine r_geI ?_ | refine r_eqI ?_ | refine r_eqS ?_ | refine r_neI ?_ | refine r_neS ?_ | refine r_is0 ?_ | refine r_is1 ?_ | refine r_is2 ?_ | refine r_is3 ?_ | refine r_isn0 ?_ | refine r_isn1 ?_ | refine r_isn2 ?_ | refine r_isn3 ?_ | refine r_lenT ?_ | refine r_intI ?_ | refine r_absI ?_ | refine r_sl ?_ | refine r_no ?_ | refine r_part ?_ | refine r_asP ?_ | refine r_slT ?_ | refine r_slR ?_ | refine r_iter ?_ | refine r_asT ?_ | refine r_asPt ?_ | refine r_asRo ?_ | refine r_rng1 ?_ | refine r_gNm ?_ | refine r_gIx ?_ | refine r_comp ?_ | refine r_chain ?_ | refine r_chn1 ?_ | refine r_chn0 ?_ | refine r_isi ?_ | refine r_newL ?_ | refine r_ok ?_) | ((with_reducible (first | refine e_var ?_ | refine e_ixT ?_ | refine e_gTp ?_)); refine ⟨_, rfl, ?_⟩) | ((with_reducible (first | refine r_mkT ?_ ?_ | refine r_mkP ?_ ?_ | refine r_mkL ?_ ?_)); exact Nat.le_of_ble_eq_true rfl) | ((with_reducible (first | refine e_mth ?_ | refine e_lenO ?_ | refine e_asO ?_ | refine e_truO ?_ | refine e_tupleO ?_ | refine e_tupleP ?_ | refine e_slO ?_ | refine e_reverse ?_ | refine e_listO ?_)); refine ⟨_, (by assumption), ?_⟩) | ((with_reducible (first | refine e_ixO ?_ | refine e_set ?_)); refine ⟨_, (by assumption), _, rfl, ?_⟩) | ((with_reducible (first | refine r_mulI ?_ ?_)); first | exact mul_ok (Or.inr (by decide)) | exact mul_ok (Or.inl (by decide))) | ((with_reducible (first | refine r_modI ?_ ?_ | refine r_fdvI ?_ ?_ | refine r_powI ?_ ?_)); decide) | dsimp only [endP])
          exact ⟨_, _, _, ss.take k ++ ss.drop (k + 1), rfl, by rw [push_at, List.map_append], by simp; omega, ((P2.ext Ext.push).ext Ext.push).ext Ext.push, (((((x1.trans Ext.push).trans x2).trans Ext.push).trans Ext.push).trans Ext.push)⟩
      · repeat (first | with_reducible (first | refine zs_seq ?_ | refine zs_asg ?_ | refine zs_drop ?_ | refine zs_ret ?_ | refine zs_retN ?_ | refine zs_next ?_ | refine zs_brk ?_ | refine zs_cnt ?_ | refine zs_if ?_ | refine zs_for ?_ | refine zs_while ?_ | refine z_true ?_ | refine z_false ?_ | refine r_k ?_ | refine r_op ?_ | refine r_un ?_ | refine r_nil ?_ | refine r_cons ?_ | refine r_tup ?_ | refine r_ptp ?_ | refine r_lst ?_ | refine r_ife ?_ | refine r_if1 ?_ | refine r_if0 ?_ | refine r_and ?_ | refine r_or ?_ | refine r_not ?_ | refine r_bool ?_ | refine r_asB ?_ | refine r_tru ?_ | refine r_truB ?_ | refine r_truI ?_ | refine r_andV ?_ | refine r_orV ?_ | refine r_andV1 ?_ | refine r_andV0 ?_ | refine r_orV1 ?_ | refine r_orV0 ?_ | refine r_notV ?_ | refine r_call ?_ | refine r_meth ?_ | refine r_addI ?_ | refine r_subI ?_ | refine r_negI ?_ | refine r_andI ?_ | refine r_ltI ?_ | refine r_gtI ?_ | refine r_leI ?_ | refine r_geI ?_ | refine r_eqI ?_ | refine r_eqS ?_ | refine r_neI ?_ | refine r_neS ?_ | refine r_is0 ?_ | refine r_is1 ?_ | refine r_is2 ?_ | refine r_is3 ?_ | refine r_isn0 ?_ | refine r_isn1 ?_ | refine r_isn2 ?_ | refine r_isn3 ?_ | refine r_lenT ?_ | refine r_intI ?_ | refine r_absI ?_ | refine r_sl ?_ | refine r_no ?_ | refine r_part ?_ | refine r_asP ?_ | refine r_slT ?_ | refine r_slR ?_ | refine r_iter ?_ | refine r_asT ?_ | refine r_asPt ?_ | refine r_asRo ?_ | refine r_rng1 ?_ | refine r_gNm ?_ | refine r_gIx ?_ | refine r_comp ?_ | refine r_chain ?_ | refine r_chn1 ?_ | refine r_chn0 ?_ | refine r_isi ?_ | refine r_newL ?_ | refine r_ok ?_) | ((with_reducible (first | refine e_var ?_ | refine e_ixT ?_ | refine e_gTp ?_)); refine ⟨_, rfl, ?_⟩) | ((with_reducible (first | refine r_mkT ?_ ?_ | refine r_mkP ?_ ?_ | refine r_mkL ?_ ?_)); exact Nat.le_of_ble_eq_true rfl) | ((with_reducible (first | refine e_mth ?_ | refine e_lenO ?_ | refine e_asO ?_ | refine e_truO ?_ | refine e_tupleO ?_ | refine e_tupleP ?_ | refine e_slO ?_ | refine e_reverse ?_ | refine e_listO ?_)); refine ⟨_, (by assumption), ?_⟩) | ((with_reducible (first | refine e_ixO ?_ | refine e_set ?_)); refine ⟨_, (by assumption), _, rfl, ?_⟩) | ((with_reducible (first | refine r_mulI ?_ ?_)); first | exact mul_ok (Or.inr (by decide)) | exact mul_ok (Or.inl (by decide))) | ((with_reducible (first | refine r_modI ?_ ?_ | refine r_fdvI ?_ ?_ | refine r_powI ?_ ?_)); decide) | dsimp only [endP])
        exact ⟨l, _, _, ss, rfl, hs1, hl, P1, x1⟩
    · repeat (first | with_reducible (first | refine zs_seq ?_ | refine zs_asg ?_ | refine zs_drop ?_ | refine zs_ret ?_ | refine zs_retN ?_ | refine zs_next ?_ | refine zs_brk ?_ | refine zs_cnt ?_ | refine zs_if ?_ | refine zs_for ?_ | refine zs_while ?_ | refine z_true ?_ | refine z_false ?_ | refine r_k ?_ | refine r_op ?_ | refine r_un ?_ | refine r_nil ?_ | refine r_cons ?_ | refine r_tup ?_ | refine r_ptp ?_ | refine r_lst ?_ | refine r_ife ?_ | refine r_if1 ?_ | refine r_if0 ?_ | refine r_and ?_ | refine r_or ?_ | refine r_not ?_ | refine r_bool ?_ | refine r_asB ?_ | refine r_tru ?_ | refine r_truB ?_ | refine r_truI ?_ | refine r_andV ?_ | refine r_orV ?_ | refine r_andV1 ?_ | refine r_andV0 ?_ | refine r_orV1 ?_ | refine r_orV0 ?_ | refine r_notV ?_ | refine r_call ?_ | refine r_meth ?_ | refine r_addI ?_ | refine r_subI ?_ | refine r_negI ?_ | refine r_andI ?_ | refine r_ltI ?_ | refine r_gtI ?_ | refine r_leI ?_ | refine r_geI ?_ | refine r_eqI ?_ | refine r_eqS ?_ | refine r_neI ?_ | refine r_neS ?_ | refine r_is0 ?_ | refine r_is1 ?_ | refine r_is2 ?_ | refine r_is3 ?_ | refine r_isn0 ?_ | refine r_isn1 ?_ | refine r_isn2 ?_ | refine r_isn3 ?_ | refine r_lenT ?_ | refine r_intI ?_ | refine r_absI ?_ | refine r_sl ?_ | refine r_no ?_ | refine r_part ?_ | refine r_asP ?_ | refine r_slT ?_ | refine r_slR ?_ | refine r_iter ?_ | refine r_asT ?_ | refine r_asPt ?_ | refine r_asRo ?_ | refine r_rng1 ?_ | refine r_gNm ?_ | refine r_gIx ?_ | refine r_comp ?_ | refine r_chain ?_ | refine r_chn1 ?_ | refine r_chn0 ?_ | refine r_isi ?_ | refine r_newL ?_ | refine r_ok ?_) | ((with_reducible (first | refine e_var ?_ | refine e_ixT ?_ | refine e_gTp ?_)); refine ⟨_, rfl, ?_⟩) | ((with_reducible (first | refine r_mkT ?_ ?_ | refine r_mkP ?_ ?_ | refine r_mkL ?_ ?_)); exact Nat.le_of_ble_eq_true rfl) | ((with_reducible (first | refine e_mth ?_ | refine e_lenO ?_ | refine e_asO ?_ | refine e_truO ?_ | refine e_tupleO ?_ | refine e_tupleP ?_ | refine e_slO ?_ | refine e_reverse ?_ | refine e_listO ?_)); refine ⟨_, (by assumption), ?_⟩) | ((with_reducible (first | refine e_ixO ?_ | refine e_set ?_)); refine ⟨_, (by assumption), _, rfl, ?_⟩) | ((with_reducible (first | refine r_mulI ?_ ?_)); first | exact mul_ok (Or.inr (by decide)) | exact mul_ok (Or.inl (by decide))) | ((with_reducible (first | refine r_modI ?_ ?_ | refine r_fdvI ?_ ?_ | refine r_powI ?_ ?_)); decide) | dsimp only [endP])
      exact ⟨l, _, _, ss, rfl, hs1, hl, P1, x1⟩
  · rintro _ s ⟨l, y, z, ss, rfl, hs, hl, P, x⟩
    repeat (first | with_reducible (first | refine zs_seq ?_ | refine zs_asg ?_ | refine zs_drop ?_ | refine zs_ret ?_ | refine zs_retN ?_ | refine zs_next ?_ | refine zs_brk ?_ | refine zs_cnt ?_ | refine zs_if ?_ | refine zs_for ?_ | refine zs_while ?_ | refine z_true ?_ | refine z_false ?_ | refine r_k ?_ | refine r_op ?_ | refine r_un ?_ | refine r_nil ?_ | refine r_cons ?_ | refine r_tup ?_ | refine r_ptp ?_ | refine r_lst ?_ | refine r_ife ?_ | refine r_if1 ?_ | refine r_if0 ?_ | refine r_and ?_ | refine r_or ?_ | refine r_not ?_ | refine r_bool ?_ | refine r_asB ?_ | refine r_tru ?_ | refine r_truB ?_ | refine r_truI ?_ | refine r_andV ?_ | refine r_orV ?_ | refine r_andV1 ?_ | refine r_andV0 ?_ | refine r_orV1 ?_ | refine r_orV0 ?_ | refine r_notV ?_ | refine r_call ?_ | refine r_meth ?_ | refine r_addI ?_ | refine r_subI ?_ | refine r_negI ?_ | refine r_andI ?_ | refine r_ltI ?_ | refine r_gtI ?_ | refine r_leI ?_ | refine r_geI ?_ | refine r_eqI ?_ | refine r_eqS ?_ | refine r_neI ?_ | refine r_neS ?_ | refine r_is0 ?_ | refine r_is1 ?_ | refine r_is2 ?_ | refine r_is3 ?_ | refine r_isn0 ?_ | refine r_isn1 ?_ | refine r_isn2 ?_ | refine r_isn3 ?_ | refine r_lenT ?_ | refine r_intI ?_ | refine r_absI ?_ | refine r_sl ?_ | refine r_no ?_ | refine r_part ?_ | refine r_asP ?_ | refine r_slT ?_ | refine r_slR ?_ | refine r_iter ?_ | refine r_asT ?_ | refine r_asPt ?_ | refine r_asRo ?_ | refine r_rng1 ?_ | refine r_gNm ?_ | refine r_gIx ?_ | refine r_comp ?_ | refine r_chain ?_ | refine r_chn1 ?_ | refine r_chn0 ?_ | refine r_isi ?_ | refine r_newL ?_ | refine r_ok ?_) | ((with_reducible (first | refine e_var ?_ | refine e_ixT ?_ | refine e_gTp ?_)); refine ⟨_, rfl, ?_⟩) | ((with_reducible (first | refine r_mkT ?_ ?_ | refine r_mkP ?_ ?_ | refine r_mkL ?_ ?_)); exact Nat.le_of_ble_eq_true rfl) | ((with_reducible (first | refine e_mth ?_ | refine e_lenO ?_ | refine e_asO ?_ | refine e_truO ?_ | refine e_tupleO ?_ | refine e_tupleP ?_ | refine e_slO ?_ | refine e_reverse ?_ | refine e_listO ?_)); refine ⟨_, (by assumption), ?_⟩) | ((with_reducible (first | refine e_ixO ?_ | refine e_set ?_)); refine ⟨_, (by assumption), _, rfl, ?_⟩) | ((with_reducible (first | refine r_mulI ?_ ?_)); first | exact mul_ok (Or.inr (by decide)) | exact mul_ok (Or.inl (by decide))) | ((with_reducible (first | refine r_modI ?_ ?_ | refine r_fdvI ?_ ?_ | refine r_powI ?_ ?_)); decide) | dsimp only [endP])
    exact ⟨ss, rfl, by omega, P, x⟩
end Kw

namespace Kw
open Kc PySem
theorem pair_ok {p c : Nat} {st : Sto} (h : Bx p c st) : RW (F_law_pair [.obj p] st) (fun d st' => ∃ (ns : List Int) (ss : List Sp), d = .tup [.tup (ns.map D.int), .tup (ss.map Sp.d)] ∧ ns.length ≤ 400 ∧ ss.length ≤ 900 ∧ Bx p c st' ∧ Ext [p] st st') noX := by
  refine rw_run rfl ?_
  unfold B_law_pair
  simp only [List.map_cons, List.map_nil, List.cons_append, List.nil_append, List.replicate_succ, List.replicate_zero, Nat.reduceSub]
  repeat (first | with_reducible (first | refine zs_seq ?_ | refine zs_asg ?_ | refine zs_drop ?_ | refine zs_ret ?_ | refine zs_retN ?_ | refine zs_next ?_ | refine zs_brk ?_ | refine zs_cnt ?_ | refine zs_if ?_ | refine zs_for ?_ | refine zs_while ?_ | refine z_true ?_ | refine z_false ?_ | refine r_k ?_ | refine r_op ?_ | refine r_un ?_ | refine r_nil ?_ | refine r_cons ?_ | refine r_tup ?_ | refine r_ptp ?_ | refine r_lst ?_ | refine r_ife ?_ | refine r_if1 ?_ | refine r_if0 ?_ | refine r_and ?_ | refine r_or ?_ | refine r_not ?_ | refine r_bool ?_ | refine r_asB ?_ | refine r_tru ?_ | refine r_truB ?_ | refine r_truI ?_ | refine r_andV ?_ | refine r_orV ?_ | refine r_andV1 ?_ | refine r_andV0 ?_ | refine r_orV1 ?_ | refine r_orV0 ?_ | refine r_notV ?_ | refine r_call ?_ | refine r_meth ?_ | refine r_addI ?_ | refine r_subI ?_ | refine r_negI ?_ | refine r_andI ?_ | refine r_ltI ?_ | refine r_gtI ?_ | refine r_leI ?_ | refine r_geI ?_ | refine r_eqI ?_ | refine r_eqS ?_ | refine r_neI ?_ | refine r_neS ?_ | refine r_is0 ?_ | refine r_is1 ?_ | refine r_is2 ?_ | refine r_is3 ?_ | refine r_isn0 ?_ | refine r_isn1 ?_ | refine r_isn2 ?_ | refine r_isn3 ?_ | refine r_lenT ?_ | refine r_intI ?_ | refine r_absI ?_ | refine r_sl ?_ | refine r_no ?_ | refine r_part ?_ | refine r_asP ?_ | refine r_slT ?_ | refine r_slR ?_ | refine r_iter ?_ | refine r_asT ?_ | refine r_asPt ?_ | refine r_asRo ?_ | refine r_rng1 ?_ | refine r_gNm ?_ | refine r_gIx ?_ | refine r_comp ?_ | refine r_chain ?_ | refine r_chn1 ?_ | refine r_chn0 ?_ | refine r_isi ?_ | refine r_newL ?_ | refine r_ok ?_) | ((with_reducible (first | refine e_var ?_ | refine e_ixT ?_ | refine e_gTp ?_)); refine ⟨_, rfl, ?_⟩) | ((with_reducible (first | refine r_mkT ?_ ?_ | refine r_mkP ?_ ?_ | refine r_mkL ?_ ?_)); exact Nat.le_of_ble_eq_true rfl) | ((with_reducible (first | refine e_mth ?_ | refine e_lenO ?_ | refine e_asO ?_ | refine e_truO ?_ | refine e_tupleO ?_ | refine e_tupleP ?_ | refine e_slO ?_ | refine e_reverse ?_ | refine e_listO ?_)); refine ⟨_, (by assumption), ?_⟩) | ((with_reducible (first | refine e_ixO ?_ | refine e_set ?_)); refine ⟨_, (by assumption), _, rfl, ?_⟩) | ((with_reducible (first | refine r_mulI ?_ ?_)); first | exact mul_ok (Or.inr (by decide)) | exact mul_ok (Or.inl (by decide))) | ((with_reducible (first | refine r_modI ?_ ?_ | refine r_fdvI ?_ ?_ | refine r_powI ?_ ?_)); decide) | dsimp only [endP])
  refine (draw_ok h (by decide) (by decide)).to ?_
  rintro _ s1 ⟨r, rfl, q0, q1, P1, x1⟩
  repeat (first | with_reducible (first | refine zs_seq ?_ | refine zs_asg ?_ | refine zs_drop ?_ | refine zs_ret ?_ | refine zs_retN ?_ | refine zs_next ?_ | refine zs_brk ?_ | refine zs_cnt ?_ | refine zs_if ?_ | refine zs_for ?_ | refine zs_while ?_ | refine z_true ?_ | refine z_false ?_ | refine r_k ?_ | refine r_op ?_ | refine r_un ?_ | refine r_nil ?_ | refine r_cons ?_ | refine r_tup ?_ | refine r_ptp ?_ | refine r_lst ?_ | refine r_ife ?_ | refine r_if1 ?_ | refine r_if0 ?_ | refine r_and ?_ | refine r_or ?_ | refine r_not ?_ | refine r_bool ?_ | refine r_asB ?_ | refine r_tru ?_ | refine r_truB ?_ | refine r_truI ?_ | refine r_andV ?_ | refine r_orV ?_ | refine r_andV1 ?_ | refine r_andV0 ?_ | refine r_orV1 ?_ | refine r_orV0 ?_ | refine r_notV ?_ | refine r_call ?_ | refine r_meth ?_ | refine r_addI ?_ | refine r_subI ?_ | refine r_negI ?_ | refine r_andI ?_ | refine r_ltI ?_ | refine r_gtI ?_ | refine r_leI ?_ | refine r_geI ?_ | refine r_eqI ?_ | refine r_eqS ?_ | refine r_neI ?_ | refine r_neS ?_ | refine r_is0 ?_ | refine r_is1 ?_ | refine r_is2 ?_ | refine r_is3 ?_ | refine r_isn0 ?_ | refine r_isn1 ?_ | refine r_isn2 ?_ | refine r_isn3 ?_ | refine r_lenT ?_ | refine r_intI ?_ | refine r_absI ?_ | refine r_sl ?_ | refine r_no ?_ | refine r_part ?_ | refine r_asP ?_ | refine r_slT ?_ | refine r_slR ?_ | refine r_iter ?_ | refine r_asT ?_ | refine r_asPt ?_ | refine r_asRo ?_ | refine r_rng1 ?_ | refine r_gNm ?_ | refine r_gIx ?_ | refine r_comp ?_ | refine r_chain ?_ | refine r_chn1 ?_ | refine r_chn0 ?_ | refine r_isi ?_ | refine r_newL ?_ | refine r_ok ?_) | ((with_reducible (first | refine e_var ?_ | refine e_ixT ?_ | refine e_gTp ?_)); refine ⟨_, rfl, ?_⟩) | ((with_reducible (first | refine r_mkT ?_ ?_ | refine r_mkP ?_ ?_ | refine r_mkL ?_ ?_)); exact Nat.le_of_ble_eq_true rfl) | ((with_reducible (first | refine e_mth ?_ | refine e_lenO ?_ | refine e_asO ?_ | refine e_truO ?_ | refine e_tupleO ?_ | refine e_tupleP ?_ | refine e_slO ?_ | refine e_reverse ?_ | refine e_listO ?_)); refine ⟨_, (by assumption), ?_⟩) | ((with_reducible (first | refine e_ixO ?_ | refine e_set ?_)); refine ⟨_, (by assumption), _, rfl, ?_⟩) | ((with_reducible (first | refine r_mulI ?_ ?_)); first | exact mul_ok (Or.inr (by decide)) | exact mul_ok (Or.inl (by decide))) | ((with_reducible (first | refine r_modI ?_ ?_ | refine r_fdvI ?_ ?_ | refine r_powI ?_ ?_)); decide) | dsimp only [endP])
  refine (text_ok P1).to ?_
  rintro _ s2 ⟨ns, rfl, hn, P2, x2⟩
  repeat (first | with_reducible (first | refine zq_asg ?_ | refine zq_drop ?_ | refine zs_asg ?_ | refine zs_drop ?_ | refine zs_ret ?_ | refine zs_retN ?_ | refine zs_next ?_ | refine zs_brk ?_ | refine zs_cnt ?_ | refine zs_if ?_ | refine zs_for ?_ | refine zs_while ?_ | refine z_true ?_ | refine z_false ?_ | refine r_k ?_ | refine r_op ?_ | refine r_un ?_ | refine r_nil ?_ | refine r_cons ?_ | refine r_tup ?_ | refine r_ptp ?_ | refine r_lst ?_ | refine r_ife ?_ | refine r_if1 ?_ | refine r_if0 ?_ | refine r_and ?_ | refine r_or ?_ | refine r_not ?_ | refine r_bool ?_ | refine r_asB ?_ | refine r_tru ?_ | refine r_truB ?_ | refine r_truI ?_ | refine r_andV ?_ | refine r_orV ?_ | refine r_andV1 ?_ | refine r_andV0 ?_ | refine r_orV1 ?_ | refine r_orV0 ?_ | refine r_notV ?_ | refine r_call ?_ | refine r_meth ?_ | refine r_addI ?_ | refine r_subI ?_ | refine r_negI ?_ | refine r_andI ?_ | refine r_ltI ?_ | refine r_gtI ?_ | refine r_leI ?_ | refine r_geI ?_ | refine r_eqI ?_ | refine r_eqS ?_ | refine r_neI ?_ | refine r_neS ?_ | refine r_is0 ?_ | refine r_is1 ?_ | refine r_is2 ?_ | refine r_is3 ?_ | refine r_isn0 ?_ | refine r_isn1 ?_ | refine r_isn2 ?_ | refine r_isn3 ?_ | refine r_lenT ?_ | refine r_intI ?_ | refine r_absI ?_ | refine r_sl ?_ | refine r_no ?_ | refine r_part ?_ | refine r_asP ?_ | refine r_slT ?_ | refine r_slR ?_ | refine r_iter ?_ | refine r_asT ?_ | refine r_asPt ?_ | refine r_asRo ?_ | refine r_rng1 ?_ | refine r_gNm ?_ | refine r_gIx ?_ | refine r_comp ?_ | refine r_chain ?_ | refine r_chn1 ?_ | refine r_chn0 ?_ | refine r_isi ?_ | refine r_newL ?_ | refine r_ok ?_) | ((with_reducible (first | refine e_var ?_ | refine e_ixT ?_ | refine e_gTp ?_)); refine ⟨_, rfl, ?_⟩) | ((with_reducible (first | refine r_mkT ?_ ?_ | refine r_mkP ?_ ?_ | refine r_mkL ?_ ?_)); exact Nat.le_of_ble_eq_true rfl) | ((with_reducible (first | refine e_mth ?_ | refine e_lenO ?_ | refine e_asO ?_ | refine e_truO ?_ | refine e_tupleO ?_ | refine e_tupleP ?_ | refine e_slO ?_ | refine e_reverse ?_ | refine e_listO ?_)); refine ⟨_, (by assumption), ?_⟩) | ((with_reducible (first | refine e_ixO ?_ | refine e_set ?_)); refine ⟨_, (by assumption), _, rfl, ?_⟩) | ((with_reducible (first | refine r_mulI ?_ ?_)); first | exact mul_ok (Or.inr (by decide)) | exact mul_ok (Or.inl (by decide))) | ((with_reducible (first | refine r_modI ?_ ?_ | refine r_fdvI ?_ ?_ | refine r_powI ?_ ?_)); decide) | dsimp only [endP])
  refine zs_seq (z_cut (fun e s => ∃ ns : List Int, e = [some (.obj p), some (.int r), some (.tup (ns.map D.int))] ∧ ns.length ≤ 400 ∧ Bx p c s ∧ Ext [p] st s) ?_ ?_)
  · repeat (first | with_reducible (first | refine zs_seq ?_ | refine zs_asg ?_ | refine zs_drop ?_ | refine zs_ret ?_ | refine zs_retN ?_ | refine zs_next ?_ | refine zs_brk ?_ | refine zs_cnt ?_ | refine zs_if ?_ | refine zs_for ?_ | refine zs_while ?_ | refine z_true ?_ | refine z_false ?_ | refine r_k ?_ | refine r_op ?_ | refine r_un ?_ | refine r_nil ?_ | refine r_cons ?_ | refine r_tup ?_ | refine r_ptp ?_ | refine r_lst ?_ | refine r_ife ?_ | refine r_if1 ?_ | refine r_if0 ?_ | refine r_and ?_ | refine r_or ?_ | refine r_not ?_ | refine r_bool ?_ | refine r_asB ?_ | refine r_tru ?_ | refine r_truB ?_ | refine r_truI ?_ | refine r_andV ?_ | refine r_orV ?_ | refine r_andV1 ?_ | refine r_andV0 ?_ | refine r_orV1 ?_ | refine r_orV0 ?_ | refine r_notV ?_ | refine r_call ?_ | refine r_meth ?_ | refine r_addI ?_ | refine r_subI ?_ | refine r_negI ?_ | refine r_andI ?_ | refine r_ltI ?_ | refine r_gtI ?_ | refine r_leI ?_ | refine r_geI ?_ | refine r_eqI ?_ | refine r_eqS ?_ | refine r_neI ?_ | refine r_neS ?_ | refine r_is0 ?_ | refine r_is1 ?_ | refine r_is2 ?_ | refine r_is3 ?_ | refine r_isn0 ?_ | refine r_isn1 ?_ | refine r_isn2 ?_ | refine r_isn3 ?_ | refine r_lenT ?_ | refine r_intI ?_ | refine r_absI ?_ | refine r_sl ?_ | refine r_no ?_ | refine r_part ?_ | refine r_asP ?_ | refine r_slT ?_ | refine r_slR ?_ | refine r_iter ?_ | refine r_asT ?_ | refine r_asPt ?_ | refine r_asRo ?_ | refine r_rng1 ?_ | refine r_gNm ?_ | refine r_gIx ?_ | refine r_comp ?_ | refine r_chain ?_ | refine r_chn1 ?_ | refine r_chn0 ?_ | refine r_isi ?_ | refine r_newL ?_ | refine r_ok ?_) | ((with_reducible (first | refine e_var ?_ | refine e_ixT ?_ | refine e_gTp ?_)); refine ⟨_, rfl, ?_⟩) | ((with_reducible (first | refine r_mkT ?_ ?_ | refine r_mkP ?_ ?_ | refine r_mkL ?_ ?_)); exact Nat.le_of_ble_eq_true rfl) | ((with_reducible (first | refine e_mth ?_ | refine e_lenO ?_ | refine e_asO ?_ | refine e_truO ?_ | refine e_tupleO ?_ | refine e_tupleP ?_ | refine e_slO ?_ | refine e_reverse ?_ | refine e_listO ?_)); refine ⟨_, (by assumption), ?_⟩) | ((with_reducible (first | refine e_ixO ?_ | refine e_set ?_)); refine ⟨_, (by assumption), _, rfl, ?_⟩) | ((with_reducible (first | refine r_mulI ?_ ?_)); first | exact mul_ok (Or.inr (by decide)) | exact mul_ok (Or.inl (by decide))) | ((with_reducible (first | refine r_modI ?_ ?_ | refine r_fdvI ?_ ?_ | refine r_powI ?_ ?_)); decide) | dsimp only [endP])
    refine r_dec (fun hr => ?_) (fun hr => ?_)
    · repeat (first | with_reducible (first | refine zs_seq ?_ | refine zs_asg ?_ | refine zs_drop ?_ | refine zs_ret ?_ | refine zs_retN ?_ | refine zs_next ?_ | refine zs_brk ?_ | refine zs_cnt ?_ | refine zs_if ?_ | refine zs_for ?_ | refine zs_while ?_ | refine z_true ?_ | refine z_false ?_ | refine r_k ?_ | refine r_op ?_ | refine r_un ?_ | refine r_nil ?_ | refine r_cons ?_ | refine r_tup ?_ | refine r_ptp ?_ | refine r_lst ?_ | refine r_ife ?_ | refine r_if1 ?_ | refine r_if0 ?_ | refine r_and ?_ | refine r_or ?_ | refine r_not ?_ | refine r_bool ?_ | refine r_asB ?_ | refine r_tru ?_ | refine r_truB ?_ | refine r_truI ?_ | refine r_andV ?_ | refine r_orV ?_ | refine r_andV1 ?_ | refine r_andV0 ?_ | refine r_orV1 ?_ | refine r_orV0 ?_ | refine r_notV ?_ | refine r_call ?_ | refine r_meth ?_ | refine r_addI ?_ | refine r_subI ?_ | refine r_negI ?_ | refine r_andI ?_ | refine r_ltI ?_ | refine r_gtI ?_ | refine r_leI ?_ | refine r_geI ?_ | refine r_eqI ?_ | refine r_eqS ?_ | refine r_neI ?_ | refine r_neS ?_ | refine r_is0 ?_ | refine r_is1 ?_ | refine r_is2 ?_ | refine r_is3 ?_ | refine r_isn0 ?_ | refine r_isn1 ?_ | refine r_isn2 ?_ | refine r_isn3 ?_ | refine r_lenT ?_ | refine r_intI ?_ | refine r_absI ?_ | refine r_sl ?_ | refine r_no ?_ | refine r_part ?_ | refine r_asP ?_ | refine r_slT ?_ | refine r_slR ?_ | refine r_iter ?_ | refine r_asT ?_ | refine r_asPt ?_ | refine r_asRo ?_ | refine r_rng1 ?_ | refine r_gNm ?_ | refine r_gIx ?_ | refine r_comp ?_ | refine r_chain ?_ | refine r_chn1 ?_ | refine r_chn0 ?_ | refine r_isi ?_ | refine r_newL ?_ | refine r_ok ?_) | ((with_reducible (first | refine e_var ?_ | refine e_ixT ?_ | refine e_gTp ?_)); refine ⟨_, rfl, ?_⟩) | ((with_reducible (first | refine r_mkT ?_ ?_ | refine r_mkP ?_ ?_ | refine r_mkL ?_ ?_)); exact Nat.le_of_ble_eq_true rfl) | ((with_reducible (first | refine e_mth ?_ | refine e_lenO ?_ | refine e_asO ?_ | refine e_truO ?_ | refine e_tupleO ?_ | refine e_tupleP ?_ | refine e_slO ?_ | refine e_reverse ?_ | refine e_listO ?_)); refine ⟨_, (by assumption), ?_⟩) | ((with_reducible (first | refine e_ixO ?_ | refine e_set ?_)); refine ⟨_, (by assumption), _, rfl, ?_⟩) | ((with_reducible (first | refine r_mulI ?_ ?_)); first | exact mul_ok (Or.inr (by decide)) | exact mul_ok (Or.inl (by decide))) | ((with_reducible (first | refine r_modI ?_ ?_ | refine r_fdvI ?_ ?_ | refine r_powI ?_ ?_)); decide) | dsimp only [endP])
      refine (draw_ok P2 (by decide) (by decide)).to ?_
      rintro _ s3 ⟨r3, rfl, _, _, P3, x3⟩
      repeat (first | with_reducible (first | refine zs_seq ?_ | refine zs_asg ?_ | refine zs_drop ?_ | refine zs_ret ?_ | refine zs_retN ?_ | refine zs_next ?_ | refine zs_brk ?_ | refine zs_cnt ?_ | refine zs_if ?_ | refine zs_for ?_ | refine zs_while ?_ | refine z_true ?_ | refine z_false ?_ | refine r_k ?_ | refine r_op ?_ | refine r_un ?_ | refine r_nil ?_ | refine r_cons ?_ | refine r_tup ?_ | refine r_ptp ?_ | refine r_lst ?_ | refine r_ife ?_ | refine r_if1 ?_ | refine r_if0 ?_ | refine r_and ?_ | refine r_or ?_ | refine r_not ?_ | refine r_bool ?_ | refine r_asB ?_ | refine r_tru ?_ | refine r_truB ?_ | refine r_truI ?_ | refine r_andV ?_ | refine r_orV ?_ | refine r_andV1 ?_ | refine r_andV0 ?_ | refine r_orV1 ?_ | refine r_orV0 ?_ | refine r_notV ?_ | refine r_call ?_ | refine r_meth ?_ | refine r_addI ?_ | refine r_subI ?_ | refine r_negI ?_ | refine r_andI ?_ | refine r_ltI ?_ | refine r_gtI ?_ | refine r_leI ?_ | refine r_geI ?_ | refine r_eqI ?_ | refine r_eqS ?_ | refine r_neI ?_ | refine r_neS ?_ | refine r_is0 ?_ | refine r_is1 ?_ | refine r_is2 ?_ | refine r_is3 ?_ | refine r_isn0 ?_ | refine r_isn1 ?_ | refine r_isn2 ?_ | refine r_isn3 ?_ | refine r_lenT ?_ | refine r_intI ?_ | refine r_absI ?_ | refine r_sl ?_ | refine r_no ?_ | refine r_part ?_ | refine r_asP ?_ | refine r_slT ?_ | refine r_slR ?_ | refine r_iter ?_ | refine r_asT ?_ | refine r_asPt ?_ | refine r_asRo ?_ | refine r_rng1 ?_ | refine r_gNm ?_ | refine r_gIx ?_ | refine r_comp ?_ | refine r_chain ?_ | refine r_chn1 ?_ | refine r_chn0 ?_ | refine r_isi ?_ | refine r_newL ?_ | refine r_ok ?_) | ((with_reducible (first | refine e_var ?_ | refine e_ixT ?_ | refine e_gTp ?_)); refine ⟨_, rfl, ?_⟩) | ((with_reducible (first | refine r_mkT ?_ ?_ | refine r_mkP ?_ ?_ | refine r_mkL ?_ ?_)); exact Nat.le_of_ble_eq_true rfl) | ((with_reducible (first | refine e_mth ?_ | refine e_lenO ?_ | refine e_asO ?_ | refine e_truO ?_ | refine e_tupleO ?_ | refine e_tupleP ?_ | refine e_slO ?_ | refine e_reverse ?_ | refine e_listO ?_)); refine ⟨_, (by assumption), ?_⟩) | ((with_reducible (first | refine e_ixO ?_ | refine e_set ?_)); refine ⟨_, (by assumption), _, rfl, ?_⟩) | ((with_reducible (first | refine r_mulI ?_ ?_)); first | exact mul_ok (Or.inr (by decide)) | exact mul_ok (Or.inl (by decide))) | ((with_reducible (first | refine r_modI ?_ ?_ | refine r_fdvI ?_ ?_ | refine r_powI ?_ ?_)); decide) | dsimp only [endP])
      refine z_dec (fun hr => ?_) (fun hr => ?_)
      · repeat (first | with_reducible (first | refine zs_seq ?_ | refine zs_asg ?_ | refine zs_drop ?_ | refine zs_ret ?_ | refine zs_retN ?_ | refine zs_next ?_ | refine zs_brk ?_ | refine zs_cnt ?_ | refine zs_if ?_ | refine zs_for ?_ | refine zs_while ?_ | refine z_true ?_ | refine z_false ?_ | refine r_k ?_ | refine r_op ?_ | refine r_un ?_ | refine r_nil ?_ | refine r_cons ?_ | refine r_tup ?_ | refine r_ptp ?_ | refine r_lst ?_ | refine r_ife ?_ | refine r_if1 ?_ | refine r_if0 ?_ | refine r_and ?_ | refine r_or ?_ | refine r_not ?_ | refine r_bool ?_ | refine r_asB ?_ | refine r_tru ?_ | refine r_truB ?_ | refine r_truI ?_ | refine r_andV ?_ | refine r_orV ?_ | refine r_andV1 ?_ | refine r_andV0 ?_ | refine r_orV1 ?_ | refine r_orV0 ?_ | refine r_notV ?_ | refine r_call ?_ | refine r_meth ?_ | refine r_addI ?_ | refine r_subI ?_ | refine r_negI ?_ | refine r_andI ?_ | refine r_ltI ?_ | refine r_gtI ?_ | refine r_leI ?_ | refine r_geI ?_ | refine r_eqI ?_ | refine r_eqS ?_ | refine r_neI ?_ | refine r_neS ?_ | refine r_is0 ?_ | refine r_is1 ?_ | refine r_is2 ?_ | refine r_is3 ?_ | refine r_isn0 ?_ | refine r_isn1 ?_ | refine r_isn2 ?_ | refine r_isn3 ?_ | refine r_lenT ?_ | refine r_intI ?_ | refine r_absI ?_ | refine r_sl ?_ | refine r_no ?_ | refine r_part ?_ | refine r_asP ?_ | refine r_slT ?_ | refine r_slR ?_ | refine r_iter ?_ | refine r_asT ?_ | refine r_asPt ?_ | refine r_asRo ?_ | refine r_rng1 ?_ | refine r_gNm ?_ | refine r_gIx ?_ | refine r_comp ?_ | refine r_chain ?_ | refine r_chn1 ?_ | refine r_chn0 ?_ | refine r_isi ?_ | refine r_newL ?_ | refine r_ok ?_) | ((with_reducible (first | refine e_var ?_ | refine e_ixT ?_ | refine e_gTp ?_)); refine ⟨_, rfl, ?_⟩) | ((with_reducible (first | refine r_mkT ?_ ?_ | refine r_mkP ?_ ?_ | refine r_mkL ?_ ?_)); exact Nat.le_of_ble_eq_true rfl) | ((with_reducible (first | refine e_mth ?_ | refine e_lenO ?_ | refine e_asO ?_ | refine e_truO ?_ | refine e_tupleO ?_ | refine e_tupleP ?_ | refine e_slO ?_ | refine e_reverse ?_ | refine e_listO ?_)); refine ⟨_, (by assumption), ?_⟩) | ((with_reducible (first | refine e_ixO ?_ | refine e_set ?_)); refine ⟨_, (by assumption), _, rfl, ?_⟩) | ((with_reducible (first | refine r_mulI ?_ ?_)); first | exact mul_ok (Or.inr (by decide)) | exact mul_ok (Or.inl (by decide))) | ((with_reducible (first | refine r_modI ?_ ?_ | refine r_fdvI ?_ ?_ | refine r_powI ?_ ?_)); decide) | dsimp only [endP])
        exact ⟨[], rfl, by simp, P3, (x1.trans x2).trans x3⟩
      · repeat (first | with_reducible (first | refine zs_seq ?_ | refine zs_asg ?_ | refine zs_drop ?_ | refine zs_ret ?_ | refine zs_retN ?_ | refine zs_next ?_ | refine zs_brk ?_ | refine zs_cnt ?_ | refine zs_if ?_ | refine zs_for ?_ | refine zs_while ?_ | refine z_true ?_ | refine z_false ?_ | refine r_k ?_ | refine r_op ?_ | refine r_un ?_ | refine r_nil ?_ | refine r_cons ?_ | refine r_tup ?_ | refine r_ptp ?_ | refine r_lst ?_ | refine r_ife ?_ | refine r_if1 ?_ | refine r_if0 ?_ | refine r_and ?_ | refine r_or ?_ | refine r_not ?_ | refine r_bool ?_ | refine r_asB ?_ | refine r_tru ?_ | refine r_truB ?_ | refine r_truI ?_ | refine r_andV ?_ | refine r_orV ?_ | refine r_andV1 ?_ | refine r_andV0 ?_ | refine r_orV1 ?_ | refine r_orV0 ?_ | refine r_notV ?_ | refine r_call ?_ | refine r_meth ?_ | refine r_addI ?_ | refine r_subI ?_ | refine r_negI ?_ | refine r_andI ?_ | refine r_ltI ?_ | refine r_gtI ?_ | refine r_leI ?_ | refine r_geI ?_ | refine r_eqI ?_ | refine r_eqS ?_ | refine r_neI ?_ | refine r_neS ?_ | refine r_is0 ?_ | refine r_is1 ?_ | refine r_is2 ?_ | refine r_is3 ?_ | refine r_isn0 ?_ | refine r_isn1 ?_ | refine r_isn2 ?_ | refine r_isn3 ?_ | refine r_lenT ?_ | refine r_intI ?_ | refine r_absI ?_ | refine r_sl ?_ | refine r_no ?_ | refine r_part ?_ | refine r_asP ?_ | refine r_slT ?_ | refine r_slR ?_ | refine r_iter ?_ | refine r_asT ?_ | refine r_asPt ?_ | refine r_asRo ?_ | refine r_rng1 ?_ | refine r_gNm ?_ | refine r_gIx ?_ | refine r_comp ?_ | refine r_chain ?_ | refine r_chn1 ?_ | refine r_chn0 ?_ | refine r_isi ?_ | refine r_newL ?_ | refine r_ok ?_) | ((with_reducible (first | refine e_var ?_ | refine e_ixT ?_ | refine e_gTp ?_)); refine ⟨_, rfl, ?_⟩) | ((with_reducible (first | refine r_mkT ?_ ?_ | refine r_mkP ?_ ?_ | refine r_mkL ?_ ?_)); exact Nat.le_of_ble_eq_true rfl) | ((with_reducible (first | refine e_mth ?_ | refine e_lenO ?_ | refine e_asO ?_ | refine e_truO ?_ | refine e_tupleO ?_ | refine e_tupleP ?_ | refine e_slO ?_ | refine e_reverse ?_ | refine e_listO ?_)); refine ⟨_, (by assumption), ?_⟩) | ((with_reducible (first | refine e_ixO ?_ | refine e_set ?_)); refine ⟨_, (by assumption), _, rfl, ?_⟩) | ((with_reducible (first | refine r_mulI ?_ ?_)); first | exact mul_ok (Or.inr (by decide)) | exact mul_ok (Or.inl (by decide))) | ((with_reducible (first | refine r_modI ?_ ?_ | refine r_fdvI ?_ ?_ | refine r_powI ?_ ?_)); decide) | dsimp only [endP])
        exact ⟨ns, rfl, hn, P3, (x1.trans x2).trans x3⟩
    · repeat (first | with_reducible (first | refine zs_seq ?_ | refine zs_asg ?_ | refine zs_drop ?_ | refine zs_ret ?_ | refine zs_retN ?_ | refine zs_next ?_ | refine zs_brk ?_ | refine zs_cnt ?_ | refine zs_if ?_ | refine zs_for ?_ | refine zs_while ?_ | refine z_true ?_ | refine z_false ?_ | refine r_k ?_ | refine r_op ?_ | refine r_un ?_ | refine r_nil ?_ | refine r_cons ?_ | refine r_tup ?_ | refine r_ptp ?_ | refine r_lst ?_ | refine r_ife ?_ | refine r_if1 ?_ | refine r_if0 ?_ | refine r_and ?_ | refine r_or ?_ | refine r_not ?_ | refine r_bool ?_ | refine r_asB ?_ | refine r_tru ?_ | refine r_truB ?_ | refine r_truI ?_ | refine r_andV ?_ | refine r_orV ?_ | refine r_andV1 ?_ | refine r_andV0 ?_ | refine r_orV1 ?_ | refine r_orV0 ?_ | refine r_notV ?_ | refine r_call ?_ | refine r_meth ?_ | refine r_addI ?_ | refine r_subI ?_ | refine r_negI ?_ | refine r_andI ?_ | refine r_ltI ?_ | refine r_gtI ?_ | refine r_leI ?_ | refine r_geI ?_ | refine r_eqI ?_ | refine r_eqS ?_ | refine r_neI ?_ | refine r_neS ?_ | refine r_is0 ?_ | refine r_is1 ?_ | refine r_is2 ?_ | refine r_is3 ?_ | refine r_isn0 ?_ | refine r_isn1 ?_ | refine r_isn2 ?_ | refine r_isn3 ?_ | refine r_lenT ?_ | refine r_intI ?_ | refine r_absI ?_ | refine r_sl ?_ | refine r_no ?_ | refine r_part ?_ | refine r_asP ?_ | refine r_slT ?_ | refine r_slR ?_ | refine r_iter ?_ | refine r_asT ?_ | refine r_asPt ?_ | refine r_asRo ?_ | refine r_rng1 ?_ | refine r_gNm ?_ | refine r_gIx ?_ | refine r_comp ?_ | refine r_chain ?_ | refine r_chn1 ?_ | refine r_chn0 ?_ | refine r_isi ?_ | refine r_newL ?_ | refine r_ok ?_) | ((with_reducible (first | refine e_var ?_ | refine e_ixT ?_ | refine e_gTp ?_)); refine ⟨_, rfl, ?_⟩) | ((with_reducible (first | refine r_mkT ?_ ?_ | refine r_mkP ?_ ?_ | refine r_mkL ?_ ?_)); exact Nat.le_of_ble_eq_true rfl) | ((with_reducible (first | refine e_mth ?_ | refine e_lenO ?_ | refine e_asO ?_ | refine e_truO ?_ | refine e_tupleO ?_ | refine e_tupleP ?_ | refine e_slO ?_ | refine e_reverse ?_ | refine e_listO ?_)); refine ⟨_, (by assumption), ?_⟩) | ((with_reducible (first | refine e_ixO ?_ | refine e_set ?_)); refine ⟨_, (by assumption), _, rfl, ?_⟩) | ((with_reducible (first | refine r_mulI ?_ ?_)); first | exact mul_ok (Or.inr (by decide)) | exact mul_ok (Or.inl (by decide))) | ((with_reducible (first | refine r_modI ?_ ?_ | refine r_fdvI ?_ ?_ | refine r_powI ?_ ?_)); decide) | dsimp only [endP])
      exact ⟨ns, rfl, hn, P2, x1.trans x2⟩
  · rintro _ s3 ⟨ns, rfl, hn, P3, x3⟩
    repeat (first | with_reducible (first | refine zs_seq ?_ | refine zs_asg ?_ | refine zs_drop ?_ | refine zs_ret ?_ | refine zs_retN ?_ | refine zs_next ?_ | refine zs_brk ?_ | refine zs_cnt ?_ | refine zs_if ?_ | refine zs_for ?_ | refine zs_while ?_ | refine z_true ?_ | refine z_false ?_ | refine r_k ?_ | refine r_op ?_ | refine r_un ?_ | refine r_nil ?_ | refine r_cons ?_ | refine r_tup ?_ | refine r_ptp ?_ | refine r_lst ?_ | refine r_ife ?_ | refine r_if1 ?_ | refine r_if0 ?_ | refine r_and ?_ | refine r_or ?_ | refine r_not ?_ | refine r_bool ?_ | refine r_asB ?_ | refine r_tru ?_ | refine r_truB ?_ | refine r_truI ?_ | refine r_andV ?_ | refine r_orV ?_ | refine r_andV1 ?_ | refine r_andV0 ?_ | refine r_orV1 ?_ | refine r_orV0 ?_ | refine r_notV ?_ | refine r_call ?_ | refine r_meth ?_ | refine r_addI ?_ | refine r_subI ?_ | refine r_negI ?_ | refine r_andI ?_ | refine r_ltI ?_ | refine r_gtI ?_ | refine r_leI ?_ | refine r_geI ?_ | refine r_eqI ?_ | refine r_eqS ?_ | refine r_neI ?_ | refine r_neS ?_ | refine r_is0 ?_ | refine r_is1 ?_ | refine r_is2 ?_ | refine r_is3 ?_ | refine r_isn0 ?_ | refine r_isn1 ?_ | refine r_isn2 ?_ | refine r_isn3 ?_ | refine r_lenT ?_ | refine r_intI ?_ | refine r_absI ?_ | refine r_sl ?_ | refine r_no ?_ | refine r_part ?_ | refine r_asP ?_ | refine r_slT ?_ | refine r_slR ?_ | refine r_iter ?_ | refine r_asT ?_ | refine r_asPt ?_ | refine r_asRo ?_ | refine r_rng1 ?_ | refine r_gNm ?_ | refine r_gIx ?_ | refine r_comp ?_ | refine r_chain ?_ | refine r_chn1 ?_ | refine r_chn0 ?_ | refine r_isi ?_ | refine r_newL ?_ | refine r_ok ?_) | ((with_reducible (first | refine e_var ?_ | refine e_ixT ?_ | refine e_gTp ?_)); refine ⟨_, rfl, ?_⟩) | ((with_reducible (first | refine r_mkT ?_ ?_ | refine r_mkP ?_ ?_ | refine r_mkL ?_ ?_)); exact Nat.le_of_ble_eq_true rfl) | ((with_reducible (first | refine e_mth ?_ | refine e_lenO ?_ | refine e_asO ?_ | refine e_truO ?_ | refine e_tupleO ?_ | refine e_tupleP ?_ | refine e_slO ?_ | refine e_reverse ?_ | refine e_listO ?_)); refine ⟨_, (by assumption), ?_⟩) | ((with_reducible (first | refine e_ixO ?_ | refine e_set ?_)); refine ⟨_, (by assumption), _, rfl, ?_⟩) | ((with_reducible (first | refine r_mulI ?_ ?_)); first | exact mul_ok (Or.inr (by decide)) | exact mul_ok (Or.inl (by decide))) | ((with_reducible (first | refine r_modI ?_ ?_ | refine r_fdvI ?_ ?_ | refine r_powI ?_ ?_)); decide) | dsimp only [endP])
    refine (steps_ok P3 hn).to ?_
    rintro _ s4 ⟨ss, rfl, hs, P4, x4⟩
    repeat (first | with_reducible (first | refine zs_seq ?_ | refine zs_asg ?_ | refine zs_drop ?_ | refine zs_ret ?_ | refine zs_retN ?_ | refine zs_next ?_ | refine zs_brk ?_ | refine zs_cnt ?_ | refine zs_if ?_ | refine zs_for ?_ | refine zs_while ?_ | refine z_true ?_ | refine z_false ?_ | refine r_k ?_ | refine r_op ?_ | refine r_un ?_ | refine r_nil ?_ | refine r_cons ?_ | refine r_tup ?_ | refine r_ptp ?_ | refine r_lst ?_ | refine r_ife ?_ | refine r_if1 ?_ | refine r_if0 ?_ | refine r_and ?_ | refine r_or ?_ | refine r_not ?_ | refine r_bool ?_ | refine r_asB ?_ | refine r_tru ?_ | refine r_truB ?_ | refine r_truI ?_ | refine r_andV ?_ | refine r_orV ?_ | refine r_andV1 ?_ | refine r_andV0 ?_ | refine r_orV1 ?_ | refine r_orV0 ?_ | refine r_notV ?_ | refine r_call ?_ | refine r_meth ?_ | refine r_addI ?_ | refine r_subI ?_ | refine r_negI ?_ | refine r_andI ?_ | refine r_ltI ?_ | refine r_gtI ?_ | refine r_leI ?_ | refine r_geI ?_ | refine r_eqI ?_ | refine r_eqS ?_ | refine r_neI ?_ | refine r_neS ?_ | refine r_is0 ?_ | refine r_is1 ?_ | refine r_is2 ?_ | refine r_is3 ?_ | refine r_isn0 ?_ | refine r_isn1 ?_ | refine r_isn2 ?_ | refine r_isn3 ?_ | refine r_lenT ?_ | refine r_intI ?_ | refine r_absI ?_ | refine r_sl ?_ | refine r_no ?_ | refine r_part ?_ | refine r_asP ?_ | refine r_slT ?_ | refine r_slR ?_ | refine r_iter ?_ | refine r_asT ?_ | refine r_asPt ?_ | refine r_asRo ?_ | refine r_rng1 ?_ | refine r_gNm ?_ | refine r_gIx ?_ | refine r_comp ?_ | refine r_chain ?_ | refine r_chn1 ?_ | refine r_chn0 ?_ | refine r_isi ?_ | refine r_newL ?_ | refine r_ok ?_) | ((with_reducible (first | refine e_var ?_ | refine e_ixT ?_ | refine e_gTp ?_)); refine ⟨_, rfl, ?_⟩) | ((with_reducible (first | refine r_mkT ?_ ?_ | refine r_mkP ?_ ?_ | refine r_mkL ?_ ?_)); exact Nat.le_of_ble_eq_true rfl) | ((with_reducible (first | refine e_mth ?_ | refine e_lenO ?_ | refine e_asO ?_ | refine e_truO ?_ | refine e_tupleO ?_ | refine e_tupleP ?_ | refine e_slO ?_ | refine e_reverse ?_ | refine e_listO ?_)); refine ⟨_, (by assumption), ?_⟩) | ((with_reducible (first | refine e_ixO ?_ | refine e_set ?_)); refine ⟨_, (by assumption), _, rfl, ?_⟩) | ((with_reducible (first | refine r_mulI ?_ ?_)); first | exact mul_ok (Or.inr (by decide)) | exact mul_ok (Or.inl (by decide))) | ((with_reducible (first | refine r_modI ?_ ?_ | refine r_fdvI ?_ ?_ | refine r_powI ?_ ?_)); decide) | dsimp only [endP])
    exact ⟨ns, ss, rfl, hn, hs, P4, x3.trans x4⟩
theorem isint_ok {i : Int} {st : Sto} : F_law_is_integer [.int i] st = .ok (.bl true) st := by rfl
/-! ### what the steps do: at the step k, at the byte h, made so far -/
inductive Out where
  | bad (k : Nat) | made (ms : List Int)
def go (ns : List Int) : List Sp → Nat → Nat → List Int → Out
  | [], k, h, ms => if h < ns.length then .bad k else .made ms
  | .put b :: ss, k, h, ms => go ns ss (k + 1) h (ms ++ [b])
  | .keep :: ss, k, h, ms => match ns[h]? with
    | some n => go ns ss (k + 1) (h + 1) (ms ++ [n])
    | none => .bad k
  | .drop :: ss, k, h, ms => match ns[h]? with
    | some _ => go ns ss (k + 1) (h + 1) ms
    | none => .bad k
  | .swap b :: ss, k, h, ms => match ns[h]? with
    | some _ => go ns ss (k + 1) (h + 1) (ms ++ [b])
    | none => .bad k
def Out.due : Out → D
  | .bad k => .tup [.int k, .tup []]
  | .made ms => .tup [.int (-1), .tup (ms.map D.int)]
end Kw

namespace Kw
open Kc PySem
theorem z_yes {a b : Z} {P : Po} {c : Prop} [Decidable c] (h : c) (k : ZW a P) : ZW (if decide c = true then a else b) P := by rw [decide_eq_true h]; exact k
theorem z_no {a b : Z} {P : Po} {c : Prop} [Decidable c] (h : ¬ c) (k : ZW b P) : ZW (if decide c = true then a else b) P := by rw [decide_eq_false h]; exact k
theorem due_ok {ns : List Int} {ss : List Sp} {st : Sto} (hn : ns.length ≤ 400) (hs : ss.length ≤ 900) {o : Out} (ho : go ns ss 0 0 [] = o) : RW (F_law_due [.tup (ns.map D.int), .tup (ss.map Sp.d)] st) (fun d st' => d = o.due ∧ Ext [] st st') noX := by
  refine rw_run rfl ?_
  unfold B_law_due
  simp only [List.map_cons, List.map_nil, List.cons_append, List.nil_append, List.replicate_succ, List.replicate_zero, Nat.reduceSub]
  repeat (first | with_reducible (first | refine zs_seq ?_ | refine zs_asg ?_ | refine zs_drop ?_ | refine zs_ret ?_ | refine zs_retN ?_ | refine zs_next ?_ | refine zs_brk ?_ | refine zs_cnt ?_ | refine zs_if ?_ | refine zs_for ?_ | refine zs_while ?_ | refine z_true ?_ | refine z_false ?_ | refine r_k ?_ | refine r_op ?_ | refine r_un ?_ | refine r_nil ?_ | refine r_cons ?_ | refine r_tup ?_ | refine r_ptp ?_ | refine r_lst ?_ | refine r_ife ?_ | refine r_if1 ?_ | refine r_if0 ?_ | refine r_and ?_ | refine r_or ?_ | refine r_not ?_ | refine r_bool ?_ | refine r_asB ?_ | refine r_tru ?_ | refine r_truB ?_ | refine r_truI ?_ | refine r_andV ?_ | refine r_orV ?_ | refine r_andV1 ?_ | refine r_andV0 ?_ | refine r_orV1 ?_ | refine r_orV0 ?_ | refine r_notV ?_ | refine r_call ?_ | refine r_meth ?_ | refine r_addI ?_ | refine r_subI ?_ | refine r_negI ?_ | refine r_andI ?_ | refine r_ltI ?_ | refine r_gtI ?_ | refine r_leI ?_ | refine r_geI ?_ | refine r_eqI ?_ | refine r_eqS ?_ | refine r_neI ?_ | refine r_neS ?_ | refine r_is0 ?_ | refine r_is1 ?_ | refine r_is2 ?_ | refine r_is3 ?_ | refine r_isn0 ?_ | refine r_isn1 ?_ | refine r_isn2 ?_ | refine r_isn3 ?_ | refine r_lenT ?_ | refine r_intI ?_ | refine r_absI ?_ | refine r_sl ?_ | refine r_no ?_ | refine r_part ?_ | refine r_asP ?_ | refine r_slT ?_ | refine r_slR ?_ | refine r_iter ?_ | refine r_asT ?_ | refine r_asPt ?_ | refine r_asRo ?_ | refine r_rng1 ?_ | refine r_gNm ?_ | refine r_gIx ?_ | refine r_comp ?_ | refine r_chain ?_ | refine r_chn1 ?_ | refine r_chn0 ?_ | refine r_isi ?_ | refine r_newL ?_ | refine r_ok ?_) | ((with_reducible (first | refine e_var ?_ | refine e_ixT ?_ | refine e_gTp ?_)); refine ⟨_, rfl, ?_⟩) | ((with_reducible (first | refine r_mkT ?_ ?_ | refine r_mkP ?_ ?_ | refine r_mkL ?_ ?_)); exact Nat.le_of_ble_eq_true rfl) | ((with_reducible (first | refine e_mth ?_ | refine e_lenO ?_ | refine e_asO ?_ | refine e_truO ?_ | refine e_tupleO ?_ | refine e_tupleP ?_ | refine e_slO ?_ | refine e_reverse ?_ | refine e_listO ?_)); refine ⟨_, (by assumption), ?_⟩) | ((with_reducible (first | refine e_ixO ?_ | refine e_set ?_)); refine ⟨_, (by assumption), _, rfl, ?_⟩) | ((with_reducible (first | refine r_mulI ?_ ?_)); first | exact mul_ok (Or.inr (by decide)) | exact mul_ok (Or.inl (by decide))) | ((with_reducible (first | refine r_modI ?_ ?_ | refine r_fdvI ?_ ?_ | refine r_powI ?_ ?_)); decide) | dsimp only [endP])
  refine r_asR1 (by simp only [List.length_map]; omega) ?_
  refine zw_for ss.length (fun i e s => ∃ (y z : Option D) (h : Nat) (ms : List Int), e = [some (.tup (ns.map D.int)), some (.tup (ss.map Sp.d)), some (.obj st.length), some (.int h), y, z] ∧ s[st.length]? = some (.lst (ms.map D.int)) ∧ ms.length ≤ i ∧ h ≤ ns.length ∧ go ns (ss.drop i) i h ms = o ∧ Ext [] st s) (lt_fuel (by omega)) ?_ ?_ ?_
  · exact ⟨_, _, 0, [], rfl, push_at, by simp, by simp, ho, Ext.push⟩
  · rintro i _ s hi ⟨y, z, h, ms, rfl, hm, hl, hh, hg, x⟩
    refine ⟨_, itR_in (by simpa using hi), ?_⟩
    rw [Int.zero_add]
    rw [List.drop_eq_getElem_cons hi] at hg
    repeat (first | with_reducible (first | refine zs_seq ?_ | refine zs_asg ?_ | refine zs_drop ?_ | refine zs_ret ?_ | refine zs_retN ?_ | refine zs_next ?_ | refine zs_brk ?_ | refine zs_cnt ?_ | refine zs_if ?_ | refine zs_for ?_ | refine zs_while ?_ | refine z_true ?_ | refine z_false ?_ | refine r_k ?_ | refine r_op ?_ | refine r_un ?_ | refine r_nil ?_ | refine r_cons ?_ | refine r_tup ?_ | refine r_ptp ?_ | refine r_lst ?_ | refine r_ife ?_ | refine r_if1 ?_ | refine r_if0 ?_ | refine r_and ?_ | refine r_or ?_ | refine r_not ?_ | refine r_bool ?_ | refine r_asB ?_ | refine r_tru ?_ | refine r_truB ?_ | refine r_truI ?_ | refine r_andV ?_ | refine r_orV ?_ | refine r_andV1 ?_ | refine r_andV0 ?_ | refine r_orV1 ?_ | refine r_orV0 ?_ | refine r_notV ?_ | refine r_call ?_ | refine r_meth ?_ | refine r_addI ?_ | refine r_subI ?_ | refine r_negI ?_ | refine r_andI ?_ | refine r_ltI ?_ | refine r_gtI ?_ | refine r_leI ?_ | refine r_geI ?_ | refine r_eqI ?_ | refine r_eqS ?_ | refine r_neI ?_ | refine r_neS ?_ | refine r_is0 ?_ | refine r_is1 ?_ | refine r_is2 ?_ | refine r_is3 ?_ | refine r_isn0 ?_ | refine r_isn1 ?_ | refine r_isn2 ?_ | refine r_isn3 ?_ | refine r_lenT ?_ | refine r_intI ?_ | refine r_absI ?_ | refine r_sl ?_ | refine r_no ?_ | refine r_part ?_ | refine r_asP ?_ | refine r_slT ?_ | refine r_slR ?_ | refine r_iter ?_ | refine r_asT ?_ | refine r_asPt ?_ | refine r_asRo ?_ | refine r_rng1 ?_ | refine r_gNm ?_ | refine r_gIx ?_ | refine r_comp ?_ | refine r_chain ?_ | refine r_chn1 ?_ | refine r_chn0 ?_ | refine r_isi ?_ | refine r_newL ?_ | refine r_ok ?_) | ((with_reducible (first | refine e_var ?_ | refine e_ixT ?_ | refine e_gTp ?_)); refine ⟨_, rfl, ?_⟩) | ((with_reducible (first | refine r_mkT ?_ ?_ | refine r_mkP ?_ ?_ | refine r_mkL ?_ ?_)); exact Nat.le_of_ble_eq_true rfl) | ((with_reducible (first | refine e_mth ?_ | refine e_lenO ?_ | refine e_asO ?_ | refine e_truO ?_ | refine e_tupleO ?_ | refine e_tupleP ?_ | refine e_slO ?_ | refine e_reverse ?_ | refine e_listO ?_)); refine ⟨_, (by assumption), ?_⟩) | ((with_reducible (first | refine e_ixO ?_ | refine e_set ?_)); refine ⟨_, (by assumption), _, rfl, ?_⟩) | ((with_reducible (first | refine r_mulI ?_ ?_)); first | exact mul_ok (Or.inr (by decide)) | exact mul_ok (Or.inl (by decide))) | ((with_reducible (first | refine r_modI ?_ ?_ | refine r_fdvI ?_ ?_ | refine r_powI ?_ ?_)); decide) | dsimp only [endP])
    refine r_ixT (atI_map hi) ?_
    have hx := atI_map (f := Sp.d) hi
    generalize ss[i] = t at hg hx ⊢
    cases t with
    | put b =>
      repeat (first | with_reducible (first | refine zs_seq ?_ | refine zs_asg ?_ | refine zs_drop ?_ | refine zs_ret ?_ | refine zs_retN ?_ | refine zs_next ?_ | refine zs_brk ?_ | refine zs_cnt ?_ | refine zs_if ?_ | refine zs_for ?_ | refine zs_while ?_ | refine z_true ?_ | refine z_false ?_ | refine r_k ?_ | refine r_op ?_ | refine r_un ?_ | refine r_nil ?_ | refine r_cons ?_ | refine r_tup ?_ | refine r_ptp ?_ | refine r_lst ?_ | refine r_ife ?_ | refine r_if1 ?_ | refine r_if0 ?_ | refine r_and ?_ | refine r_or ?_ | refine r_not ?_ | refine r_bool ?_ | refine r_asB ?_ | refine r_tru ?_ | refine r_truB ?_ | refine r_truI ?_ | refine r_andV ?_ | refine r_orV ?_ | refine r_andV1 ?_ | refine r_andV0 ?_ | refine r_orV1 ?_ | refine r_orV0 ?_ | refine r_notV ?_ | refine r_call ?_ | refine r_meth ?_ | refine r_addI ?_ | refine r_subI ?_ | refine r_negI ?_ | refine r_andI ?_ | refine r_ltI ?_ | refine r_gtI ?_ | refine r_leI ?_ | refine r_geI ?_ | refine r_eqI ?_ | refine r_eqS ?_ | refine r_neI ?_ | refine r_neS ?_ | refine r_is0 ?_ | refine r_is1 ?_ | refine r_is2 ?_ | refine r_is3 ?_ | refine r_isn0 ?_ | refine r_isn1 ?_ | refine r_isn2 ?_ | refine r_isn3 ?_ | refine r_lenT ?_ | refine r_intI ?_ | refine r_absI ?_ | refine r_sl ?_ | refine r_no ?_ | refine r_part ?_ | refine r_asP ?_ | refine r_slT ?_ | refine r_slR ?_ | refine r_iter ?_ | refine r_asT ?_ | refine r_asPt ?_ | refine r_asRo ?_ | refine r_rng1 ?_ | refine r_gNm ?_ | refine r_gIx ?_ | refine r_comp ?_ | refine r_chain ?_ | refine r_chn1 ?_ | refine r_chn0 ?_ | refine r_isi ?_ | refine r_newL ?_ | refine r_ok ?_ | refine r_fld ?_ | refine zs_fld ?_ | refine r_tupRev ?_ | refine r_tRev ?_) | ((with_reducible (first | refine e_var ?_ | refine e_ixT ?_ | refine e_gTp ?_)); refine ⟨_, rfl, ?_⟩) | ((with_reducible (first | refine r_mkT ?_ ?_ | refine r_mkP ?_ ?_ | refine r_mkL ?_ ?_)); exact Nat.le_of_ble_eq_true rfl) | ((with_reducible (first | refine e_mth ?_ | refine e_lenO ?_ | refine e_asO ?_ | refine e_truO ?_ | refine e_tupleO ?_ | refine e_tupleP ?_ | refine e_slO ?_ | refine e_reverse ?_ | refine e_listO ?_)); refine ⟨_, (by assumption), ?_⟩) | ((with_reducible (first | refine e_ixO ?_ | refine e_set ?_)); refine ⟨_, (by assumption), _, rfl, ?_⟩) | ((with_reducible (first | refine r_mulI ?_ ?_)); first | exact mul_ok (Or.inr (by decide)) | exact mul_ok (Or.inl (by decide))) | ((with_reducible (first | refine r_modI ?_ ?_ | refine r_fdvI ?_ ?_ | refine r_powI ?_ ?_)); decide) | ((with_reducible (first | refine z_cF ?_ ?_ | refine r_cF ?_ ?_)); decide +kernel) | ((with_reducible (first | refine z_cT ?_ ?_ | refine r_cT ?_ ?_)); decide +kernel) | ((with_reducible refine r_inT ?_ ?_ ?_); exact rfl; decide +kernel) | dsimp only [endP])
      refine r_ixT (ds := [.str "put", .int b]) atI_0 ?_
      repeat (first | with_reducible (first | refine zs_seq ?_ | refine zs_asg ?_ | refine zs_drop ?_ | refine zs_ret ?_ | refine zs_retN ?_ | refine zs_next ?_ | refine zs_brk ?_ | refine zs_cnt ?_ | refine zs_if ?_ | refine zs_for ?_ | refine zs_while ?_ | refine z_true ?_ | refine z_false ?_ | refine r_k ?_ | refine r_op ?_ | refine r_un ?_ | refine r_nil ?_ | refine r_cons ?_ | refine r_tup ?_ | refine r_ptp ?_ | refine r_lst ?_ | refine r_ife ?_ | refine r_if1 ?_ | refine r_if0 ?_ | refine r_and ?_ | refine r_or ?_ | refine r_not ?_ | refine r_bool ?_ | refine r_asB ?_ | refine r_tru ?_ | refine r_truB ?_ | refine r_truI ?_ | refine r_andV ?_ | refine r_orV ?_ | refine r_andV1 ?_ | refine r_andV0 ?_ | refine r_orV1 ?_ | refine r_orV0 ?_ | refine r_notV ?_ | refine r_call ?_ | refine r_meth ?_ | refine r_addI ?_ | refine r_subI ?_ | refine r_negI ?_ | refine r_andI ?_ | refine r_ltI ?_ | refine r_gtI ?_ | refine r_leI ?_ | refine r_geI ?_ | refine r_eqI ?_ | refine r_eqS ?_ | refine r_neI ?_ | refine r_neS ?_ | refine r_is0 ?_ | refine r_is1 ?_ | refine r_is2 ?_ | refine r_is3 ?_ | refine r_isn0 ?_ | refine r_isn1 ?_ | refine r_isn2 ?_ | refine r_isn3 ?_ | refine r_lenT ?_ | refine r_intI ?_ | refine r_absI ?_ | refine r_sl ?_ | refine r_no ?_ | refine r_part ?_ | refine r_asP ?_ | refine r_slT ?_ | refine r_slR ?_ | refine r_iter ?_ | refine r_asT ?_ | refine r_asPt ?_ | refine r_asRo ?_ | refine r_rng1 ?_ | refine r_gNm ?_ | refine r_gIx ?_ | refine r_comp ?_ | refine r_chain ?_ | refine r_chn1 ?_ | refine r_chn0 ?_ | refine r_isi ?_ | refine r_newL ?_ | refine r_ok ?_) | ((with_reducible (first | refine e_var ?_ | refine e_ixT ?_ | refine e_gTp ?_)); refine ⟨_, rfl, ?_⟩) | ((with_reducible (first | refine r_mkT ?_ ?_ | refine r_mkP ?_ ?_ | refine r_mkL ?_ ?_)); exact Nat.le_of_ble_eq_true rfl) | ((with_reducible (first | refine e_mth ?_ | refine e_lenO ?_ | refine e_asO ?_ | refine e_truO ?_ | refine e_tupleO ?_ | refine e_tupleP ?_ | refine e_slO ?_ | refine e_reverse ?_ | refine e_listO ?_)); refine ⟨_, (by assumption), ?_⟩) | ((with_reducible (first | refine e_ixO ?_ | refine e_set ?_)); refine ⟨_, (by assumption), _, rfl, ?_⟩) | ((with_reducible (first | refine r_mulI ?_ ?_)); first | exact mul_ok (Or.inr (by decide)) | exact mul_ok (Or.inl (by decide))) | ((with_reducible (first | refine r_modI ?_ ?_ | refine r_fdvI ?_ ?_ | refine r_powI ?_ ?_)); decide) | dsimp only [endP])
      refine z_yes (by decide) ?_
      repeat (first | with_reducible (first | refine zs_seq ?_ | refine zs_asg ?_ | refine zs_drop ?_ | refine zs_ret ?_ | refine zs_retN ?_ | refine zs_next ?_ | refine zs_brk ?_ | refine zs_cnt ?_ | refine zs_if ?_ | refine zs_for ?_ | refine zs_while ?_ | refine z_true ?_ | refine z_false ?_ | refine r_k ?_ | refine r_op ?_ | refine r_un ?_ | refine r_nil ?_ | refine r_cons ?_ | refine r_tup ?_ | refine r_ptp ?_ | refine r_lst ?_ | refine r_ife ?_ | refine r_if1 ?_ | refine r_if0 ?_ | refine r_and ?_ | refine r_or ?_ | refine r_not ?_ | refine r_bool ?_ | refine r_asB ?_ | refine r_tru ?_ | refine r_truB ?_ | refine r_truI ?_ | refine r_andV ?_ | refine r_orV ?_ | refine r_andV1 ?_ | refine r_andV0 ?_ | refine r_orV1 ?_ | refine r_orV0 ?_ | refine r_notV ?_ | refine r_call ?_ | refine r_meth ?_ | refine r_addI ?_ | refine r_subI ?_ | refine r_negI ?_ | refine r_andI ?_ | refine r_ltI ?_ | refine r_gtI ?_ | refine r_leI ?_ | refine r_geI ?_ | refine r_eqI ?_ | refine r_eqS ?_ | refine r_neI ?_ | refine r_neS ?_ | refine r_is0 ?_ | refine r_is1 ?_ | refine r_is2 ?_ | refine r_is3 ?_ | refine r_isn0 ?_ | refine r_isn1 ?_ | refine r_isn2 ?_ | refine r_isn3 ?_ | refine r_lenT ?_ | refine r_intI ?_ | refine r_absI ?_ | refine r_sl ?_ | refine r_no ?_ | refine r_part ?_ | refine r_asP ?_ | refine r_slT ?_ | refine r_slR ?_ | refine r_iter ?_ | refine r_asT ?_ | refine r_asPt ?_ | refine r_asRo ?_ | refine r_rng1 ?_ | refine r_gNm ?_ | refine r_gIx ?_ | refine r_comp ?_ | refine r_chain ?_ | refine r_chn1 ?_ | refine r_chn0 ?_ | refine r_isi ?_ | refine r_newL ?_ | refine r_ok ?_) | ((with_reducible (first | refine e_var ?_ | refine e_ixT ?_ | refine e_gTp ?_)); refine ⟨_, rfl, ?_⟩) | ((with_reducible (first | refine r_mkT ?_ ?_ | refine r_mkP ?_ ?_ | refine r_mkL ?_ ?_)); exact Nat.le_of_ble_eq_true rfl) | ((with_reducible (first | refine e_mth ?_ | refine e_lenO ?_ | refine e_asO ?_ | refine e_truO ?_ | refine e_tupleO ?_ | refine e_tupleP ?_ | refine e_slO ?_ | refine e_reverse ?_ | refine e_listO ?_)); refine ⟨_, (by assumption), ?_⟩) | ((with_reducible (first | refine e_ixO ?_ | refine e_set ?_)); refine ⟨_, (by assumption), _, rfl, ?_⟩) | ((with_reducible (first | refine r_mulI ?_ ?_)); first | exact mul_ok (Or.inr (by decide)) | exact mul_ok (Or.inl (by decide))) | ((with_reducible (first | refine r_modI ?_ ?_ | refine r_fdvI ?_ ?_ | refine r_powI ?_ ?_)); decide) | dsimp only [endP])
      refine r_ixT hx ?_
      repeat (first | with_reducible (first | refine zs_seq ?_ | refine zs_asg ?_ | refine zs_drop ?_ | refine zs_ret ?_ | refine zs_retN ?_ | refine zs_next ?_ | refine zs_brk ?_ | refine zs_cnt ?_ | refine zs_if ?_ | refine zs_for ?_ | refine zs_while ?_ | refine z_true ?_ | refine z_false ?_ | refine r_k ?_ | refine r_op ?_ | refine r_un ?_ | refine r_nil ?_ | refine r_cons ?_ | refine r_tup ?_ | refine r_ptp ?_ | refine r_lst ?_ | refine r_ife ?_ | refine r_if1 ?_ | refine r_if0 ?_ | refine r_and ?_ | refine r_or ?_ | refine r_not ?_ | refine r_bool ?_ | refine r_asB ?_ | refine r_tru ?_ | refine r_truB ?_ | refine r_truI ?_ | refine r_andV ?_ | refine r_orV ?_ | refine r_andV1 ?_ | refine r_andV0 ?_ | refine r_orV1 ?_ | refine r_orV0 ?_ | refine r_notV ?_ | refine r_call ?_ | refine r_meth ?_ | refine r_addI ?_ | refine r_subI ?_ | refine r_negI ?_ | refine r_andI ?_ | refine r_ltI ?_ | refine r_gtI ?_ | refine r_leI ?_ | refine r_geI ?_ | refine r_eqI ?_ | refine r_eqS ?_ | refine r_neI ?_ | refine r_neS ?_ | refine r_is0 ?_ | refine r_is1 ?_ | refine r_is2 ?_ | refine r_is3 ?_ | refine r_isn0 ?_ | refine r_isn1 ?_ | refine r_isn2 ?_ | refine r_isn3 ?_ | refine r_lenT ?_ | refine r_intI ?_ | refine r_absI ?_ | refine r_sl ?_ | refine r_no ?_ | refine r_part ?_ | refine r_asP ?_ | refine r_slT ?_ | refine r_slR ?_ | refine r_iter ?_ | refine r_asT ?_ | refine r_asPt ?_ | refine r_asRo ?_ | refine r_rng1 ?_ | refine r_gNm ?_ | refine r_gIx ?_ | refine r_comp ?_ | refine r_chain ?_ | refine r_chn1 ?_ | refine r_chn0 ?_ | refine r_isi ?_ | refine r_newL ?_ | refine r_ok ?_ | refine r_fld ?_ | refine zs_fld ?_ | refine r_tupRev ?_ | refine r_tRev ?_) | ((with_reducible (first | refine e_var ?_ | refine e_ixT ?_ | refine e_gTp ?_)); refine ⟨_, rfl, ?_⟩) | ((with_reducible (first | refine r_mkT ?_ ?_ | refine r_mkP ?_ ?_ | refine r_mkL ?_ ?_)); exact Nat.le_of_ble_eq_true rfl) | ((with_reducible (first | refine e_mth ?_ | refine e_lenO ?_ | refine e_asO ?_ | refine e_truO ?_ | refine e_tupleO ?_ | refine e_tupleP ?_ | refine e_slO ?_ | refine e_reverse ?_ | refine e_listO ?_)); refine ⟨_, (by assumption), ?_⟩) | ((with_reducible (first | refine e_ixO ?_ | refine e_set ?_)); refine ⟨_, (by assumption), _, rfl, ?_⟩) | ((with_reducible (first | refine r_mulI ?_ ?_)); first | exact mul_ok (Or.inr (by decide)) | exact mul_ok (Or.inl (by decide))) | ((with_reducible (first | refine r_modI ?_ ?_ | refine r_fdvI ?_ ?_ | refine r_powI ?_ ?_)); decide) | ((with_reducible (first | refine z_cF ?_ ?_ | refine r_cF ?_ ?_)); decide +kernel) | ((with_reducible (first | refine z_cT ?_ ?_ | refine r_cT ?_ ?_)); decide +kernel) | ((with_reducible refine r_inT ?_ ?_ ?_); exact rfl; decide +kernel) | dsimp only [endP])
      refine r_ixT (ds := [.str "put", .int b]) (d := .int b) rfl ?_
      repeat (first | with_reducible (first | refine zs_seq ?_ | refine zs_asg ?_ | refine zs_drop ?_ | refine zs_ret ?_ | refine zs_retN ?_ | refine zs_next ?_ | refine zs_brk ?_ | refine zs_cnt ?_ | refine zs_if ?_ | refine zs_for ?_ | refine zs_while ?_ | refine z_true ?_ | refine z_false ?_ | refine r_k ?_ | refine r_op ?_ | refine r_un ?_ | refine r_nil ?_ | refine r_cons ?_ | refine r_tup ?_ | refine r_ptp ?_ | refine r_lst ?_ | refine r_ife ?_ | refine r_if1 ?_ | refine r_if0 ?_ | refine r_and ?_ | refine r_or ?_ | refine r_not ?_ | refine r_bool ?_ | refine r_asB ?_ | refine r_tru ?_ | refine r_truB ?_ | refine r_truI ?_ | refine r_andV ?_ | refine r_orV ?_ | refine r_andV1 ?_ | refine r_andV0 ?_ | refine r_orV1 ?_ | refine r_orV0 ?_ | refine r_notV ?_ | refine r_call ?_ | refine r_meth ?_ | refine r_addI ?_ | refine r_subI ?_ | refine r_negI ?_ | refine r_andI ?_ | refine r_ltI ?_ | refine r_gtI ?_ | refine r_leI ?_ | refine r_geI ?_ | refine r_eqI ?_ | refine r_eqS ?_ | refine r_neI ?_ | refine r_neS ?_ | refine r_is0 ?_ | refine r_is1 ?_ | refine r_is2 ?_ | refine r_is3 ?_ | refine r_isn0 ?_ | refine r_isn1 ?_ | refine r_isn2 ?_ | refine r_isn3 ?_ | refine r_lenT ?_ | refine r_intI ?_ | refine r_absI ?_ | refine r_sl ?_ | refine r_no ?_ | refine r_part ?_ | refine r_asP ?_ | refine r_slT ?_ | refine r_slR ?_ | refine r_iter ?_ | refine r_asT ?_ | refine r_asPt ?_ | refine r_asRo ?_ | refine r_rng1 ?_ | refine r_gNm ?_ | refine r_gIx ?_ | refine r_comp ?_ | refine r_chain ?_ | refine r_chn1 ?_ | refine r_chn0 ?_ | refine r_isi ?_ | refine r_newL ?_ | refine r_ok ?_ | refine r_fld ?_ | refine zs_fld ?_ | refine r_tupRev ?_ | refine r_tRev ?_) | ((with_reducible (first | refine e_var ?_ | refine e_ixT ?_ | refine e_gTp ?_)); refine ⟨_, rfl, ?_⟩) | ((with_reducible (first | refine r_mkT ?_ ?_ | refine r_mkP ?_ ?_ | refine r_mkL ?_ ?_)); exact Nat.le_of_ble_eq_true rfl) | ((with_reducible (first | refine e_mth ?_ | refine e_lenO ?_ | refine e_asO ?_ | refine e_truO ?_ | refine e_tupleO ?_ | refine e_tupleP ?_ | refine e_slO ?_ | refine e_reverse ?_ | refine e_listO ?_)); refine ⟨_, (by assumption), ?_⟩) | ((with_reducible (first | refine e_ixO ?_ | refine e_set ?_)); refine ⟨_, (by assumption), _, rfl, ?_⟩) | ((with_reducible (first | refine r_mulI ?_ ?_)); first | exact mul_ok (Or.inr (by decide)) | exact mul_ok (Or.inl (by decide))) | ((with_reducible (first | refine r_modI ?_ ?_ | refine r_fdvI ?_ ?_ | refine r_powI ?_ ?_)); decide) | ((with_reducible (first | refine z_cF ?_ ?_ | refine r_cF ?_ ?_)); decide +kernel) | ((with_reducible (first | refine z_cT ?_ ?_ | refine r_cT ?_ ?_)); decide +kernel) | ((with_reducible refine r_inT ?_ ?_ ?_); exact rfl; decide +kernel) | dsimp only [endP])
      refine r_append hm (lt_line (by simp; omega)) ?_
      exact ⟨_, _, h, ms ++ [b], rfl, by rw [set_at hm]; simp, by simp; omega, hh, hg, x.setNew (Nat.le_refl _)⟩
    | keep =>
      repeat (first | with_reducible (first | refine zs_seq ?_ | refine zs_asg ?_ | refine zs_drop ?_ | refine zs_ret ?_ | refine zs_retN ?_ | refine zs_next ?_ | refine zs_brk ?_ | refine zs_cnt ?_ | refine zs_if ?_ | refine zs_for ?_ | refine zs_while ?_ | refine z_true ?_ | refine z_false ?_ | refine r_k ?_ | refine r_op ?_ | refine r_un ?_ | refine r_nil ?_ | refine r_cons ?_ | refine r_tup ?_ | refine r_ptp ?_ | refine r_lst ?_ | refine r_ife ?_ | refine r_if1 ?_ | refine r_if0 ?_ | refine r_and ?_ | refine r_or ?_ | refine r_not ?_ | refine r_bool ?_ | refine r_asB ?_ | refine r_tru ?_ | refine r_truB ?_ | refine r_truI ?_ | refine r_andV ?_ | refine r_orV ?_ | refine r_andV1 ?_ | refine r_andV0 ?_ | refine r_orV1 ?_ | refine r_orV0 ?_ | refine r_notV ?_ | refine r_call ?_ | refine r_meth ?_ | refine r_addI ?_ | refine r_subI ?_ | refine r_negI ?_ | refine r_andI ?_ | refine r_ltI ?_ | refine r_gtI ?_ | refine r_leI ?_ | refine r_geI ?_ | refine r_eqI ?_ | refine r_eqS ?_ | refine r_neI ?_ | refine r_neS ?_ | refine r_is0 ?_ | refine r_is1 ?_ | refine r_is2 ?_ | refine r_is3 ?_ | refine r_isn0 ?_ | refine r_isn1 ?_ | refine r_isn2 ?_ | refine r_isn3 ?_ | refine r_lenT ?_ | refine r_intI ?_ | refine r_absI ?_ | refine r_sl ?_ | refine r_no ?_ | refine r_part ?_ | refine r_asP ?_ | refine r_slT ?_ | refine r_slR ?_ | refine r_iter ?_ | refine r_asT ?_ | refine r_asPt ?_ | refine r_asRo ?_ | refine r_rng1 ?_ | refine r_gNm ?_ | refine r_gIx ?_ | refine r_comp ?_ | refine r_chain ?_ | refine r_chn1 ?_ | refine r_chn0 ?_ | refine r_isi ?_ | refine r_newL ?_ | refine r_ok ?_ | refine r_fld ?_ | refine zs_fld ?_ | refine r_tupRev ?_ | refine r_tRev ?_) | ((with_reducible (first | refine e_var ?_ | refine e_ixT ?_ | refine e_gTp ?_)); refine ⟨_, rfl, ?_⟩) | ((with_reducible (first | refine r_mkT ?_ ?_ | refine r_mkP ?_ ?_ | refine r_mkL ?_ ?_)); exact Nat.le_of_ble_eq_true rfl) | ((with_reducible (first | refine e_mth ?_ | refine e_lenO ?_ | refine e_asO ?_ | refine e_truO ?_ | refine e_tupleO ?_ | refine e_tupleP ?_ | refine e_slO ?_ | refine e_reverse ?_ | refine e_listO ?_)); refine ⟨_, (by assumption), ?_⟩) | ((with_reducible (first | refine e_ixO ?_ | refine e_set ?_)); refine ⟨_, (by assumption), _, rfl, ?_⟩) | ((with_reducible (first | refine r_mulI ?_ ?_)); first | exact mul_ok (Or.inr (by decide)) | exact mul_ok (Or.inl (by decide))) | ((with_reducible (first | refine r_modI ?_ ?_ | refine r_fdvI ?_ ?_ | refine r_powI ?_ ?_)); decide) | ((with_reducible (first | refine z_cF ?_ ?_ | refine r_cF ?_ ?_)); decide +kernel) | ((with_reducible (first | refine z_cT ?_ ?_ | refine r_cT ?_ ?_)); decide +kernel) | ((with_reducible refine r_inT ?_ ?_ ?_); exact rfl; decide +kernel) | dsimp only [endP])
      refine r_ixT (ds := [.str "keep"]) atI_0 ?_
      repeat (first | with_reducible (first | refine zs_seq ?_ | refine zs_asg ?_ | refine zs_drop ?_ | refine zs_ret ?_ | refine zs_retN ?_ | refine zs_next ?_ | refine zs_brk ?_ | refine zs_cnt ?_ | refine zs_if ?_ | refine zs_for ?_ | refine zs_while ?_ | refine z_true ?_ | refine z_false ?_ | refine r_k ?_ | refine r_op ?_ | refine r_un ?_ | refine r_nil ?_ | refine r_cons ?_ | refine r_tup ?_ | refine r_ptp ?_ | refine r_lst ?_ | refine r_ife ?_ | refine r_if1 ?_ | refine r_if0 ?_ | refine r_and ?_ | refine r_or ?_ | refine r_not ?_ | refine r_bool ?_ | refine r_asB ?_ | refine r_tru ?_ | refine r_truB ?_ | refine r_truI ?_ | refine r_andV ?_ | refine r_orV ?_ | refine r_andV1 ?_ | refine r_andV0 ?_ | refine r_orV1 ?_ | refine r_orV0 ?_ | refine r_notV ?_ | refine r_call ?_ | refine r_meth ?_ | refine r_addI ?_ | refine r_subI ?_ | refine r_negI ?_ | refine r_andI ?_ | refine r_ltI ?_ | refine r_gtI ?_ | refine r_leI ?_ | refine r_geI ?_ | refine r_eqI ?_ | refine r_eqS ?_ | refine r_neI ?_ | refine r_neS ?_ | refine r_is0 ?_ | refine r_is1 ?_ | refine r_is2 ?_ | refine r_is3 ?_ | refine r_isn0 ?_ | refine r_isn1 ?_ | refine r_isn2 ?_ | refine r_isn3 ?_ | refine r_lenT ?_ | refine r_intI ?_ | refine r_absI ?_ | refine r_sl ?_ | refine r_no ?_ | refine r_part ?_ | refine r_asP ?_ | refine r_slT ?_ | refine r_slR ?_ | refine r_iter ?_ | refine r_asT ?_ | refine r_asPt ?_ | refine r_asRo ?_ | refine r_rng1 ?_ | refine r_gNm ?_ | refine r_gIx ?_ | refine r_comp ?_ | refine r_chain ?_ | refine r_chn1 ?_ | refine r_chn0 ?_ | refine r_isi ?_ | refine r_newL ?_ | refine r_ok ?_) | ((with_reducible (first | refine e_var ?_ | refine e_ixT ?_ | refine e_gTp ?_)); refine ⟨_, rfl, ?_⟩) | ((with_reducible (first | refine r_mkT ?_ ?_ | refine r_mkP ?_ ?_ | refine r_mkL ?_ ?_)); exact Nat.le_of_ble_eq_true rfl) | ((with_reducible (first | refine e_mth ?_ | refine e_lenO ?_ | refine e_asO ?_ | refine e_truO ?_ | refine e_tupleO ?_ | refine e_tupleP ?_ | refine e_slO ?_ | refine e_reverse ?_ | refine e_listO ?_)); refine ⟨_, (by assumption), ?_⟩) | ((with_reducible (first | refine e_ixO ?_ | refine e_set ?_)); refine ⟨_, (by assumption), _, rfl, ?_⟩) | ((with_reducible (first | refine r_mulI ?_ ?_)); first | exact mul_ok (Or.inr (by decide)) | exact mul_ok (Or.inl (by decide))) | ((with_reducible (first | refine r_modI ?_ ?_ | refine r_fdvI ?_ ?_ | refine r_powI ?_ ?_)); decide) | dsimp only [endP])
      refine z_no (by decide) ?_
      repeat (first | with_reducible (first | refine zs_seq ?_ | refine zs_asg ?_ | refine zs_drop ?_ | refine zs_ret ?_ | refine zs_retN ?_ | refine zs_next ?_ | refine zs_brk ?_ | refine zs_cnt ?_ | refine zs_if ?_ | refine zs_for ?_ | refine zs_while ?_ | refine z_true ?_ | refine z_false ?_ | refine r_k ?_ | refine r_op ?_ | refine r_un ?_ | refine r_nil ?_ | refine r_cons ?_ | refine r_tup ?_ | refine r_ptp ?_ | refine r_lst ?_ | refine r_ife ?_ | refine r_if1 ?_ | refine r_if0 ?_ | refine r_and ?_ | refine r_or ?_ | refine r_not ?_ | refine r_bool ?_ | refine r_asB ?_ | refine r_tru ?_ | refine r_truB ?_ | refine r_truI ?_ | refine r_andV ?_ | refine r_orV ?_ | refine r_andV1 ?_ | refine r_andV0 ?_ | refine r_orV1 ?_ | refine r_orV0 ?_ | refine r_notV ?_ | refine r_call ?_ | refine r_meth ?_ | refine r_addI ?_ | refine r_subI ?_ | refine r_negI ?_ | refine r_andI ?_ | refine r_ltI ?_ | refine r_gtI ?_ | refine r_leI ?_ | refine r_geI ?_ | refine r_eqI ?_ | refine r_eqS ?_ | refine r_neI ?_ | refine r_neS ?_ | refine r_is0 ?_ | refine r_is1 ?_ | refine r_is2 ?_ | refine r_is3 ?_ | refine r_isn0 ?_ | refine r_isn1 ?_ | refine r_isn2 ?_ | refine r_isn3 ?_ | refine r_lenT ?_ | refine r_intI ?_ | refine r_absI ?_ | refine r_sl ?_ | refine r_no ?_ | refine r_part ?_ | refine r_asP ?_ | refine r_slT ?_ | refine r_slR ?_ | refine r_iter ?_ | refine r_asT ?_ | refine r_asPt ?_ | refine r_asRo ?_ | refine r_rng1 ?_ | refine r_gNm ?_ | refine r_gIx ?_ | refine r_comp ?_ | refine r_chain ?_ | refine r_chn1 ?_ | refine r_chn0 ?_ | refine r_isi ?_ | refine r_newL ?_ | refine r_ok ?_) | ((with_reducible (first | refine e_var ?_ | refine e_ixT ?_ | refine e_gTp ?_)); refine ⟨_, rfl, ?_⟩) | ((with_reducible (first | refine r_mkT ?_ ?_ | refine r_mkP ?_ ?_ | refine r_mkL ?_ ?_)); exact Nat.le_of_ble_eq_true rfl) | ((with_reducible (first | refine e_mth ?_ | refine e_lenO ?_ | refine e_asO ?_ | refine e_truO ?_ | refine e_tupleO ?_ | refine e_tupleP ?_ | refine e_slO ?_ | refine e_reverse ?_ | refine e_listO ?_)); refine ⟨_, (by assumption), ?_⟩) | ((with_reducible (first | refine e_ixO ?_ | refine e_set ?_)); refine ⟨_, (by assumption), _, rfl, ?_⟩) | ((with_reducible (first | refine r_mulI ?_ ?_)); first | exact mul_ok (Or.inr (by decide)) | exact mul_ok (Or.inl (by decide))) | ((with_reducible (first | refine r_modI ?_ ?_ | refine r_fdvI ?_ ?_ | refine r_powI ?_ ?_)); decide) | dsimp only [endP])
      refine z_dec (fun hc => ?_) (fun hc => ?_)
      · have e : ns[h]? = none := List.getElem?_eq_none (by simp at hc; omega)
        simp only [go, e] at hg
        subst hg
        repeat (first | with_reducible (first | refine zs_seq ?_ | refine zs_asg ?_ | refine zs_drop ?_ | refine zs_ret ?_ | refine zs_retN ?_ | refine zs_next ?_ | refine zs_brk ?_ | refine zs_cnt ?_ | refine zs_if ?_ | refine zs_for ?_ | refine zs_while ?_ | refine z_true ?_ | refine z_false ?_ | refine r_k ?_ | refine r_op ?_ | refine r_un ?_ | refine r_nil ?_ | refine r_cons ?_ | refine r_tup ?_ | refine r_ptp ?_ | refine r_lst ?_ | refine r_ife ?_ | refine r_if1 ?_ | refine r_if0 ?_ | refine r_and ?_ | refine r_or ?_ | refine r_not ?_ | refine r_bool ?_ | refine r_asB ?_ | refine r_tru ?_ | refine r_truB ?_ | refine r_truI ?_ | refine r_andV ?_ | refine r_orV ?_ | refine r_andV1 ?_ | refine r_andV0 ?_ | refine r_orV1 ?_ | refine r_orV0 ?_ | refine r_notV ?_ | refine r_call ?_ | refine r_meth ?_ | refine r_addI ?_ | refine r_subI ?_ | refine r_negI ?_ | refine r_andI ?_ | refine r_ltI ?_ | refine r_gtI ?_ | refine r_leI ?_ | refine r_geI ?_ | refine r_eqI ?_ | refine r_eqS ?_ | refine r_neI ?_ | refine r_neS ?_ | refine r_is0 ?_ | refine r_is1 ?_ | refine r_is2 ?_ | refine r_is3 ?_ | refine r_isn0 ?_ | refine r_isn1 ?_ | refine r_isn2 ?_ | refine r_isn3 ?_ | refine r_lenT ?_ | refine r_intI ?_ | refine r_absI ?_ | refine r_sl ?_ | refine r_no ?_ | refine r_part ?_ | refine r_asP ?_ | refine r_slT ?_ | refine r_slR ?_ | refine r_iter ?_ | refine r_asT ?_ | refine r_asPt ?_ | refine r_asRo ?_ | refine r_rng1 ?_ | refine r_gNm ?_ | refine r_gIx ?_ | refine r_comp ?_ | refine r_chain ?_ | refine r_chn1 ?_ | refine r_chn0 ?_ | refine r_isi ?_ | refine r_newL ?_ | refine r_ok ?_) | ((with_reducible (first | refine e_var ?_ | refine e_ixT ?_ | refine e_gTp ?_)); refine ⟨_, rfl, ?_⟩) | ((with_reducible (first | refine r_mkT ?_ ?_ | refine r_mkP ?_ ?_ | refine r_mkL ?_ ?_)); exact Nat.le_of_ble_eq_true rfl) | ((with_reducible (first | refine e_mth ?_ | refine e_lenO ?_ | refine e_asO ?_ | refine e_truO ?_ | refine e_tupleO ?_ | refine e_tupleP ?_ | refine e_slO ?_ | refine e_reverse ?_ | refine e_listO ?_)); refine ⟨_, (by assumption), ?_⟩) | ((with_reducible (first | refine e_ixO ?_ | refine e_set ?_)); refine ⟨_, (by assumption), _, rfl, ?_⟩) | ((with_reducible (first | refine r_mulI ?_ ?_)); first | exact mul_ok (Or.inr (by decide)) | exact mul_ok (Or.inl (by decide))) | ((with_reducible (first | refine r_modI ?_ ?_ | refine r_fdvI ?_ ?_ | refine r_powI ?_ ?_)); decide) | dsimp only [endP])
        exact ⟨rfl, x⟩
      · have hlt : h < ns.length := by simp at hc; omega
        have e : ns[h]? = some ns[h] := List.getElem?_eq_getElem hlt
        simp only [go, e] at hg
        repeat (first | with_reducible (first | refine zs_seq ?_ | refine zs_asg ?_ | refine zs_drop ?_ | refine zs_ret ?_ | refine zs_retN ?_ | refine zs_next ?_ | refine zs_brk ?_ | refine zs_cnt ?_ | refine zs_if ?_ | refine zs_for ?_ | refine zs_while ?_ | refine z_true ?_ | refine z_false ?_ | refine r_k ?_ | refine r_op ?_ | refine r_un ?_ | refine r_nil ?_ | refine r_cons ?_ | refine r_tup ?_ | refine r_ptp ?_ | refine r_lst ?_ | refine r_ife ?_ | refine r_if1 ?_ | refine r_if0 ?_ | refine r_and ?_ | refine r_or ?_ | refine r_not ?_ | refine r_bool ?_ | refine r_asB ?_ | refine r_tru ?_ | refine r_truB ?_ | refine r_truI ?_ | refine r_andV ?_ | refine r_orV ?_ | refine r_andV1 ?_ | refine r_andV0 ?_ | refine r_orV1 ?_ | refine r_orV0 ?_ | refine r_notV ?_ | refine r_call ?_ | refine r_meth ?_ | refine r_addI ?_ | refine r_subI ?_ | refine r_negI ?_ | refine r_andI ?_ | refine r_ltI ?_ | refine r_gtI ?_ | refine r_leI ?_ | refine r_geI ?_ | refine r_eqI ?_ | refine r_eqS ?_ | refine r_neI ?_ | refine r_neS ?_ | refine r_is0 ?_ | refine r_is1 ?_ | refine r_is2 ?_ | refine r_is3 ?_ | refine r_isn0 ?_ | refine r_isn1 ?_ | refine r_isn2 ?_ | refine r_isn3 ?_ | refine r_lenT ?_ | refine r_intI ?_ | refine r_absI ?_ | refine r_sl ?_ | refine r_no ?_ | refine r_part ?_ | refine r_asP ?_ | refine r_slT ?_ | refine r_slR ?_ | refine r_iter ?_ | refine r_asT ?_ | refine r_asPt ?_ | refine r_asRo ?_ | refine r_rng1 ?_ | refine r_gNm ?_ | refine r_gIx ?_ | refine r_comp ?_ | refine r_chain ?_ | refine r_chn1 ?_ | refine r_chn0 ?_ | refine r_isi ?_ | refine r_newL ?_ | refine r_ok ?_) | ((with_reducible (first | refine e_var ?_ | refine e_ixT ?_ | refine e_gTp ?_)); refine ⟨_, rfl, ?_⟩) | ((with_reducible (first | refine r_mkT ?_ ?_ | refine r_mkP ?_ ?_ | refine r_mkL ?_ ?_)); exact Nat.le_of_ble_eq_true rfl) | ((with_reducible (first | refine e_mth ?_ | refine e_lenO ?_ | refine e_asO ?_ | refine e_truO ?_ | refine e_tupleO ?_ | refine e_tupleP ?_ | refine e_slO ?_ | refine e_reverse ?_ | refine e_listO ?_)); refine ⟨_, (by assumption), ?_⟩) | ((with_reducible (first | refine e_ixO ?_ | refine e_set ?_)); refine ⟨_, (by assumption), _, rfl, ?_⟩) | ((with_reducible (first | refine r_mulI ?_ ?_)); first | exact mul_ok (Or.inr (by decide)) | exact mul_ok (Or.inl (by decide))) | ((with_reducible (first | refine r_modI ?_ ?_ | refine r_fdvI ?_ ?_ | refine r_powI ?_ ?_)); decide) | dsimp only [endP])
        refine z_yes (by decide) ?_
        repeat (first | with_reducible (first | refine zs_seq ?_ | refine zs_asg ?_ | refine zs_drop ?_ | refine zs_ret ?_ | refine zs_retN ?_ | refine zs_next ?_ | refine zs_brk ?_ | refine zs_cnt ?_ | refine zs_if ?_ | refine zs_for ?_ | refine zs_while ?_ | refine z_true ?_ | refine z_false ?_ | refine r_k ?_ | refine r_op ?_ | refine r_un ?_ | refine r_nil ?_ | refine r_cons ?_ | refine r_tup ?_ | refine r_ptp ?_ | refine r_lst ?_ | refine r_ife ?_ | refine r_if1 ?_ | refine r_if0 ?_ | refine r_and ?_ | refine r_or ?_ | refine r_not ?_ | refine r_bool ?_ | refine r_asB ?_ | refine r_tru ?_ | refine r_truB ?_ | refine r_truI ?_ | refine r_andV ?_ | refine r_orV ?_ | refine r_andV1 ?_ | refine r_andV0 ?_ | refine r_orV1 ?_ | refine r_orV0 ?_ | refine r_notV ?_ | refine r_call ?_ | refine r_meth ?_ | refine r_addI ?_ | refine r_subI ?_ | refine r_negI ?_ | refine r_andI ?_ | refine r_ltI ?_ | refine r_gtI ?_ | refine r_leI ?_ | refine r_geI ?_ | refine r_eqI ?_ | refine r_eqS ?_ | refine r_neI ?_ | refine r_neS ?_ | refine r_is0 ?_ | refine r_is1 ?_ | refine r_is2 ?_ | refine r_is3 ?_ | refine r_isn0 ?_ | refine r_isn1 ?_ | refine r_isn2 ?_ | refine r_isn3 ?_ | refine r_lenT ?_ | refine r_intI ?_ | refine r_absI ?_ | refine r_sl ?_ | refine r_no ?_ | refine r_part ?_ | refine r_asP ?_ | refine r_slT ?_ | refine r_slR ?_ | refine r_iter ?_ | refine r_asT ?_ | refine r_asPt ?_ | refine r_asRo ?_ | refine r_rng1 ?_ | refine r_gNm ?_ | refine r_gIx ?_ | refine r_comp ?_ | refine r_chain ?_ | refine r_chn1 ?_ | refine r_chn0 ?_ | refine r_isi ?_ | refine r_newL ?_ | refine r_ok ?_) | ((with_reducible (first | refine e_var ?_ | refine e_ixT ?_ | refine e_gTp ?_)); refine ⟨_, rfl, ?_⟩) | ((with_reducible (first | refine r_mkT ?_ ?_ | refine r_mkP ?_ ?_ | refine r_mkL ?_ ?_)); exact Nat.le_of_ble_eq_true rfl) | ((with_reducible (first | refine e_mth ?_ | refine e_lenO ?_ | refine e_asO ?_ | refine e_truO ?_ | refine e_tupleO ?_ | refine e_tupleP ?_ | refine e_slO ?_ | refine e_reverse ?_ | refine e_listO ?_)); refine ⟨_, (by assumption), ?_⟩) | ((with_reducible (first | refine e_ixO ?_ | refine e_set ?_)); refine ⟨_, (by assumption), _, rfl, ?_⟩) | ((with_reducible (first | refine r_mulI ?_ ?_)); first | exact mul_ok (Or.inr (by decide)) | exact mul_ok (Or.inl (by decide))) | ((with_reducible (first | refine r_modI ?_ ?_ | refine r_fdvI ?_ ?_ | refine r_powI ?_ ?_)); decide) | dsimp only [endP])
        refine r_ixT (atI_map hlt) ?_
        repeat (first | with_reducible (first | refine zs_seq ?_ | refine zs_asg ?_ | refine zs_drop ?_ | refine zs_ret ?_ | refine zs_retN ?_ | refine zs_next ?_ | refine zs_brk ?_ | refine zs_cnt ?_ | refine zs_if ?_ | refine zs_for ?_ | refine zs_while ?_ | refine z_true ?_ | refine z_false ?_ | refine r_k ?_ | refine r_op ?_ | refine r_un ?_ | refine r_nil ?_ | refine r_cons ?_ | refine r_tup ?_ | refine r_ptp ?_ | refine r_lst ?_ | refine r_ife ?_ | refine r_if1 ?_ | refine r_if0 ?_ | refine r_and ?_ | refine r_or ?_ | refine r_not ?_ | refine r_bool ?_ | refine r_asB ?_ | refine r_tru ?_ | refine r_truB ?_ | refine r_truI ?_ | refine r_andV ?_ | refine r_orV ?_ | refine r_andV1 ?_ | refine r_andV0 ?_ | refine r_orV1 ?_ | refine r_orV0 ?_ | refine r_notV ?_ | refine r_call ?_ | refine r_meth ?_ | refine r_addI ?_ | refine r_subI ?_ | refine r_negI ?_ | refine r_andI ?_ | refine r_ltI ?_ | refine r_gtI ?_ | refine r_leI ?_ | refine r_geI ?_ | refine r_eqI ?_ | refine r_eqS ?_ | refine r_neI ?_ | refine r_neS ?_ | refine r_is0 ?_ | refine r_is1 ?_ | refine r_is2 ?_ | refine r_is3 ?_ | refine r_isn0 ?_ | refine r_isn1 ?_ | refine r_isn2 ?_ | refine r_isn3 ?_ | refine r_lenT ?_ | refine r_intI ?_ | refine r_absI ?_ | refine r_sl ?_ | refine r_no ?_ | refine r_part ?_ | refine r_asP ?_ | refine r_slT ?_ | refine r_slR ?_ | refine r_iter ?_ | refine r_asT ?_ | refine r_asPt ?_ | refine r_asRo ?_ | refine r_rng1 ?_ | refine r_gNm ?_ | refine r_gIx ?_ | refine r_comp ?_ | refine r_chain ?_ | refine r_chn1 ?_ | refine r_chn0 ?_ | refine r_isi ?_ | refine r_newL ?_ | refine r_ok ?_) | ((with_reducible (first | refine e_var ?_ | refine e_ixT ?_ | refine e_gTp ?_)); refine ⟨_, rfl, ?_⟩) | ((with_reducible (first | refine r_mkT ?_ ?_ | refine r_mkP ?_ ?_ | refine r_mkL ?_ ?_)); exact Nat.le_of_ble_eq_true rfl) | ((with_reducible (first | refine e_mth ?_ | refine e_lenO ?_ | refine e_asO ?_ | refine e_truO ?_ | refine e_tupleO ?_ | refine e_tupleP ?_ | refine e_slO ?_ | refine e_reverse ?_ | refine e_listO ?_)); refine ⟨_, (by assumption), ?_⟩) | ((with_reducible (first | refine e_ixO ?_ | refine e_set ?_)); refine ⟨_, (by assumption), _, rfl, ?_⟩) | ((with_reducible (first | refine r_mulI ?_ ?_)); first | exact mul_ok (Or.inr (by decide)) | exact mul_ok (Or.inl (by decide))) | ((with_reducible (first | refine r_modI ?_ ?_ | refine r_fdvI ?_ ?_ | refine r_powI ?_ ?_)); decide) | dsimp only [endP])
        refine r_append hm (lt_line (by simp; omega)) ?_
        repeat (first | with_reducible (first | refine zs_seq ?_ | refine zs_asg ?_ | refine zs_drop ?_ | refine zs_ret ?_ | refine zs_retN ?_ | refine zs_next ?_ | refine zs_brk ?_ | refine zs_cnt ?_ | refine zs_if ?_ | refine zs_for ?_ | refine zs_while ?_ | refine z_true ?_ | refine z_false ?_ | refine r_k ?_ | refine r_op ?_ | refine r_un ?_ | refine r_nil ?_ | refine r_cons ?_ | refine r_tup ?_ | refine r_ptp ?_ | refine r_lst ?_ | refine r_ife ?_ | refine r_if1 ?_ | refine r_if0 ?_ | refine r_and ?_ | refine r_or ?_ | refine r_not ?_ | refine r_bool ?_ | refine r_asB ?_ | refine r_tru ?_ | refine r_truB ?_ | refine r_truI ?_ | refine r_andV ?_ | refine r_orV ?_ | refine r_andV1 ?_ | refine r_andV0 ?_ | refine r_orV1 ?_ | refine r_orV0 ?_ | refine r_notV ?_ | refine r_call ?_ | refine r_meth ?_ | refine r_addI ?_ | refine r_subI ?_ | refine r_negI ?_ | refine r_andI ?_ | refine r_ltI ?_ | refine r_gtI ?_ | refine r_leI ?_ | refine r_geI ?_ | refine r_eqI ?_ | refine r_eqS ?_ | refine r_neI ?_ | refine r_neS ?_ | refine r_is0 ?_ | refine r_is1 ?_ | refine r_is2 ?_ | refine r_is3 ?_ | refine r_isn0 ?_ | refine r_isn1 ?_ | refine r_isn2 ?_ | refine r_isn3 ?_ | refine r_lenT ?_ | refine r_intI ?_ | refine r_absI ?_ | refine r_sl ?_ | refine r_no ?_ | refine r_part ?_ | refine r_asP ?_ | refine r_slT ?_ | refine r_slR ?_ | refine r_iter ?_ | refine r_asT ?_ | refine r_asPt ?_ | refine r_asRo ?_ | refine r_rng1 ?_ | refine r_gNm ?_ | refine r_gIx ?_ | refine r_comp ?_ | refine r_chain ?_ | refine r_chn1 ?_ | refine r_chn0 ?_ | refine r_isi ?_ | refine r_newL ?_ | refine r_ok ?_) | ((with_reducible (first | refine e_var ?_ | refine e_ixT ?_ | refine e_gTp ?_)); refine ⟨_, rfl, ?_⟩) | ((with_reducible (first | refine r_mkT ?_ ?_ | refine r_mkP ?_ ?_ | refine r_mkL ?_ ?_)); exact Nat.le_of_ble_eq_true rfl) | ((with_reducible (first | refine e_mth ?_ | refine e_lenO ?_ | refine e_asO ?_ | refine e_truO ?_ | refine e_tupleO ?_ | refine e_tupleP ?_ | refine e_slO ?_ | refine e_reverse ?_ | refine e_listO ?_)); refine ⟨_, (by assumption), ?_⟩) | ((with_reducible (first | refine e_ixO ?_ | refine e_set ?_)); refine ⟨_, (by assumption), _, rfl, ?_⟩) | ((with_reducible (first | refine r_mulI ?_ ?_)); first | exact mul_ok (Or.inr (by decide)) | exact mul_ok (Or.inl (by decide))) | ((with_reducible (first | refine r_modI ?_ ?_ | refine r_fdvI ?_ ?_ | refine r_powI ?_ ?_)); decide) | dsimp only [endP])
        refine z_no (by decide) ?_
        repeat (first | with_reducible (first | refine zs_seq ?_ | refine zs_asg ?_ | refine zs_drop ?_ | refine zs_ret ?_ | refine zs_retN ?_ | refine zs_next ?_ | refine zs_brk ?_ | refine zs_cnt ?_ | refine zs_if ?_ | refine zs_for ?_ | refine zs_while ?_ | refine z_true ?_ | refine z_false ?_ | refine r_k ?_ | refine r_op ?_ | refine r_un ?_ | refine r_nil ?_ | refine r_cons ?_ | refine r_tup ?_ | refine r_ptp ?_ | refine r_lst ?_ | refine r_ife ?_ | refine r_if1 ?_ | refine r_if0 ?_ | refine r_and ?_ | refine r_or ?_ | refine r_not ?_ | refine r_bool ?_ | refine r_asB ?_ | refine r_tru ?_ | refine r_truB ?_ | refine r_truI ?_ | refine r_andV ?_ | refine r_orV ?_ | refine r_andV1 ?_ | refine r_andV0 ?_ | refine r_orV1 ?_ | refine r_orV0 ?_ | refine r_notV ?_ | refine r_call ?_ | refine r_meth ?_ | refine r_addI ?_ | refine r_subI ?_ | refine r_negI ?_ | refine r_andI ?_ | refine r_ltI ?_ | refine r_gtI ?_ | refine r_leI ?_ | refine r_geI ?_ | refine r_eqI ?_ | refine r_eqS ?_ | refine r_neI ?_ | refine r_neS ?_ | refine r_is0 ?_ | refine r_is1 ?_ | refine r_is2 ?_ | refine r_is3 ?_ | refine r_isn0 ?_ | refine r_isn1 ?_ | refine r_isn2 ?_ | refine r_isn3 ?_ | refine r_lenT ?_ | refine r_intI ?_ | refine r_absI ?_ | refine r_sl ?_ | refine r_no ?_ | refine r_part ?_ | refine r_asP ?_ | refine r_slT ?_ | refine r_slR ?_ | refine r_iter ?_ | refine r_asT ?_ | refine r_asPt ?_ | refine r_asRo ?_ | refine r_rng1 ?_ | refine r_gNm ?_ | refine r_gIx ?_ | refine r_comp ?_ | refine r_chain ?_ | refine r_chn1 ?_ | refine r_chn0 ?_ | refine r_isi ?_ | refine r_newL ?_ | refine r_ok ?_) | ((with_reducible (first | refine e_var ?_ | refine e_ixT ?_ | refine e_gTp ?_)); refine ⟨_, rfl, ?_⟩) | ((with_reducible (first | refine r_mkT ?_ ?_ | refine r_mkP ?_ ?_ | refine r_mkL ?_ ?_)); exact Nat.le_of_ble_eq_true rfl) | ((with_reducible (first | refine e_mth ?_ | refine e_lenO ?_ | refine e_asO ?_ | refine e_truO ?_ | refine e_tupleO ?_ | refine e_tupleP ?_ | refine e_slO ?_ | refine e_reverse ?_ | refine e_listO ?_)); refine ⟨_, (by assumption), ?_⟩) | ((with_reducible (first | refine e_ixO ?_ | refine e_set ?_)); refine ⟨_, (by assumption), _, rfl, ?_⟩) | ((with_reducible (first | refine r_mulI ?_ ?_)); first | exact mul_ok (Or.inr (by decide)) | exact mul_ok (Or.inl (by decide))) | ((with_reducible (first | refine r_modI ?_ ?_ | refine r_fdvI ?_ ?_ | refine r_powI ?_ ?_)); decide) | dsimp only [endP])
        exact ⟨_, _, h + 1, ms ++ [ns[h]], rfl, by rw [set_at hm]; simp, by simp; omega, hlt, hg, x.setNew (Nat.le_refl _)⟩
    | drop =>
      repeat (first | with_reducible (first | refine zs_seq ?_ | refine zs_asg ?_ | refine zs_drop ?_ | refine zs_ret ?_ | refine zs_retN ?_ | refine zs_next ?_ | refine zs_brk ?_ | refine zs_cnt ?_ | refine zs_if ?_ | refine zs_for ?_ | refine zs_while ?_ | refine z_true ?_ | refine z_false ?_ | refine r_k ?_ | refine r_op ?_ | refine r_un ?_ | refine r_nil ?_ | refine r_cons ?_ | refine r_tup ?_ | refine r_ptp ?_ | refine r_lst ?_ | refine r_ife ?_ | refine r_if1 ?_ | refine r_if0 ?_ | refine r_and ?_ | refine r_or ?_ | refine r_not ?_ | refine r_bool ?_ | refine r_asB ?_ | refine r_tru ?_ | refine r_truB ?_ | refine r_truI ?_ | refine r_andV ?_ | refine r_orV ?_ | refine r_andV1 ?_ | refine r_andV0 ?_ | refine r_orV1 ?_ | refine r_orV0 ?_ | refine r_notV ?_ | refine r_call ?_ | refine r_meth ?_ | refine r_addI ?_ | refine r_subI ?_ | refine r_negI ?_ | refine r_andI ?_ | refine r_ltI ?_ | refine r_gtI ?_ | refine r_leI ?_ | refine r_geI ?_ | refine r_eqI ?_ | refine r_eqS ?_ | refine r_neI ?_ | refine r_neS ?_ | refine r_is0 ?_ | refine r_is1 ?_ | refine r_is2 ?_ | refine r_is3 ?_ | refine r_isn0 ?_ | refine r_isn1 ?_ | refine r_isn2 ?_ | refine r_isn3 ?_ | refine r_lenT ?_ | refine r_intI ?_ | refine r_absI ?_ | refine r_sl ?_ | refine r_no ?_ | refine r_part ?_ | refine r_asP ?_ | refine r_slT ?_ | refine r_slR ?_ | refine r_iter ?_ | refine r_asT ?_ | refine r_asPt ?_ | refine r_asRo ?_ | refine r_rng1 ?_ | refine r_gNm ?_ | refine r_gIx ?_ | refine r_comp ?_ | refine r_chain ?_ | refine r_chn1 ?_ | refine r_chn0 ?_ | refine r_isi ?_ | refine r_newL ?_ | refine r_ok ?_ | refine r_fld ?_ | refine zs_fld ?_ | refine r_tupRev ?_ | refine r_tRev ?_) | ((with_reducible (first | refine e_var ?_ | refine e_ixT ?_ | refine e_gTp ?_)); refine ⟨_, rfl, ?_⟩) | ((with_reducible (first | refine r_mkT ?_ ?_ | refine r_mkP ?_ ?_ | refine r_mkL ?_ ?_)); exact Nat.le_of_ble_eq_true rfl) | ((with_reducible (first | refine e_mth ?_ | refine e_lenO ?_ | refine e_asO ?_ | refine e_truO ?_ | refine e_tupleO ?_ | refine e_tupleP ?_ | refine e_slO ?_ | refine e_reverse ?_ | refine e_listO ?_)); refine ⟨_, (by assumption), ?_⟩) | ((with_reducible (first | refine e_ixO ?_ | refine e_set ?_)); refine ⟨_, (by assumption), _, rfl, ?_⟩) | ((with_reducible (first | refine r_mulI ?_ ?_)); first | exact mul_ok (Or.inr (by decide)) | exact mul_ok (Or.inl (by decide))) | ((with_reducible (first | refine r_modI ?_ ?_ | refine r_fdvI ?_ ?_ | refine r_powI ?_ ?_)); decide) | ((with_reducible (first | refine z_cF ?_ ?_ | refine r_cF ?_ ?_)); decide +kernel) | ((with_reducible (first | refine z_cT ?_ ?_ | refine r_cT ?_ ?_)); decide +kernel) | ((with_reducible refine r_inT ?_ ?_ ?_); exact rfl; decide +kernel) | dsimp only [endP])
      refine r_ixT (ds := [.str "drop"]) atI_0 ?_
      repeat (first | with_reducible (first | refine zs_seq ?_ | refine zs_asg ?_ | refine zs_drop ?_ | refine zs_ret ?_ | refine zs_retN ?_ | refine zs_next ?_ | refine zs_brk ?_ | refine zs_cnt ?_ | refine zs_if ?_ | refine zs_for ?_ | refine zs_while ?_ | refine z_true ?_ | refine z_false ?_ | refine r_k ?_ | refine r_op ?_ | refine r_un ?_ | refine r_nil ?_ | refine r_cons ?_ | refine r_tup ?_ | refine r_ptp ?_ | refine r_lst ?_ | refine r_ife ?_ | refine r_if1 ?_ | refine r_if0 ?_ | refine r_and ?_ | refine r_or ?_ | refine r_not ?_ | refine r_bool ?_ | refine r_asB ?_ | refine r_tru ?_ | refine r_truB ?_ | refine r_truI ?_ | refine r_andV ?_ | refine r_orV ?_ | refine r_andV1 ?_ | refine r_andV0 ?_ | refine r_orV1 ?_ | refine r_orV0 ?_ | refine r_notV ?_ | refine r_call ?_ | refine r_meth ?_ | refine r_addI ?_ | refine r_subI ?_ | refine r_negI ?_ | refine r_andI ?_ | refine r_ltI ?_ | refine r_gtI ?_ | refine r_leI ?_ | refine r_geI ?_ | refine r_eqI ?_ | refine r_eqS ?_ | refine r_neI ?_ | refine r_neS ?_ | refine r_is0 ?_ | refine r_is1 ?_ | refine r_is2 ?_ | refine r_is3 ?_ | refine r_isn0 ?_ | refine r_isn1 ?_ | refine r_isn2 ?_ | refine r_isn3 ?_ | refine r_lenT ?_ | refine r_intI ?_ | refine r_absI ?_ | refine r_sl ?_ | refine r_no ?_ | refine r_part ?_ | refine r_asP ?_ | refine r_slT ?_ | refine r_slR ?_ | refine r_iter ?_ | refine r_asT ?_ | refine r_asPt ?_ | refine r_asRo ?_ | refine r_rng1 ?_ | refine r_gNm ?_ | refine r_gIx ?_ | refine r_comp ?_ | refine r_chain ?_ | refine r_chn1 ?_ | refine r_chn0 ?_ | refine r_isi ?_ | refine r_newL ?_ | refine r_ok ?_) | ((with_reducible (first | refine e_var ?_ | refine e_ixT ?_ | refine e_gTp ?_)); refine ⟨_, rfl, ?_⟩) | ((with_reducible (first | refine r_mkT ?_ ?_ | refine r_mkP ?_ ?_ | refine r_mkL ?_ ?_)); exact Nat.le_of_ble_eq_true rfl) | ((with_reducible (first | refine e_mth ?_ | refine e_lenO ?_ | refine e_asO ?_ | refine e_truO ?_ | refine e_tupleO ?_ | refine e_tupleP ?_ | refine e_slO ?_ | refine e_reverse ?_ | refine e_listO ?_)); refine ⟨_, (by assumption), ?_⟩) | ((with_reducible (first | refine e_ixO ?_ | refine e_set ?_)); refine ⟨_, (by assumption), _, rfl, ?_⟩) | ((with_reducible (first | refine r_mulI ?_ ?_)); first | exact mul_ok (Or.inr (by decide)) | exact mul_ok (Or.inl (by decide))) | ((with_reducible (first | refine r_modI ?_ ?_ | refine r_fdvI ?_ ?_ | refine r_powI ?_ ?_)); decide) | dsimp only [endP])
      refine z_no (by decide) ?_
      repeat (first | with_reducible (first | refine zs_seq ?_ | refine zs_asg ?_ | refine zs_drop ?_ | refine zs_ret ?_ | refine zs_retN ?_ | refine zs_next ?_ | refine zs_brk ?_ | refine zs_cnt ?_ | refine zs_if ?_ | refine zs_for ?_ | refine zs_while ?_ | refine z_true ?_ | refine z_false ?_ | refine r_k ?_ | refine r_op ?_ | refine r_un ?_ | refine r_nil ?_ | refine r_cons ?_ | refine r_tup ?_ | refine r_ptp ?_ | refine r_lst ?_ | refine r_ife ?_ | refine r_if1 ?_ | refine r_if0 ?_ | refine r_and ?_ | refine r_or ?_ | refine r_not ?_ | refine r_bool ?_ | refine r_asB ?_ | refine r_tru ?_ | refine r_truB ?_ | refine r_truI ?_ | refine r_andV ?_ | refine r_orV ?_ | refine r_andV1 ?_ | refine r_andV0 ?_ | refine r_orV1 ?_ | refine r_orV0 ?_ | refine r_notV ?_ | refine r_call ?_ | refine r_meth ?_ | refine r_addI ?_ | refine r_subI ?_ | refine r_negI ?_ | refine r_andI ?_ | refine r_ltI ?_ | refine r_gtI ?_ | refine r_leI ?_ | refine r_geI ?_ | refine r_eqI ?_ | refine r_eqS ?_ | refine r_neI ?_ | refine r_neS ?_ | refine r_is0 ?_ | refine r_is1 ?_ | refine r_is2 ?_ | refine r_is3 ?_ | refine r_isn0 ?_ | refine r_isn1 ?_ | refine r_isn2 ?_ | refine r_isn3 ?_ | refine r_lenT ?_ | refine r_intI ?_ | refine r_absI ?_ | refine r_sl ?_ | refine r_no ?_ | refine r_part ?_ | refine r_asP ?_ | refine r_slT ?_ | refine r_slR ?_ | refine r_iter ?_ | refine r_asT ?_ | refine r_asPt ?_ | refine r_asRo ?_ | refine r_rng1 ?_ | refine r_gNm ?_ | refine r_gIx ?_ | refine r_comp ?_ | refine r_chain ?_ | refine r_chn1 ?_ | refine r_chn0 ?_ | refine r_isi ?_ | refine r_newL ?_ | refine r_ok ?_) | ((with_reducible (first | refine e_var ?_ | refine e_ixT ?_ | refine e_gTp ?_)); refine ⟨_, rfl, ?_⟩) | ((with_reducible (first | refine r_mkT ?_ ?_ | refine r_mkP ?_ ?_ | refine r_mkL ?_ ?_)); exact Nat.le_of_ble_eq_true rfl) | ((with_reducible (first | refine e_mth ?_ | refine e_lenO ?_ | refine e_asO ?_ | refine e_truO ?_ | refine e_tupleO ?_ | refine e_tupleP ?_ | refine e_slO ?_ | refine e_reverse ?_ | refine e_listO ?_)); refine ⟨_, (by assumption), ?_⟩) | ((with_reducible (first | refine e_ixO ?_ | refine e_set ?_)); refine ⟨_, (by assumption), _, rfl, ?_⟩) | ((with_reducible (first | refine r_mulI ?_ ?_)); first | exact mul_ok (Or.inr (by decide)) | exact mul_ok (Or.inl (by decide))) | ((with_reducible (first | refine r_modI ?_ ?_ | refine r_fdvI ?_ ?_ | refine r_powI ?_ ?_)); decide) | dsimp only [endP])
      refine z_dec (fun hc => ?_) (fun hc => ?_)
      · have e : ns[h]? = none := List.getElem?_eq_none (by simp at hc; omega)
        simp only [go, e] at hg
        subst hg
        repeat (first | with_reducible (first | refine zs_seq ?_ | refine zs_asg ?_ | refine zs_drop ?_ | refine zs_ret ?_ | refine zs_retN ?_ | refine zs_next ?_ | refine zs_brk ?_ | refine zs_cnt ?_ | refine zs_if ?_ | refine zs_for ?_ | refine zs_while ?_ | refine z_true ?_ | refine z_false ?_ | refine r_k ?_ | refine r_op ?_ | refine r_un ?_ | refine r_nil ?_ | refine r_cons ?_ | refine r_tup ?_ | refine r_ptp ?_ | refine r_lst ?_ | refine r_ife ?_ | refine r_if1 ?_ | refine r_if0 ?_ | refine r_and ?_ | refine r_or ?_ | refine r_not ?_ | refine r_bool ?_ | refine r_asB ?_ | refine r_tru ?_ | refine r_truB ?_ | refine r_truI ?_ | refine r_andV ?_ | refine r_orV ?_ | refine r_andV1 ?_ | refine r_andV0 ?_ | refine r_orV1 ?_ | refine r_orV0 ?_ | refine r_notV ?_ | refine r_call ?_ | refine r_meth ?_ | refine r_addI ?_ | refine r_subI ?_ | refine r_negI ?_ | refine r_andI ?_ | refine r_ltI ?_ | refine r_gtI ?_ | refine r_leI ?_ | refine r_geI ?_ | refine r_eqI ?_ | refine r_eqS ?_ | refine r_neI ?_ | refine r_neS ?_ | refine r_is0 ?_ | refine r_is1 ?_ | refine r_is2 ?_ | refine r_is3 ?_ | refine r_isn0 ?_ | refine r_isn1 ?_ | refine r_isn2 ?_ | refine r_isn3 ?_ | refine r_lenT ?_ | refine r_intI ?_ | refine r_absI ?_ | refine r_sl ?_ | refine r_no ?_ | refine r_part ?_ | refine r_asP ?_ | refine r_slT ?_ | refine r_slR ?_ | refine r_iter ?_ | refine r_asT ?_ | refine r_asPt ?_ | refine r_asRo ?_ | refine r_rng1 ?_ | refine r_gNm ?_ | refine r_gIx ?_ | refine r_comp ?_ | refine r_chain ?_ | refine r_chn1 ?_ | refine r_chn0 ?_ | refine r_isi ?_ | refine r_newL ?_ | refine r_ok ?_) | ((with_reducible (first | refine e_var ?_ | refine e_ixT ?_ | refine e_gTp ?_)); refine ⟨_, rfl, ?_⟩) | ((with_reducible (first | refine r_mkT ?_ ?_ | refine r_mkP ?_ ?_ | refine r_mkL ?_ ?_)); exact Nat.le_of_ble_eq_true rfl) | ((with_reducible (first | refine e_mth ?_ | refine e_lenO ?_ | refine e_asO ?_ | refine e_truO ?_ | refine e_tupleO ?_ | refine e_tupleP ?_ | refine e_slO ?_ | refine e_reverse ?_ | refine e_listO ?_)); refine ⟨_, (by assumption), ?_⟩) | ((with_reducible (first | refine e_ixO ?_ | refine e_set ?_)); refine ⟨_, (by assumption), _, rfl, ?_⟩) | ((with_reducible (first | refine r_mulI ?_ ?_)); first | exact mul_ok (Or.inr (by decide)) | exact mul_ok (Or.inl (by decide))) | ((with_reducible (first | refine r_modI ?_ ?_ | refine r_fdvI ?_ ?_ | refine r_powI ?_ ?_)); decide) | dsimp only [endP])
        exact ⟨rfl, x⟩
      · have hlt : h < ns.length := by simp at hc; omega
        have e : ns[h]? = some ns[h] := List.getElem?_eq_getElem hlt
        simp only [go, e] at hg
        repeat (first | with_reducible (first | refine zs_seq ?_ | refine zs_asg ?_ | refine zs_drop ?_ | refine zs_ret ?_ | refine zs_retN ?_ | refine zs_next ?_ | refine zs_brk ?_ | refine zs_cnt ?_ | refine zs_if ?_ | refine zs_for ?_ | refine zs_while ?_ | refine z_true ?_ | refine z_false ?_ | refine r_k ?_ | refine r_op ?_ | refine r_un ?_ | refine r_nil ?_ | refine r_cons ?_ | refine r_tup ?_ | refine r_ptp ?_ | refine r_lst ?_ | refine r_ife ?_ | refine r_if1 ?_ | refine r_if0 ?_ | refine r_and ?_ | refine r_or ?_ | refine r_not ?_ | refine r_bool ?_ | refine r_asB ?_ | refine r_tru ?_ | refine r_truB ?_ | refine r_truI ?_ | refine r_andV ?_ | refine r_orV ?_ | refine r_andV1 ?_ | refine r_andV0 ?_ | refine r_orV1 ?_ | refine r_orV0 ?_ | refine r_notV ?_ | refine r_call ?_ | refine r_meth ?_ | refine r_addI ?_ | refine r_subI ?_ | refine r_negI ?_ | refine r_andI ?_ | refine r_ltI ?_ | refine r_gtI ?_ | refine r_leI ?_ | refine r_geI ?_ | refine r_eqI ?_ | refine r_eqS ?_ | refine r_neI ?_ | refine r_neS ?_ | refine r_is0 ?_ | refine r_is1 ?_ | refine r_is2 ?_ | refine r_is3 ?_ | refine r_isn0 ?_ | refine r_isn1 ?_ | refine r_isn2 ?_ | refine r_isn3 ?_ | refine r_lenT ?_ | refine r_intI ?_ | refine r_absI ?_ | refine r_sl ?_ | refine r_no ?_ | refine r_part ?_ | refine r_asP ?_ | refine r_slT ?_ | refine r_slR ?_ | refine r_iter ?_ | refine r_asT ?_ | refine r_asPt ?_ | refine r_asRo ?_ | refine r_rng1 ?_ | refine r_gNm ?_ | refine r_gIx ?_ | refine r_comp ?_ | refine r_chain ?_ | refine r_chn1 ?_ | refine r_chn0 ?_ | refine r_isi ?_ | refine r_newL ?_ | refine r_ok ?_) | ((with_reducible (first | refine e_var ?_ | refine e_ixT ?_ | refine e_gTp ?_)); refine ⟨_, rfl, ?_⟩) | ((with_reducible (first | refine r_mkT ?_ ?_ | refine r_mkP ?_ ?_ | refine r_mkL ?_ ?_)); exact Nat.le_of_ble_eq_true rfl) | ((with_reducible (first | refine e_mth ?_ | refine e_lenO ?_ | refine e_asO ?_ | refine e_truO ?_ | refine e_tupleO ?_ | refine e_tupleP ?_ | refine e_slO ?_ | refine e_reverse ?_ | refine e_listO ?_)); refine ⟨_, (by assumption), ?_⟩) | ((with_reducible (first | refine e_ixO ?_ | refine e_set ?_)); refine ⟨_, (by assumption), _, rfl, ?_⟩) | ((with_reducible (first | refine r_mulI ?_ ?_)); first | exact mul_ok (Or.inr (by decide)) | exact mul_ok (Or.inl (by decide))) | ((with_reducible (first | refine r_modI ?_ ?_ | refine r_fdvI ?_ ?_ | refine r_powI ?_ ?_)); decide) | dsimp only [endP])
        refine z_no (by decide) ?_
        repeat (first | with_reducible (first | refine zs_seq ?_ | refine zs_asg ?_ | refine zs_drop ?_ | refine zs_ret ?_ | refine zs_retN ?_ | refine zs_next ?_ | refine zs_brk ?_ | refine zs_cnt ?_ | refine zs_if ?_ | refine zs_for ?_ | refine zs_while ?_ | refine z_true ?_ | refine z_false ?_ | refine r_k ?_ | refine r_op ?_ | refine r_un ?_ | refine r_nil ?_ | refine r_cons ?_ | refine r_tup ?_ | refine r_ptp ?_ | refine r_lst ?_ | refine r_ife ?_ | refine r_if1 ?_ | refine r_if0 ?_ | refine r_and ?_ | refine r_or ?_ | refine r_not ?_ | refine r_bool ?_ | refine r_asB ?_ | refine r_tru ?_ | refine r_truB ?_ | refine r_truI ?_ | refine r_andV ?_ | refine r_orV ?_ | refine r_andV1 ?_ | refine r_andV0 ?_ | refine r_orV1 ?_ | refine r_orV0 ?_ | refine r_notV ?_ | refine r_call ?_ | refine r_meth ?_ | refine r_addI ?_ | refine r_subI ?_ | refine r_negI ?_ | refine r_andI ?_ | refine r_ltI ?_ | refine r_gtI ?_ | refine r_leI ?_ | refine r_geI ?_ | refine r_eqI ?_ | refine r_eqS ?_ | refine r_neI ?_ | refine r_neS ?_ | refine r_is0 ?_ | refine r_is1 ?_ | refine r_is2 ?_ | refine r_is3 ?_ | refine r_isn0 ?_ | refine r_isn1 ?_ | refine r_isn2 ?_ | refine r_isn3 ?_ | refine r_lenT ?_ | refine r_intI ?_ | refine r_absI ?_ | refine r_sl ?_ | refine r_no ?_ | refine r_part ?_ | refine r_asP ?_ | refine r_slT ?_ | refine r_slR ?_ | refine r_iter ?_ | refine r_asT ?_ | refine r_asPt ?_ | refine r_asRo ?_ | refine r_rng1 ?_ | refine r_gNm ?_ | refine r_gIx ?_ | refine r_comp ?_ | refine r_chain ?_ | refine r_chn1 ?_ | refine r_chn0 ?_ | refine r_isi ?_ | refine r_newL ?_ | refine r_ok ?_) | ((with_reducible (first | refine e_var ?_ | refine e_ixT ?_ | refine e_gTp ?_)); refine ⟨_, rfl, ?_⟩) | ((with_reducible (first | refine r_mkT ?_ ?_ | refine r_mkP ?_ ?_ | refine r_mkL ?_ ?_)); exact Nat.le_of_ble_eq_true rfl) | ((with_reducible (first | refine e_mth ?_ | refine e_lenO ?_ | refine e_asO ?_ | refine e_truO ?_ | refine e_tupleO ?_ | refine e_tupleP ?_ | refine e_slO ?_ | refine e_reverse ?_ | refine e_listO ?_)); refine ⟨_, (by assumption), ?_⟩) | ((with_reducible (first | refine e_ixO ?_ | refine e_set ?_)); refine ⟨_, (by assumption), _, rfl, ?_⟩) | ((with_reducible (first | refine r_mulI ?_ ?_)); first | exact mul_ok (Or.inr (by decide)) | exact mul_ok (Or.inl (by decide))) | ((with_reducible (first | refine r_modI ?_ ?_ | refine r_fdvI ?_ ?_ | refine r_powI ?_ ?_)); decide) | dsimp only [endP])
        refine z_no (by decide) ?_
        repeat (first | with_reducible (first | refine zs_seq ?_ | refine zs_asg ?_ | refine zs_drop ?_ | refine zs_ret ?_ | refine zs_retN ?_ | refine zs_next ?_ | refine zs_brk ?_ | refine zs_cnt ?_ | refine zs_if ?_ | refine zs_for ?_ | refine zs_while ?_ | refine z_true ?_ | refine z_false ?_ | refine r_k ?_ | refine r_op ?_ | refine r_un ?_ | refine r_nil ?_ | refine r_cons ?_ | refine r_tup ?_ | refine r_ptp ?_ | refine r_lst ?_ | refine r_ife ?_ | refine r_if1 ?_ | refine r_if0 ?_ | refine r_and ?_ | refine r_or ?_ | refine r_not ?_ | refine r_bool ?_ | refine r_asB ?_ | refine r_tru ?_ | refine r_truB ?_ | refine r_truI ?_ | refine r_andV ?_ | refine r_orV ?_ | refine r_andV1 ?_ | refine r_andV0 ?_ | refine r_orV1 ?_ | refine r_orV0 ?_ | refine r_notV ?_ | refine r_call ?_ | refine r_meth ?_ | refine r_addI ?_ | refine r_subI ?_ | refine r_negI ?_ | refine r_andI ?_ | refine r_ltI ?_ | refine r_gtI ?_ | refine r_leI ?_ | refine r_geI ?_ | refine r_eqI ?_ | refine r_eqS ?_ | refine r_neI ?_ | refine r_neS ?_ | refine r_is0 ?_ | refine r_is1 ?_ | refine r_is2 ?_ | refine r_is3 ?_ | refine r_isn0 ?_ | refine r_isn1 ?_ | refine r_isn2 ?_ | refine r_isn3 ?_ | refine r_lenT ?_ | refine r_intI ?_ | refine r_absI ?_ | refine r_sl ?_ | refine r_no ?_ | refine r_part ?_ | refine r_asP ?_ | refine r_slT ?_ | refine r_slR ?_ | refine r_iter ?_ | refine r_asT ?_ | refine r_asPt ?_ | refine r_asRo ?_ | refine r_rng1 ?_ | refine r_gNm ?_ | refine r_gIx ?_ | refine r_comp ?_ | refine r_chain ?_ | refine r_chn1 ?_ | refine r_chn0 ?_ | refine r_isi ?_ | refine r_newL ?_ | refine r_ok ?_) | ((with_reducible (first | refine e_var ?_ | refine e_ixT ?_ | refine e_gTp ?_)); refine ⟨_, rfl, ?_⟩) | ((with_reducible (first | refine r_mkT ?_ ?_ | refine r_mkP ?_ ?_ | refine r_mkL ?_ ?_)); exact Nat.le_of_ble_eq_true rfl) | ((with_reducible (first | refine e_mth ?_ | refine e_lenO ?_ | refine e_asO ?_ | refine e_truO ?_ | refine e_tupleO ?_ | refine e_tupleP ?_ | refine e_slO ?_ | refine e_reverse ?_ | refine e_listO ?_)); refine ⟨_, (by assumption), ?_⟩) | ((with_reducible (first | refine e_ixO ?_ | refine e_set ?_)); refine ⟨_, (by assumption), _, rfl, ?_⟩) | ((with_reducible (first | refine r_mulI ?_ ?_)); first | exact mul_ok (Or.inr (by decide)) | exact mul_ok (Or.inl (by decide))) | ((with_reducible (first | refine r_modI ?_ ?_ | refine r_fdvI ?_ ?_ | refine r_powI ?_ ?_)); decide) | dsimp only [endP])
        exact ⟨_, _, h + 1, ms, rfl, hm, by omega, hlt, hg, x⟩
    | swap b =>
      repeat (first | with_reducible (first | refine zs_seq ?_ | refine zs_asg ?_ | refine zs_drop ?_ | refine zs_ret ?_ | refine zs_retN ?_ | refine zs_next ?_ | refine zs_brk ?_ | refine zs_cnt ?_ | refine zs_if ?_ | refine zs_for ?_ | refine zs_while ?_ | refine z_true ?_ | refine z_false ?_ | refine r_k ?_ | refine r_op ?_ | refine r_un ?_ | refine r_nil ?_ | refine r_cons ?_ | refine r_tup ?_ | refine r_ptp ?_ | refine r_lst ?_ | refine r_ife ?_ | refine r_if1 ?_ | refine r_if0 ?_ | refine r_and ?_ | refine r_or ?_ | refine r_not ?_ | refine r_bool ?_ | refine r_asB ?_ | refine r_tru ?_ | refine r_truB ?_ | refine r_truI ?_ | refine r_andV ?_ | refine r_orV ?_ | refine r_andV1 ?_ | refine r_andV0 ?_ | refine r_orV1 ?_ | refine r_orV0 ?_ | refine r_notV ?_ | refine r_call ?_ | refine r_meth ?_ | refine r_addI ?_ | refine r_subI ?_ | refine r_negI ?_ | refine r_andI ?_ | refine r_ltI ?_ | refine r_gtI ?_ | refine r_leI ?_ | refine r_geI ?_ | refine r_eqI ?_ | refine r_eqS ?_ | refine r_neI ?_ | refine r_neS ?_ | refine r_is0 ?_ | refine r_is1 ?_ | refine r_is2 ?_ | refine r_is3 ?_ | refine r_isn0 ?_ | refine r_isn1 ?_ | refine r_isn2 ?_ | refine r_isn3 ?_ | refine r_lenT ?_ | refine r_intI ?_ | refine r_absI ?_ | refine r_sl ?_ | refine r_no ?_ | refine r_part ?_ | refine r_asP ?_ | refine r_slT ?_ | refine r_slR ?_ | refine r_iter ?_ | refine r_asT ?_ | refine r_asPt ?_ | refine r_asRo ?_ | refine r_rng1 ?_ | refine r_gNm ?_ | refine r_gIx ?_ | refine r_comp ?_ | refine r_chain ?_ | refine r_chn1 ?_ | refine r_chn0 ?_ | refine r_isi ?_ | refine r_newL ?_ | refine r_ok ?_ | refine r_fld ?_ | refine zs_fld ?_ | refine r_tupRev ?_ | refine r_tRev ?_) | ((with_reducible (first | refine e_var ?_ | refine e_ixT ?_ | refine e_gTp ?_)); refine ⟨_, rfl, ?_⟩) | ((with_reducible (first | refine r_mkT ?_ ?_ | refine r_mkP ?_ ?_ | refine r_mkL ?_ ?_)); exact Nat.le_of_ble_eq_true rfl) | ((with_reducible (first | refine e_mth ?_ | refine e_lenO ?_ | refine e_asO ?_ | refine e_truO ?_ | refine e_tupleO ?_ | refine e_tupleP ?_ | refine e_slO ?_ | refine e_reverse ?_ | refine e_listO ?_)); refine ⟨_, (by assumption), ?_⟩) | ((with_reducible (first | refine e_ixO ?_ | refine e_set ?_)); refine ⟨_, (by assumption), _, rfl, ?_⟩) | ((with_reducible (first | refine r_mulI ?_ ?_)); first | exact mul_ok (Or.inr (by decide)) | exact mul_ok (Or.inl (by decide))) | ((with_reducible (first | refine r_modI ?_ ?_ | refine r_fdvI ?_ ?_ | refine r_powI ?_ ?_)); decide) | ((with_reducible (first | refine z_cF ?_ ?_ | refine r_cF ?_ ?_)); decide +kernel) | ((with_reducible (first | refine z_cT ?_ ?_ | refine r_cT ?_ ?_)); decide +kernel) | ((with_reducible refine r_inT ?_ ?_ ?_); exact rfl; decide +kernel) | dsimp only [endP])
      refine r_ixT (ds := [.str "swap", .int b]) atI_0 ?_
      repeat (first | with_reducible (first | refine zs_seq ?_ | refine zs_asg ?_ | refine zs_drop ?_ | refine zs_ret ?_ | refine zs_retN ?_ | refine zs_next ?_ | refine zs_brk ?_ | refine zs_cnt ?_ | refine zs_if ?_ | refine zs_for ?_ | refine zs_while ?_ | refine z_true ?_ | refine z_false ?_ | refine r_k ?_ | refine r_op ?_ | refine r_un ?_ | refine r_nil ?_ | refine r_cons ?_ | refine r_tup ?_ | refine r_ptp ?_ | refine r_lst ?_ | refine r_ife ?_ | refine r_if1 ?_ | refine r_if0 ?_ | refine r_and ?_ | refine r_or ?_ | refine r_not ?_ | refine r_bool ?_ | refine r_asB ?_ | refine r_tru ?_ | refine r_truB ?_ | refine r_truI ?_ | refine r_andV ?_ | refine r_orV ?_ | refine r_andV1 ?_ | refine r_andV0 ?_ | refine r_orV1 ?_ | refine r_orV0 ?_ | refine r_notV ?_ | refine r_call ?_ | refine r_meth ?_ | refine r_addI ?_ | refine r_subI ?_ | refine r_negI ?_ | refine r_andI ?_ | refine r_ltI ?_ | refine r_gtI ?_ | refine r_leI ?_ | refine r_geI ?_ | refine r_eqI ?_ | refine r_eqS ?_ | refine r_neI ?_ | refine r_neS ?_ | refine r_is0 ?_ | refine r_is1 ?_ | refine r_is2 ?_ | refine r_is3 ?_ | refine r_isn0 ?_ | refine r_isn1 ?_ | refine r_isn2 ?_ | refine r_isn3 ?_ | refine r_lenT ?_ | refine r_intI ?_ | refine r_absI ?_ | refine r_sl ?_ | refine r_no ?_ | refine r_part ?_ | refine r_asP ?_ | refine r_slT ?_ | refine r_slR ?_ | refine r_iter ?_ | refine r_asT ?_ | refine r_asPt ?_ | refine r_asRo ?_ | refine r_rng1 ?_ | refine r_gNm ?_ | refine r_gIx ?_ | refine r_comp ?_ | refine r_chain ?_ | refine r_chn1 ?_ | refine r_chn0 ?_ | refine r_isi ?_ | refine r_newL ?_ | refine r_ok ?_) | ((with_reducible (first | refine e_var ?_ | refine e_ixT ?_ | refine e_gTp ?_)); refine ⟨_, rfl, ?_⟩) | ((with_reducible (first | refine r_mkT ?_ ?_ | refine r_mkP ?_ ?_ | refine r_mkL ?_ ?_)); exact Nat.le_of_ble_eq_true rfl) | ((with_reducible (first | refine e_mth ?_ | refine e_lenO ?_ | refine e_asO ?_ | refine e_truO ?_ | refine e_tupleO ?_ | refine e_tupleP ?_ | refine e_slO ?_ | refine e_reverse ?_ | refine e_listO ?_)); refine ⟨_, (by assumption), ?_⟩) | ((with_reducible (first | refine e_ixO ?_ | refine e_set ?_)); refine ⟨_, (by assumption), _, rfl, ?_⟩) | ((with_reducible (first | refine r_mulI ?_ ?_)); first | exact mul_ok (Or.inr (by decide)) | exact mul_ok (Or.inl (by decide))) | ((with_reducible (first | refine r_modI ?_ ?_ | refine r_fdvI ?_ ?_ | refine r_powI ?_ ?_)); decide) | dsimp only [endP])
      refine z_no (by decide) ?_
      repeat (first | with_reducible (first | refine zs_seq ?_ | refine zs_asg ?_ | refine zs_drop ?_ | refine zs_ret ?_ | refine zs_retN ?_ | refine zs_next ?_ | refine zs_brk ?_ | refine zs_cnt ?_ | refine zs_if ?_ | refine zs_for ?_ | refine zs_while ?_ | refine z_true ?_ | refine z_false ?_ | refine r_k ?_ | refine r_op ?_ | refine r_un ?_ | refine r_nil ?_ | refine r_cons ?_ | refine r_tup ?_ | refine r_ptp ?_ | refine r_lst ?_ | refine r_ife ?_ | refine r_if1 ?_ | refine r_if0 ?_ | refine r_and ?_ | refine r_or ?_ | refine r_not ?_ | refine r_bool ?_ | refine r_asB ?_ | refine r_tru ?_ | refine r_truB ?_ | refine r_truI ?_ | refine r_andV ?_ | refine r_orV ?_ | refine r_andV1 ?_ | refine r_andV0 ?_ | refine r_orV1 ?_ | refine r_orV0 ?_ | refine r_notV ?_ | refine r_call ?_ | refine r_meth ?_ | refine r_addI ?_ | refine r_subI ?_ | refine r_negI ?_ | refine r_andI ?_ | refine r_ltI ?_ | refine r_gtI ?_ | refine r_leI ?_ | refine r_geI ?_ | refine r_eqI ?_ | refine r_eqS ?_ | refine r_neI ?_ | refine r_neS ?_ | refine r_is0 ?_ | refine r_is1 ?_ | refine r_is2 ?_ | refine r_is3 ?_ | refine r_isn0 ?_ | refine r_isn1 ?_ | refine r_isn2 ?_ | refine r_isn3 ?_ | refine r_lenT ?_ | refine r_intI ?_ | refine r_absI ?_ | refine r_sl ?_ | refine r_no ?_ | refine r_part ?_ | refine r_asP ?_ | refine r_slT ?_ | refine r_slR ?_ | refine r_iter ?_ | refine r_asT ?_ | refine r_asPt ?_ | refine r_asRo ?_ | refine r_rng1 ?_ | refine r_gNm ?_ | refine r_gIx ?_ | refine r_comp ?_ | refine r_chain ?_ | refine r_chn1 ?_ | refine r_chn0 ?_ | refine r_isi ?_ | refine r_newL ?_ | refine r_ok ?_) | ((with_reducible (first | refine e_var ?_ | refine e_ixT ?_ | refine e_gTp ?_)); refine ⟨_, rfl, ?_⟩) | ((with_reducible (first | refine r_mkT ?_ ?_ | refine r_mkP ?_ ?_ | refine r_mkL ?_ ?_)); exact Nat.le_of_ble_eq_true rfl) | ((with_reducible (first | refine e_mth ?_ | refine e_lenO ?_ | refine e_asO ?_ | refine e_truO ?_ | refine e_tupleO ?_ | refine e_tupleP ?_ | refine e_slO ?_ | refine e_reverse ?_ | refine e_listO ?_)); refine ⟨_, (by assumption), ?_⟩) | ((with_reducible (first | refine e_ixO ?_ | refine e_set ?_)); refine ⟨_, (by assumption), _, rfl, ?_⟩) | ((with_reducible (first | refine r_mulI ?_ ?_)); first | exact mul_ok (Or.inr (by decide)) | exact mul_ok (Or.inl (by decide))) | ((with_reducible (first | refine r_modI ?_ ?_ | refine r_fdvI ?_ ?_ | refine r_powI ?_ ?_)); decide) | dsimp only [endP])
      refine z_dec (fun hc => ?_) (fun hc => ?_)
      · have e : ns[h]? = none := List.getElem?_eq_none (by simp at hc; omega)
        simp only [go, e] at hg
        subst hg
        repeat (first | with_reducible (first | refine zs_seq ?_ | refine zs_asg ?_ | refine zs_drop ?_ | refine zs_ret ?_ | refine zs_retN ?_ | refine zs_next ?_ | refine zs_brk ?_ | refine zs_cnt ?_ | refine zs_if ?_ | refine zs_for ?_ | refine zs_while ?_ | refine z_true ?_ | refine z_false ?_ | refine r_k ?_ | refine r_op ?_ | refine r_un ?_ | refine r_nil ?_ | refine r_cons ?_ | refine r_tup ?_ | refine r_ptp ?_ | refine r_lst ?_ | refine r_ife ?_ | refine r_if1 ?_ | refine r_if0 ?_ | refine r_and ?_ | refine r_or ?_ | refine r_not ?_ | refine r_bool ?_ | refine r_asB ?_ | refine r_tru ?_ | refine r_truB ?_ | refine r_truI ?_ | refine r_andV ?_ | refine r_orV ?_ | refine r_andV1 ?_ | refine r_andV0 ?_ | refine r_orV1 ?_ | refine r_orV0 ?_ | refine r_notV ?_ | refine r_call ?_ | refine r_meth ?_ | refine r_addI ?_ | refine r_subI ?_ | refine r_negI ?_ | refine r_andI ?_ | refine r_ltI ?_ | refine r_gtI ?_ | refine r_leI ?_ | refine r_geI ?_ | refine r_eqI ?_ | refine r_eqS ?_ | refine r_neI ?_ | refine r_neS ?_ | refine r_is0 ?_ | refine r_is1 ?_ | refine r_is2 ?_ | refine r_is3 ?_ | refine r_isn0 ?_ | refine r_isn1 ?_ | refine r_isn2 ?_ | refine r_isn3 ?_ | refine r_lenT ?_ | refine r_intI ?_ | refine r_absI ?_ | refine r_sl ?_ | refine r_no ?_ | refine r_part ?_ | refine r_asP ?_ | refine r_slT ?_ | refine r_slR ?_ | refine r_iter ?_ | refine r_asT ?_ | refine r_asPt ?_ | refine r_asRo ?_ | refine r_rng1 ?_ | refine r_gNm ?_ | refine r_gIx ?_ | refine r_comp ?_ | refine r_chain ?_ | refine r_chn1 ?_ | refine r_chn0 ?_ | refine r_isi ?_ | refine r_newL ?_ | refine r_ok ?_) | ((with_reducible (first | refine e_var ?_ | refine e_ixT ?_ | refine e_gTp ?_)); refine ⟨_, rfl, ?_⟩) | ((with_reducible (first | refine r_mkT ?_ ?_ | refine r_mkP ?_ ?_ | refine r_mkL ?_ ?_)); exact Nat.le_of_ble_eq_true rfl) | ((with_reducible (first | refine e_mth ?_ | refine e_lenO ?_ | refine e_asO ?_ | refine e_truO ?_ | refine e_tupleO ?_ | refine e_tupleP ?_ | refine e_slO ?_ | refine e_reverse ?_ | refine e_listO ?_)); refine ⟨_, (by assumption), ?_⟩) | ((with_reducible (first | refine e_ixO ?_ | refine e_set ?_)); refine ⟨_, (by assumption), _, rfl, ?_⟩) | ((with_reducible (first | refine r_mulI ?_ ?_)); first | exact mul_ok (Or.inr (by decide)) | exact mul_ok (Or.inl (by decide))) | ((with_reducible (first | refine r_modI ?_ ?_ | refine r_fdvI ?_ ?_ | refine r_powI ?_ ?_)); decide) | dsimp only [endP])
        exact ⟨rfl, x⟩
      · have hlt : h < ns.length := by simp at hc; omega
        have e : ns[h]? = some ns[h] := List.getElem?_eq_getElem hlt
        simp only [go, e] at hg
        repeat (first | with_reducible (first | refine zs_seq ?_ | refine zs_asg ?_ | refine zs_drop ?_ | refine zs_ret ?_ | refine zs_retN ?_ | refine zs_next ?_ | refine zs_brk ?_ | refine zs_cnt ?_ | refine zs_if ?_ | refine zs_for ?_ | refine zs_while ?_ | refine z_true ?_ | refine z_false ?_ | refine r_k ?_ | refine r_op ?_ | refine r_un ?_ | refine r_nil ?_ | refine r_cons ?_ | refine r_tup ?_ | refine r_ptp ?_ | refine r_lst ?_ | refine r_ife ?_ | refine r_if1 ?_ | refine r_if0 ?_ | refine r_and ?_ | refine r_or ?_ | refine r_not ?_ | refine r_bool ?_ | refine r_asB ?_ | refine r_tru ?_ | refine r_truB ?_ | refine r_truI ?_ | refine r_andV ?_ | refine r_orV ?_ | refine r_andV1 ?_ | refine r_andV0 ?_ | refine r_orV1 ?_ | refine r_orV0 ?_ | refine r_notV ?_ | refine r_call ?_ | refine r_meth ?_ | refine r_addI ?_ | refine r_subI ?_ | refine r_negI ?_ | refine r_andI ?_ | refine r_ltI ?_ | refine r_gtI ?_ | refine r_leI ?_ | refine r_geI ?_ | refine r_eqI ?_ | refine r_eqS ?_ | refine r_neI ?_ | refine r_neS ?_ | refine r_is0 ?_ | refine r_is1 ?_ | refine r_is2 ?_ | refine r_is3 ?_ | refine r_isn0 ?_ | refine r_isn1 ?_ | refine r_isn2 ?_ | refine r_isn3 ?_ | refine r_lenT ?_ | refine r_intI ?_ | refine r_absI ?_ | refine r_sl ?_ | refine r_no ?_ | refine r_part ?_ | refine r_asP ?_ | refine r_slT ?_ | refine r_slR ?_ | refine r_iter ?_ | refine r_asT ?_ | refine r_asPt ?_ | refine r_asRo ?_ | refine r_rng1 ?_ | refine r_gNm ?_ | refine r_gIx ?_ | refine r_comp ?_ | refine r_chain ?_ | refine r_chn1 ?_ | refine r_chn0 ?_ | refine r_isi ?_ | refine r_newL ?_ | refine r_ok ?_) | ((with_reducible (first | refine e_var ?_ | refine e_ixT ?_ | refine e_gTp ?_)); refine ⟨_, rfl, ?_⟩) | ((with_reducible (first | refine r_mkT ?_ ?_ | refine r_mkP ?_ ?_ | refine r_mkL ?_ ?_)); exact Nat.le_of_ble_eq_true rfl) | ((with_reducible (first | refine e_mth ?_ | refine e_lenO ?_ | refine e_asO ?_ | refine e_truO ?_ | refine e_tupleO ?_ | refine e_tupleP ?_ | refine e_slO ?_ | refine e_reverse ?_ | refine e_listO ?_)); refine ⟨_, (by assumption), ?_⟩) | ((with_reducible (first | refine e_ixO ?_ | refine e_set ?_)); refine ⟨_, (by assumption), _, rfl, ?_⟩) | ((with_reducible (first | refine r_mulI ?_ ?_)); first | exact mul_ok (Or.inr (by decide)) | exact mul_ok (Or.inl (by decide))) | ((with_reducible (first | refine r_modI ?_ ?_ | refine r_fdvI ?_ ?_ | refine r_powI ?_ ?_)); decide) | dsimp only [endP])
        refine z_no (by decide) ?_
        repeat (first | with_reducible (first | refine zs_seq ?_ | refine zs_asg ?_ | refine zs_drop ?_ | refine zs_ret ?_ | refine zs_retN ?_ | refine zs_next ?_ | refine zs_brk ?_ | refine zs_cnt ?_ | refine zs_if ?_ | refine zs_for ?_ | refine zs_while ?_ | refine z_true ?_ | refine z_false ?_ | refine r_k ?_ | refine r_op ?_ | refine r_un ?_ | refine r_nil ?_ | refine r_cons ?_ | refine r_tup ?_ | refine r_ptp ?_ | refine r_lst ?_ | refine r_ife ?_ | refine r_if1 ?_ | refine r_if0 ?_ | refine r_and ?_ | refine r_or ?_ | refine r_not ?_ | refine r_bool ?_ | refine r_asB ?_ | refine r_tru ?_ | refine r_truB ?_ | refine r_truI ?_ | refine r_andV ?_ | refine r_orV ?_ | refine r_andV1 ?_ | refine r_andV0 ?_ | refine r_orV1 ?_ | refine r_orV0 ?_ | refine r_notV ?_ | refine r_call ?_ | refine r_meth ?_ | refine r_addI ?_ | refine r_subI ?_ | refine r_negI ?_ | refine r_andI ?_ | refine r_ltI ?_ | refine r_gtI ?_ | refine r_leI ?_ | refine r_geI ?_ | refine r_eqI ?_ | refine r_eqS ?_ | refine r_neI ?_ | refine r_neS ?_ | refine r_is0 ?_ | refine r_is1 ?_ | refine r_is2 ?_ | refine r_is3 ?_ | refine r_isn0 ?_ | refine r_isn1 ?_ | refine r_isn2 ?_ | refine r_isn3 ?_ | refine r_lenT ?_ | refine r_intI ?_ | refine r_absI ?_ | refine r_sl ?_ | refine r_no ?_ | refine r_part ?_ | refine r_asP ?_ | refine r_slT ?_ | refine r_slR ?_ | refine r_iter ?_ | refine r_asT ?_ | refine r_asPt ?_ | refine r_asRo ?_ | refine r_rng1 ?_ | refine r_gNm ?_ | refine r_gIx ?_ | refine r_comp ?_ | refine r_chain ?_ | refine r_chn1 ?_ | refine r_chn0 ?_ | refine r_isi ?_ | refine r_newL ?_ | refine r_ok ?_) | ((with_reducible (first | refine e_var ?_ | refine e_ixT ?_ | refine e_gTp ?_)); refine ⟨_, rfl, ?_⟩) | ((with_reducible (first | refine r_mkT ?_ ?_ | refine r_mkP ?_ ?_ | refine r_mkL ?_ ?_)); exact Nat.le_of_ble_eq_true rfl) | ((with_reducible (first | refine e_mth ?_ | refine e_lenO ?_ | refine e_asO ?_ | refine e_truO ?_ | refine e_tupleO ?_ | refine e_tupleP ?_ | refine e_slO ?_ | refine e_reverse ?_ | refine e_listO ?_)); refine ⟨_, (by assumption), ?_⟩) | ((with_reducible (first | refine e_ixO ?_ | refine e_set ?_)); refine ⟨_, (by assumption), _, rfl, ?_⟩) | ((with_reducible (first | refine r_mulI ?_ ?_)); first | exact mul_ok (Or.inr (by decide)) | exact mul_ok (Or.inl (by decide))) | ((with_reducible (first | refine r_modI ?_ ?_ | refine r_fdvI ?_ ?_ | refine r_powI ?_ ?_)); decide) | dsimp only [endP])
        refine z_yes (by decide) ?_
        repeat (first | with_reducible (first | refine zs_seq ?_ | refine zs_asg ?_ | refine zs_drop ?_ | refine zs_ret ?_ | refine zs_retN ?_ | refine zs_next ?_ | refine zs_brk ?_ | refine zs_cnt ?_ | refine zs_if ?_ | refine zs_for ?_ | refine zs_while ?_ | refine z_true ?_ | refine z_false ?_ | refine r_k ?_ | refine r_op ?_ | refine r_un ?_ | refine r_nil ?_ | refine r_cons ?_ | refine r_tup ?_ | refine r_ptp ?_ | refine r_lst ?_ | refine r_ife ?_ | refine r_if1 ?_ | refine r_if0 ?_ | refine r_and ?_ | refine r_or ?_ | refine r_not ?_ | refine r_bool ?_ | refine r_asB ?_ | refine r_tru ?_ | refine r_truB ?_ | refine r_truI ?_ | refine r_andV ?_ | refine r_orV ?_ | refine r_andV1 ?_ | refine r_andV0 ?_ | refine r_orV1 ?_ | refine r_orV0 ?_ | refine r_notV ?_ | refine r_call ?_ | refine r_meth ?_ | refine r_addI ?_ | refine r_subI ?_ | refine r_negI ?_ | refine r_andI ?_ | refine r_ltI ?_ | refine r_gtI ?_ | refine r_leI ?_ | refine r_geI ?_ | refine r_eqI ?_ | refine r_eqS ?_ | refine r_neI ?_ | refine r_neS ?_ | refine r_is0 ?_ | refine r_is1 ?_ | refine r_is2 ?_ | refine r_is3 ?_ | refine r_isn0 ?_ | refine r_isn1 ?_ | refine r_isn2 ?_ | refine r_isn3 ?_ | refine r_lenT ?_ | refine r_intI ?_ | refine r_absI ?_ | refine r_sl ?_ | refine r_no ?_ | refine r_part ?_ | refine r_asP ?_ | refine r_slT ?_ | refine r_slR ?_ | refine r_iter ?_ | refine r_asT ?_ | refine r_asPt ?_ | refine r_asRo ?_ | refine r_rng1 ?_ | refine r_gNm ?_ | refine r_gIx ?_ | refine r_comp ?_ | refine r_chain ?_ | refine r_chn1 ?_ | refine r_chn0 ?_ | refine r_isi ?_ | refine r_newL ?_ | refine r_ok ?_) | ((with_reducible (first | refine e_var ?_ | refine e_ixT ?_ | refine e_gTp ?_)); refine ⟨_, rfl, ?_⟩) | ((with_reducible (first | refine r_mkT ?_ ?_ | refine r_mkP ?_ ?_ | refine r_mkL ?_ ?_)); exact Nat.le_of_ble_eq_true rfl) | ((with_reducible (first | refine e_mth ?_ | refine e_lenO ?_ | refine e_asO ?_ | refine e_truO ?_ | refine e_tupleO ?_ | refine e_tupleP ?_ | refine e_slO ?_ | refine e_reverse ?_ | refine e_listO ?_)); refine ⟨_, (by assumption), ?_⟩) | ((with_reducible (first | refine e_ixO ?_ | refine e_set ?_)); refine ⟨_, (by assumption), _, rfl, ?_⟩) | ((with_reducible (first | refine r_mulI ?_ ?_)); first | exact mul_ok (Or.inr (by decide)) | exact mul_ok (Or.inl (by decide))) | ((with_reducible (first | refine r_modI ?_ ?_ | refine r_fdvI ?_ ?_ | refine r_powI ?_ ?_)); decide) | dsimp only [endP])
        refine r_ixT hx ?_
        repeat (first | with_reducible (first | refine zs_seq ?_ | refine zs_asg ?_ | refine zs_drop ?_ | refine zs_ret ?_ | refine zs_retN ?_ | refine zs_next ?_ | refine zs_brk ?_ | refine zs_cnt ?_ | refine zs_if ?_ | refine zs_for ?_ | refine zs_while ?_ | refine z_true ?_ | refine z_false ?_ | refine r_k ?_ | refine r_op ?_ | refine r_un ?_ | refine r_nil ?_ | refine r_cons ?_ | refine r_tup ?_ | refine r_ptp ?_ | refine r_lst ?_ | refine r_ife ?_ | refine r_if1 ?_ | refine r_if0 ?_ | refine r_and ?_ | refine r_or ?_ | refine r_not ?_ | refine r_bool ?_ | refine r_asB ?_ | refine r_tru ?_ | refine r_truB ?_ | refine r_truI ?_ | refine r_andV ?_ | refine r_orV ?_ | refine r_andV1 ?_ | refine r_andV0 ?_ | refine r_orV1 ?_ | refine r_orV0 ?_ | refine r_notV ?_ | refine r_call ?_ | refine r_meth ?_ | refine r_addI ?_ | refine r_subI ?_ | refine r_negI ?_ | refine r_andI ?_ | refine r_ltI ?_ | refine r_gtI ?_ | refine r_leI ?_ | refine r_geI ?_ | refine r_eqI ?_ | refine r_eqS ?_ | refine r_neI ?_ | refine r_neS ?_ | refine r_is0 ?_ | refine r_is1 ?_ | refine r_is2 ?_ | refine r_is3 ?_ | refine r_isn0 ?_ | refine r_isn1 ?_ | refine r_isn2 ?_ | refine r_isn3 ?_ | refine r_lenT ?_ | refine r_intI ?_ | refine r_absI ?_ | refine r_sl ?_ | refine r_no ?_ | refine r_part ?_ | refine r_asP ?_ | refine r_slT ?_ | refine r_slR ?_ | refine r_iter ?_ | refine r_asT ?_ | refine r_asPt ?_ | refine r_asRo ?_ | refine r_rng1 ?_ | refine r_gNm ?_ | refine r_gIx ?_ | refine r_comp ?_ | refine r_chain ?_ | refine r_chn1 ?_ | refine r_chn0 ?_ | refine r_isi ?_ | refine r_newL ?_ | refine r_ok ?_ | refine r_fld ?_ | refine zs_fld ?_ | refine r_tupRev ?_ | refine r_tRev ?_) | ((with_reducible (first | refine e_var ?_ | refine e_ixT ?_ | refine e_gTp ?_)); refine ⟨_, rfl, ?_⟩) | ((with_reducible (first | refine r_mkT ?_ ?_ | refine r_mkP ?_ ?_ | refine r_mkL ?_ ?_)); exact Nat.le_of_ble_eq_true rfl) | ((with_reducible (first | refine e_mth ?_ | refine e_lenO ?_ | refine e_asO ?_ | refine e_truO ?_ | refine e_tupleO ?_ | refine e_tupleP ?_ | refine e_slO ?_ | refine e_reverse ?_ | refine e_listO ?_)); refine ⟨_, (by assumption), ?_⟩) | ((with_reducible (first | refine e_ixO ?_ | refine e_set ?_)); refine ⟨_, (by assumption), _, rfl, ?_⟩) | ((with_reducible (first | refine r_mulI ?_ ?_)); first | exact mul_ok (Or.inr (by decide)) | exact mul_ok (Or.inl (by decide))) | ((with_reducible (first | refine r_modI ?_ ?_ | refine r_fdvI ?_ ?_ | refine r_powI ?_ ?_)); decide) | ((with_reducible (first | refine z_cF ?_ ?_ | refine r_cF ?_ ?_)); decide +kernel) | ((with_reducible (first | refine z_cT ?_ ?_ | refine r_cT ?_ ?_)); decide +kernel) | ((with_reducible refine r_inT ?_ ?_ ?_); exact rfl; decide +kernel) | dsimp only [endP])
        refine r_ixT (ds := [.str "swap", .int b]) (d := .int b) rfl ?_
        repeat (first | with_reducible (first | refine zs_seq ?_ | refine zs_asg ?_ | refine zs_drop ?_ | refine zs_ret ?_ | refine zs_retN ?_ | refine zs_next ?_ | refine zs_brk ?_ | refine zs_cnt ?_ | refine zs_if ?_ | refine zs_for ?_ | refine zs_while ?_ | refine z_true ?_ | refine z_false ?_ | refine r_k ?_ | refine r_op ?_ | refine r_un ?_ | refine r_nil ?_ | refine r_cons ?_ | refine r_tup ?_ | refine r_ptp ?_ | refine r_lst ?_ | refine r_ife ?_ | refine r_if1 ?_ | refine r_if0 ?_ | refine r_and ?_ | refine r_or ?_ | refine r_not ?_ | refine r_bool ?_ | refine r_asB ?_ | refine r_tru ?_ | refine r_truB ?_ | refine r_truI ?_ | refine r_andV ?_ | refine r_orV ?_ | refine r_andV1 ?_ | refine r_andV0 ?_ | refine r_orV1 ?_ | refine r_orV0 ?_ | refine r_notV ?_ | refine r_call ?_ | refine r_meth ?_ | refine r_addI ?_ | refine r_subI ?_ | refine r_negI ?_ | refine r_andI ?_ | refine r_ltI ?_ | refine r_gtI ?_ | refine r_leI ?_ | refine r_geI ?_ | refine r_eqI ?_ | refine r_eqS ?_ | refine r_neI ?_ | refine r_neS ?_ | refine r_is0 ?_ | refine r_is1 ?_ | refine r_is2 ?_ | refine r_is3 ?_ | refine r_isn0 ?_ | refine r_isn1 ?_ | refine r_isn2 ?_ | refine r_isn3 ?_ | refine r_lenT ?_ | refine r_intI ?_ | refine r_absI ?_ | refine r_sl ?_ | refine r_no ?_ | refine r_part ?_ | refine r_asP ?_ | refine r_slT ?_ | refine r_slR ?_ | refine r_iter ?_ | refine r_asT ?_ | refine r_asPt ?_ | refine r_asRo ?_ | refine r_rng1 ?_ | refine r_gNm ?_ | refine r_gIx ?_ | refine r_comp ?_ | refine r_chain ?_ | refine r_chn1 ?_ | refine r_chn0 ?_ | refine r_isi ?_ | refine r_newL ?_ | refine r_ok ?_) | ((with_reducible (first | refine e_var ?_ | refine e_ixT ?_ | refine e_gTp ?_)); refine ⟨_, rfl, ?_⟩) | ((with_reducible (first | refine r_mkT ?_ ?_ | refine r_mkP ?_ ?_ | refine r_mkL ?_ ?_)); exact Nat.le_of_ble_eq_true rfl) | ((with_reducible (first | refine e_mth ?_ | refine e_lenO ?_ | refine e_asO ?_ | refine e_truO ?_ | refine e_tupleO ?_ | refine e_tupleP ?_ | refine e_slO ?_ | refine e_reverse ?_ | refine e_listO ?_)); refine ⟨_, (by assumption), ?_⟩) | ((with_reducible (first | refine e_ixO ?_ | refine e_set ?_)); refine ⟨_, (by assumption), _, rfl, ?_⟩) | ((with_reducible (first | refine r_mulI ?_ ?_)); first | exact mul_ok (Or.inr (by decide)) | exact mul_ok (Or.inl (by decide))) | ((with_reducible (first | refine r_modI ?_ ?_ | refine r_fdvI ?_ ?_ | refine r_powI ?_ ?_)); decide) | dsimp only [endP])
        refine r_append hm (lt_line (by simp; omega)) ?_
        repeat (first | with_reducible (first | refine zs_seq ?_ | refine zs_asg ?_ | refine zs_drop ?_ | refine zs_ret ?_ | refine zs_retN ?_ | refine zs_next ?_ | refine zs_brk ?_ | refine zs_cnt ?_ | refine zs_if ?_ | refine zs_for ?_ | refine zs_while ?_ | refine z_true ?_ | refine z_false ?_ | refine r_k ?_ | refine r_op ?_ | refine r_un ?_ | refine r_nil ?_ | refine r_cons ?_ | refine r_tup ?_ | refine r_ptp ?_ | refine r_lst ?_ | refine r_ife ?_ | refine r_if1 ?_ | refine r_if0 ?_ | refine r_and ?_ | refine r_or ?_ | refine r_not ?_ | refine r_bool ?_ | refine r_asB ?_ | refine r_tru ?_ | refine r_truB ?_ | refine r_truI ?_ | refine r_andV ?_ | refine r_orV ?_ | refine r_andV1 ?_ | refine r_andV0 ?_ | refine r_orV1 ?_ | refine r_orV0 ?_ | refine r_notV ?_ | refine r_call ?_ | refine r_meth ?_ | refine r_addI ?_ | refine r_subI ?_ | refine r_negI ?_ | refine r_andI ?_ | refine r_ltI ?_ | refine r_gtI ?_ | refine r_leI ?_ | refine r_geI ?_ | refine r_eqI ?_ | refine r_eqS ?_ | refine r_neI ?_ | refine r_neS ?_ | refine r_is0 ?_ | refine r_is1 ?_ | refine r_is2 ?_ | refine r_is3 ?_ | refine r_isn0 ?_ | refine r_isn1 ?_ | refine r_isn2 ?_ | refine r_isn3 ?_ | refine r_lenT ?_ | refine r_intI ?_ | refine r_absI ?_ | refine r_sl ?_ | refine r_no ?_ | refine r_part ?_ | refine r_asP ?_ | refine r_slT ?_ | refine r_slR ?_ | refine r_iter ?_ | refine r_asT ?_ | refine r_asPt ?_ | refine r_asRo ?_ | refine r_rng1 ?_ | refine r_gNm ?_ | refine r_gIx ?_ | refine r_comp ?_ | refine r_chain ?_ | refine r_chn1 ?_ | refine r_chn0 ?_ | refine r_isi ?_ | refine r_newL ?_ | refine r_ok ?_) | ((with_reducible (first | refine e_var ?_ | refine e_ixT ?_ | refine e_gTp ?_)); refine ⟨_, rfl, ?_⟩) | ((with_reducible (first | refine r_mkT ?_ ?_ | refine r_mkP ?_ ?_ | refine r_mkL ?_ ?_)); exact Nat.le_of_ble_eq_true rfl) | ((with_reducible (first | refine e_mth ?_ | refine e_lenO ?_ | refine e_asO ?_ | refine e_truO ?_ | refine e_tupleO ?_ | refine e_tupleP ?_ | refine e_slO ?_ | refine e_reverse ?_ | refine e_listO ?_)); refine ⟨_, (by assumption), ?_⟩) | ((with_reducible (first | refine e_ixO ?_ | refine e_set ?_)); refine ⟨_, (by assumption), _, rfl, ?_⟩) | ((with_reducible (first | refine r_mulI ?_ ?_)); first | exact mul_ok (Or.inr (by decide)) | exact mul_ok (Or.inl (by decide))) | ((with_reducible (first | refine r_modI ?_ ?_ | refine r_fdvI ?_ ?_ | refine r_powI ?_ ?_)); decide) | dsimp only [endP])
        exact ⟨_, _, h + 1, ms ++ [b], rfl, by rw [set_at hm]; simp, by simp; omega, hlt, hg, x.setNew (Nat.le_refl _)⟩
  · rintro _ s ⟨y, z, h, ms, rfl, hm, hl, hh, hg, x⟩
    refine ⟨by rw [List.length_map]; simpa using itR_end, ?_⟩
    rw [List.drop_length] at hg
    rw [show go ns [] ss.length h ms = if h < ns.length then .bad ss.length else .made ms from rfl] at hg
    repeat (first | with_reducible (first | refine zs_seq ?_ | refine zs_asg ?_ | refine zs_drop ?_ | refine zs_ret ?_ | refine zs_retN ?_ | refine zs_next ?_ | refine zs_brk ?_ | refine zs_cnt ?_ | refine zs_if ?_ | refine zs_for ?_ | refine zs_while ?_ | refine z_true ?_ | refine z_false ?_ | refine r_k ?_ | refine r_op ?_ | refine r_un ?_ | refine r_nil ?_ | refine r_cons ?_ | refine r_tup ?_ | refine r_ptp ?_ | refine r_lst ?_ | refine r_ife ?_ | refine r_if1 ?_ | refine r_if0 ?_ | refine r_and ?_ | refine r_or ?_ | refine r_not ?_ | refine r_bool ?_ | refine r_asB ?_ | refine r_tru ?_ | refine r_truB ?_ | refine r_truI ?_ | refine r_andV ?_ | refine r_orV ?_ | refine r_andV1 ?_ | refine r_andV0 ?_ | refine r_orV1 ?_ | refine r_orV0 ?_ | refine r_notV ?_ | refine r_call ?_ | refine r_meth ?_ | refine r_addI ?_ | refine r_subI ?_ | refine r_negI ?_ | refine r_andI ?_ | refine r_ltI ?_ | refine r_gtI ?_ | refine r_leI ?_ | refine r_geI ?_ | refine r_eqI ?_ | refine r_eqS ?_ | refine r_neI ?_ | refine r_neS ?_ | refine r_is0 ?_ | refine r_is1 ?_ | refine r_is2 ?_ | refine r_is3 ?_ | refine r_isn0 ?_ | refine r_isn1 ?_ | refine r_isn2 ?_ | refine r_isn3 ?_ | refine r_lenT ?_ | refine r_intI ?_ | refine r_absI ?_ | refine r_sl ?_ | refine r_no ?_ | refine r_part ?_ | refine r_asP ?_ | refine r_slT ?_ | refine r_slR ?_ | refine r_iter ?_ | refine r_asT ?_ | refine r_asPt ?_ | refine r_asRo ?_ | refine r_rng1 ?_ | refine r_gNm ?_ | refine r_gIx ?_ | refine r_comp ?_ | refine r_chain ?_ | refine r_chn1 ?_ | refine r_chn0 ?_ | refine r_isi ?_ | refine r_newL ?_ | refine r_ok ?_) | ((with_reducible (first | refine e_var ?_ | refine e_ixT ?_ | refine e_gTp ?_)); refine ⟨_, rfl, ?_⟩) | ((with_reducible (first | refine r_mkT ?_ ?_ | refine r_mkP ?_ ?_ | refine r_mkL ?_ ?_)); exact Nat.le_of_ble_eq_true rfl) | ((with_reducible (first | refine e_mth ?_ | refine e_lenO ?_ | refine e_asO ?_ | refine e_truO ?_ | refine e_tupleO ?_ | refine e_tupleP ?_ | refine e_slO ?_ | refine e_reverse ?_ | refine e_listO ?_)); refine ⟨_, (by assumption), ?_⟩) | ((with_reducible (first | refine e_ixO ?_ | refine e_set ?_)); refine ⟨_, (by assumption), _, rfl, ?_⟩) | ((with_reducible (first | refine r_mulI ?_ ?_)); first | exact mul_ok (Or.inr (by decide)) | exact mul_ok (Or.inl (by decide))) | ((with_reducible (first | refine r_modI ?_ ?_ | refine r_fdvI ?_ ?_ | refine r_powI ?_ ?_)); decide) | dsimp only [endP])
    refine z_dec (fun hc => ?_) (fun hc => ?_)
    · repeat (first | with_reducible (first | refine zs_seq ?_ | refine zs_asg ?_ | refine zs_drop ?_ | refine zs_ret ?_ | refine zs_retN ?_ | refine zs_next ?_ | refine zs_brk ?_ | refine zs_cnt ?_ | refine zs_if ?_ | refine zs_for ?_ | refine zs_while ?_ | refine z_true ?_ | refine z_false ?_ | refine r_k ?_ | refine r_op ?_ | refine r_un ?_ | refine r_nil ?_ | refine r_cons ?_ | refine r_tup ?_ | refine r_ptp ?_ | refine r_lst ?_ | refine r_ife ?_ | refine r_if1 ?_ | refine r_if0 ?_ | refine r_and ?_ | refine r_or ?_ | refine r_not ?_ | refine r_bool ?_ | refine r_asB ?_ | refine r_tru ?_ | refine r_truB ?_ | refine r_truI ?_ | refine r_andV ?_ | refine r_orV ?_ | refine r_andV1 ?_ | refine r_andV0 ?_ | refine r_orV1 ?_ | refine r_orV0 ?_ | refine r_notV ?_ | refine r_call ?_ | refine r_meth ?_ | refine r_addI ?_ | refine r_subI ?_ | refine r_negI ?_ | refine r_andI ?_ | refine r_ltI ?_ | refine r_gtI ?_ | refine r_leI ?_ | refine r_geI ?_ | refine r_eqI ?_ | refine r_eqS ?_ | refine r_neI ?_ | refine r_neS ?_ | refine r_is0 ?_ | refine r_is1 ?_ | refine r_is2 ?_ | refine r_is3 ?_ | refine r_isn0 ?_ | refine r_isn1 ?_ | refine r_isn2 ?_ | refine r_isn3 ?_ | refine r_lenT ?_ | refine r_intI ?_ | refine r_absI ?_ | refine r_sl ?_ | refine r_no ?_ | refine r_part ?_ | refine r_asP ?_ | refine r_slT ?_ | refine r_slR ?_ | refine r_iter ?_ | refine r_asT ?_ | refine r_asPt ?_ | refine r_asRo ?_ | refine r_rng1 ?_ | refine r_gNm ?_ | refine r_gIx ?_ | refine r_comp ?_ | refine r_chain ?_ | refine r_chn1 ?_ | refine r_chn0 ?_ | refine r_isi ?_ | refine r_newL ?_ | refine r_ok ?_) | ((with_reducible (first | refine e_var ?_ | refine e_ixT ?_ | refine e_gTp ?_)); refine ⟨_, rfl, ?_⟩) | ((with_reducible (first | refine r_mkT ?_ ?_ | refine r_mkP ?_ ?_ | refine r_mkL ?_ ?_)); exact Nat.le_of_ble_eq_true rfl) | ((with_reducible (first | refine e_mth ?_ | refine e_lenO ?_ | refine e_asO ?_ | refine e_truO ?_ | refine e_tupleO ?_ | refine e_tupleP ?_ | refine e_slO ?_ | refine e_reverse ?_ | refine e_listO ?_)); refine ⟨_, (by assumption), ?_⟩) | ((with_reducible (first | refine e_ixO ?_ | refine e_set ?_)); refine ⟨_, (by assumption), _, rfl, ?_⟩) | ((with_reducible (first | refine r_mulI ?_ ?_)); first | exact mul_ok (Or.inr (by decide)) | exact mul_ok (Or.inl (by decide))) | ((with_reducible (first | refine r_modI ?_ ?_ | refine r_fdvI ?_ ?_ | refine r_powI ?_ ?_)); decide) | dsimp only [endP])
      rw [if_pos (by simpa using hc)] at hg
      subst hg
      refine ⟨?_, x⟩
      simp [Out.due]
    · repeat (first | with_reducible (first | refine zs_seq ?_ | refine zs_asg ?_ | refine zs_drop ?_ | refine zs_ret ?_ | refine zs_retN ?_ | refine zs_next ?_ | refine zs_brk ?_ | refine zs_cnt ?_ | refine zs_if ?_ | refine zs_for ?_ | refine zs_while ?_ | refine z_true ?_ | refine z_false ?_ | refine r_k ?_ | refine r_op ?_ | refine r_un ?_ | refine r_nil ?_ | refine r_cons ?_ | refine r_tup ?_ | refine r_ptp ?_ | refine r_lst ?_ | refine r_ife ?_ | refine r_if1 ?_ | refine r_if0 ?_ | refine r_and ?_ | refine r_or ?_ | refine r_not ?_ | refine r_bool ?_ | refine r_asB ?_ | refine r_tru ?_ | refine r_truB ?_ | refine r_truI ?_ | refine r_andV ?_ | refine r_orV ?_ | refine r_andV1 ?_ | refine r_andV0 ?_ | refine r_orV1 ?_ | refine r_orV0 ?_ | refine r_notV ?_ | refine r_call ?_ | refine r_meth ?_ | refine r_addI ?_ | refine r_subI ?_ | refine r_negI ?_ | refine r_andI ?_ | refine r_ltI ?_ | refine r_gtI ?_ | refine r_leI ?_ | refine r_geI ?_ | refine r_eqI ?_ | refine r_eqS ?_ | refine r_neI ?_ | refine r_neS ?_ | refine r_is0 ?_ | refine r_is1 ?_ | refine r_is2 ?_ | refine r_is3 ?_ | refine r_isn0 ?_ | refine r_isn1 ?_ | refine r_isn2 ?_ | refine r_isn3 ?_ | refine r_lenT ?_ | refine r_intI ?_ | refine r_absI ?_ | refine r_sl ?_ | refine r_no ?_ | refine r_part ?_ | refine r_asP ?_ | refine r_slT ?_ | refine r_slR ?_ | refine r_iter ?_ | refine r_asT ?_ | refine r_asPt ?_ | refine r_asRo ?_ | refine r_rng1 ?_ | refine r_gNm ?_ | refine r_gIx ?_ | refine r_comp ?_ | refine r_chain ?_ | refine r_chn1 ?_ | refine r_chn0 ?_ | refine r_isi ?_ | refine r_newL ?_ | refine r_ok ?_) | ((with_reducible (first | refine e_var ?_ | refine e_ixT ?_ | refine e_gTp ?_)); refine ⟨_, rfl, ?_⟩) | ((with_reducible (first | refine r_mkT ?_ ?_ | refine r_mkP ?_ ?_ | refine r_mkL ?_ ?_)); exact Nat.le_of_ble_eq_true rfl) | ((with_reducible (first | refine e_mth ?_ | refine e_lenO ?_ | refine e_asO ?_ | refine e_truO ?_ | refine e_tupleO ?_ | refine e_tupleP ?_ | refine e_slO ?_ | refine e_reverse ?_ | refine e_listO ?_)); refine ⟨_, (by assumption), ?_⟩) | ((with_reducible (first | refine e_ixO ?_ | refine e_set ?_)); refine ⟨_, (by assumption), _, rfl, ?_⟩) | ((with_reducible (first | refine r_mulI ?_ ?_)); first | exact mul_ok (Or.inr (by decide)) | exact mul_ok (Or.inl (by decide))) | ((with_reducible (first | refine r_modI ?_ ?_ | refine r_fdvI ?_ ?_ | refine r_powI ?_ ?_)); decide) | dsimp only [endP])
      rw [if_neg (by simpa using hc)] at hg
      subst hg
      exact ⟨rfl, x⟩
end Kw

namespace Kw
open Kc PySem
theorem r_enum {f : FE} {env : Kc.Env} {st : Sto} {Q : Itn → Sto → Prop} {X : Ex → Sto → Prop} (k : RW (f env st) (fun x s => ∃ ds, x = .tup ds ∧ Q (itE (itT ds)) s) X) : RW (bEnum f env st) Q X := by
  unfold bEnum
  rw [rw_bind]
  refine k.mono (fun x s h => ?_) fun _ _ z => z
  obtain ⟨ds, rfl, h⟩ := h
  exact ⟨h⟩
theorem zs_raise {c n : Nat} {fl : List (Str × Nat)} {fa : FA} {env : Kc.Env} {st : Sto} {P : Po} (k : RW (fa env st) (fun ds s => ds.length = n ∧ n ≤ 1000 ∧ P.xc ⟨c, xkL fl ds⟩ env s) fun x s => P.xc x env s) : ZW (sRaise c n fl fa env st) P := by
  unfold sRaise
  rw [rw_z]
  refine k.mono (fun ds s h => ?_) fun _ _ z => z
  obtain ⟨h1, h2, h3⟩ := h
  rw [if_pos ⟨h1, h2⟩]
  exact ⟨h3⟩
theorem itE_map {α : Type} {f : α → D} {xs : List α} {st : Sto} {i : Nat} (h : i < xs.length) : (itE (itT (xs.map f))).get st i = some (some (.tup [.int i, f xs[i]])) := by
  show ((itT (xs.map f)).get st i).map _ = _
  rw [itT_map h]
  rfl
theorem itE_fin {α : Type} {f : α → D} {xs : List α} {st : Sto} : (itE (itT (xs.map f))).get st xs.length = some none := by
  show ((itT (xs.map f)).get st xs.length).map _ = _
  rw [itT_fin]
  rfl
theorem r_nyes {α : Type} {a b : R α} {Q : α → Sto → Prop} {X : Ex → Sto → Prop} {c : Prop} [Decidable c] (h : ¬ c) (k : RW a Q X) : RW (if (!decide c) = true then a else b) Q X := by rw [decide_eq_false h]; exact k
theorem r_nno {α : Type} {a b : R α} {Q : α → Sto → Prop} {X : Ex → Sto → Prop} {c : Prop} [Decidable c] (h : c) (k : RW b Q X) : RW (if (!decide c) = true then a else b) Q X := by rw [decide_eq_true h]; exact k
theorem z_nyes {a b : Z} {P : Po} {c : Prop} [Decidable c] (h : ¬ c) (k : ZW a P) : ZW (if (!decide c) = true then a else b) P := by rw [decide_eq_false h]; exact k
theorem z_nno {a b : Z} {P : Po} {c : Prop} [Decidable c] (h : c) (k : ZW b P) : ZW (if (!decide c) = true then a else b) P := by rw [decide_eq_true h]; exact k
def bs (k : Nat) : Ex := ⟨3, [("index", .int k)]⟩
theorem apply_ok {ns : List Int} {ss : List Sp} {st : Sto} (hn : ns.length ≤ 400) (hs : ss.length ≤ 900) {o : Out} (ho : go ns ss 0 0 [] = o) : RW (F_apply_steps [.tup (ns.map D.int), .tup (ss.map Sp.d)] st) (fun d st' => ∃ ms, o = .made ms ∧ d = .tup (ms.map D.int)) (fun x st' => ∃ k, o = .bad k ∧ x = bs k) := by
  refine rw_run rfl ?_
  unfold B_apply_steps
  simp only [List.map_cons, List.map_nil, List.cons_append, List.nil_append, List.replicate_succ, List.replicate_zero, Nat.reduceSub]
  repeat (first | with_reducible (first | refine zs_seq ?_ | refine zs_asg ?_ | refine zs_drop ?_ | refine zs_ret ?_ | refine zs_retN ?_ | refine zs_next ?_ | refine zs_brk ?_ | refine zs_cnt ?_ | refine zs_if ?_ | refine zs_for ?_ | refine zs_while ?_ | refine z_true ?_ | refine z_false ?_ | refine r_k ?_ | refine r_op ?_ | refine r_un ?_ | refine r_nil ?_ | refine r_cons ?_ | refine r_tup ?_ | refine r_ptp ?_ | refine r_lst ?_ | refine r_ife ?_ | refine r_if1 ?_ | refine r_if0 ?_ | refine r_and ?_ | refine r_or ?_ | refine r_not ?_ | refine r_bool ?_ | refine r_asB ?_ | refine r_tru ?_ | refine r_truB ?_ | refine r_truI ?_ | refine r_andV ?_ | refine r_orV ?_ | refine r_andV1 ?_ | refine r_andV0 ?_ | refine r_orV1 ?_ | refine r_orV0 ?_ | refine r_notV ?_ | refine r_call ?_ | refine r_meth ?_ | refine r_addI ?_ | refine r_subI ?_ | refine r_negI ?_ | refine r_andI ?_ | refine r_ltI ?_ | refine r_gtI ?_ | refine r_leI ?_ | refine r_geI ?_ | refine r_eqI ?_ | refine r_eqS ?_ | refine r_neI ?_ | refine r_neS ?_ | refine r_is0 ?_ | refine r_is1 ?_ | refine r_is2 ?_ | refine r_is3 ?_ | refine r_isn0 ?_ | refine r_isn1 ?_ | refine r_isn2 ?_ | refine r_isn3 ?_ | refine r_lenT ?_ | refine r_intI ?_ | refine r_absI ?_ | refine r_sl ?_ | refine r_no ?_ | refine r_part ?_ | refine r_asP ?_ | refine r_slT ?_ | refine r_slR ?_ | refine r_iter ?_ | refine r_asT ?_ | refine r_asPt ?_ | refine r_asRo ?_ | refine r_rng1 ?_ | refine r_gNm ?_ | refine r_gIx ?_ | refine r_comp ?_ | refine r_chain ?_ | refine r_chn1 ?_ | refine r_chn0 ?_ | refine r_isi ?_ | refine r_newL ?_ | refine r_ok ?_) | ((with_reducible (first | refine e_var ?_ | refine e_ixT ?_ | refine e_gTp ?_)); refine ⟨_, rfl, ?_⟩) | ((with_reducible (first | refine r_mkT ?_ ?_ | refine r_mkP ?_ ?_ | refine r_mkL ?_ ?_)); exact Nat.le_of_ble_eq_true rfl) | ((with_reducible (first | refine e_mth ?_ | refine e_lenO ?_ | refine e_asO ?_ | refine e_truO ?_ | refine e_tupleO ?_ | refine e_tupleP ?_ | refine e_slO ?_ | refine e_reverse ?_ | refine e_listO ?_)); refine ⟨_, (by assumption), ?_⟩) | ((with_reducible (first | refine e_ixO ?_ | refine e_set ?_)); refine ⟨_, (by assumption), _, rfl, ?_⟩) | ((with_reducible (first | refine r_mulI ?_ ?_)); first | exact mul_ok (Or.inr (by decide)) | exact mul_ok (Or.inl (by decide))) | ((with_reducible (first | refine r_modI ?_ ?_ | refine r_fdvI ?_ ?_ | refine r_powI ?_ ?_)); decide) | dsimp only [endP])
  refine r_enum ?_
  repeat (first | with_reducible (first | refine zs_seq ?_ | refine zs_asg ?_ | refine zs_drop ?_ | refine zs_ret ?_ | refine zs_retN ?_ | refine zs_next ?_ | refine zs_brk ?_ | refine zs_cnt ?_ | refine zs_if ?_ | refine zs_for ?_ | refine zs_while ?_ | refine z_true ?_ | refine z_false ?_ | refine r_k ?_ | refine r_op ?_ | refine r_un ?_ | refine r_nil ?_ | refine r_cons ?_ | refine r_tup ?_ | refine r_ptp ?_ | refine r_lst ?_ | refine r_ife ?_ | refine r_if1 ?_ | refine r_if0 ?_ | refine r_and ?_ | refine r_or ?_ | refine r_not ?_ | refine r_bool ?_ | refine r_asB ?_ | refine r_tru ?_ | refine r_truB ?_ | refine r_truI ?_ | refine r_andV ?_ | refine r_orV ?_ | refine r_andV1 ?_ | refine r_andV0 ?_ | refine r_orV1 ?_ | refine r_orV0 ?_ | refine r_notV ?_ | refine r_call ?_ | refine r_meth ?_ | refine r_addI ?_ | refine r_subI ?_ | refine r_negI ?_ | refine r_andI ?_ | refine r_ltI ?_ | refine r_gtI ?_ | refine r_leI ?_ | refine r_geI ?_ | refine r_eqI ?_ | refine r_eqS ?_ | refine r_neI ?_ | refine r_neS ?_ | refine r_is0 ?_ | refine r_is1 ?_ | refine r_is2 ?_ | refine r_is3 ?_ | refine r_isn0 ?_ | refine r_isn1 ?_ | refine r_isn2 ?_ | refine r_isn3 ?_ | refine r_lenT ?_ | refine r_intI ?_ | refine r_absI ?_ | refine r_sl ?_ | refine r_no ?_ | refine r_part ?_ | refine r_asP ?_ | refine r_slT ?_ | refine r_slR ?_ | refine r_iter ?_ | refine r_asT ?_ | refine r_asPt ?_ | refine r_asRo ?_ | refine r_rng1 ?_ | refine r_gNm ?_ | refine r_gIx ?_ | refine r_comp ?_ | refine r_chain ?_ | refine r_chn1 ?_ | refine r_chn0 ?_ | refine r_isi ?_ | refine r_newL ?_ | refine r_ok ?_) | ((with_reducible (first | refine e_var ?_ | refine e_ixT ?_ | refine e_gTp ?_)); refine ⟨_, rfl, ?_⟩) | ((with_reducible (first | refine r_mkT ?_ ?_ | refine r_mkP ?_ ?_ | refine r_mkL ?_ ?_)); exact Nat.le_of_ble_eq_true rfl) | ((with_reducible (first | refine e_mth ?_ | refine e_lenO ?_ | refine e_asO ?_ | refine e_truO ?_ | refine e_tupleO ?_ | refine e_tupleP ?_ | refine e_slO ?_ | refine e_reverse ?_ | refine e_listO ?_)); refine ⟨_, (by assumption), ?_⟩) | ((with_reducible (first | refine e_ixO ?_ | refine e_set ?_)); refine ⟨_, (by assumption), _, rfl, ?_⟩) | ((with_reducible (first | refine r_mulI ?_ ?_)); first | exact mul_ok (Or.inr (by decide)) | exact mul_ok (Or.inl (by decide))) | ((with_reducible (first | refine r_modI ?_ ?_ | refine r_fdvI ?_ ?_ | refine r_powI ?_ ?_)); decide) | dsimp only [endP])
  refine ⟨_, rfl, ?_⟩
  refine zw_for ss.length (fun i e s => ∃ (y z : Option D) (h : Nat) (ms : List Int), e = [some (.tup (ns.map D.int)), some (.tup (ss.map Sp.d)), some (.obj st.length), some (.int h), y, z] ∧ s[st.length]? = some (.lst (ms.map D.int)) ∧ ms.length ≤ i ∧ h ≤ ns.length ∧ go ns (ss.drop i) i h ms = o) (lt_fuel (by omega)) ?_ ?_ ?_
  · exact ⟨_, _, 0, [], rfl, push_at, by simp, by simp, ho⟩
  · rintro i _ s hi ⟨y, z, h, ms, rfl, hm, hl, hh, hg⟩
    refine ⟨_, itE_map hi, ?_⟩
    rw [List.drop_eq_getElem_cons hi] at hg
    generalize ss[i] = t at hg ⊢
    cases t with
    | put b =>
      rw [show (Sp.put b).d = D.tup [.str "put", .int b] from rfl]
      repeat (first | with_reducible (first | refine zs_seq ?_ | refine zs_asg ?_ | refine zs_drop ?_ | refine zs_ret ?_ | refine zs_retN ?_ | refine zs_next ?_ | refine zs_brk ?_ | refine zs_cnt ?_ | refine zs_if ?_ | refine zs_for ?_ | refine zs_while ?_ | refine z_true ?_ | refine z_false ?_ | refine r_k ?_ | refine r_op ?_ | refine r_un ?_ | refine r_nil ?_ | refine r_cons ?_ | refine r_tup ?_ | refine r_ptp ?_ | refine r_lst ?_ | refine r_ife ?_ | refine r_if1 ?_ | refine r_if0 ?_ | refine r_and ?_ | refine r_or ?_ | refine r_not ?_ | refine r_bool ?_ | refine r_asB ?_ | refine r_tru ?_ | refine r_truB ?_ | refine r_truI ?_ | refine r_andV ?_ | refine r_orV ?_ | refine r_andV1 ?_ | refine r_andV0 ?_ | refine r_orV1 ?_ | refine r_orV0 ?_ | refine r_notV ?_ | refine r_call ?_ | refine r_meth ?_ | refine r_addI ?_ | refine r_subI ?_ | refine r_negI ?_ | refine r_andI ?_ | refine r_ltI ?_ | refine r_gtI ?_ | refine r_leI ?_ | refine r_geI ?_ | refine r_eqI ?_ | refine r_eqS ?_ | refine r_neI ?_ | refine r_neS ?_ | refine r_is0 ?_ | refine r_is1 ?_ | refine r_is2 ?_ | refine r_is3 ?_ | refine r_isn0 ?_ | refine r_isn1 ?_ | refine r_isn2 ?_ | refine r_isn3 ?_ | refine r_lenT ?_ | refine r_intI ?_ | refine r_absI ?_ | refine r_sl ?_ | refine r_no ?_ | refine r_part ?_ | refine r_asP ?_ | refine r_slT ?_ | refine r_slR ?_ | refine r_iter ?_ | refine r_asT ?_ | refine r_asPt ?_ | refine r_asRo ?_ | refine r_rng1 ?_ | refine r_gNm ?_ | refine r_gIx ?_ | refine r_comp ?_ | refine r_chain ?_ | refine r_chn1 ?_ | refine r_chn0 ?_ | refine r_isi ?_ | refine r_newL ?_ | refine r_ok ?_) | ((with_reducible (first | refine e_var ?_ | refine e_ixT ?_ | refine e_gTp ?_)); refine ⟨_, rfl, ?_⟩) | ((with_reducible (first | refine r_mkT ?_ ?_ | refine r_mkP ?_ ?_ | refine r_mkL ?_ ?_)); exact Nat.le_of_ble_eq_true rfl) | ((with_reducible (first | refine e_mth ?_ | refine e_lenO ?_ | refine e_asO ?_ | refine e_truO ?_ | refine e_tupleO ?_ | refine e_tupleP ?_ | refine e_slO ?_ | refine e_reverse ?_ | refine e_listO ?_)); refine ⟨_, (by assumption), ?_⟩) | ((with_reducible (first | refine e_ixO ?_ | refine e_set ?_)); refine ⟨_, (by assumption), _, rfl, ?_⟩) | ((with_reducible (first | refine r_mulI ?_ ?_)); first | exact mul_ok (Or.inr (by decide)) | exact mul_ok (Or.inl (by decide))) | ((with_reducible (first | refine r_modI ?_ ?_ | refine r_fdvI ?_ ?_ | refine r_powI ?_ ?_)); decide) | dsimp only [endP])
      refine r_nno (by decide) ?_
      repeat (first | with_reducible (first | refine zs_seq ?_ | refine zs_asg ?_ | refine zs_drop ?_ | refine zs_ret ?_ | refine zs_retN ?_ | refine zs_next ?_ | refine zs_brk ?_ | refine zs_cnt ?_ | refine zs_if ?_ | refine zs_for ?_ | refine zs_while ?_ | refine z_true ?_ | refine z_false ?_ | refine r_k ?_ | refine r_op ?_ | refine r_un ?_ | refine r_nil ?_ | refine r_cons ?_ | refine r_tup ?_ | refine r_ptp ?_ | refine r_lst ?_ | refine r_ife ?_ | refine r_if1 ?_ | refine r_if0 ?_ | refine r_and ?_ | refine r_or ?_ | refine r_not ?_ | refine r_bool ?_ | refine r_asB ?_ | refine r_tru ?_ | refine r_truB ?_ | refine r_truI ?_ | refine r_andV ?_ | refine r_orV ?_ | refine r_andV1 ?_ | refine r_andV0 ?_ | refine r_orV1 ?_ | refine r_orV0 ?_ | refine r_notV ?_ | refine r_call ?_ | refine r_meth ?_ | refine r_addI ?_ | refine r_subI ?_ | refine r_negI ?_ | refine r_andI ?_ | refine r_ltI ?_ | refine r_gtI ?_ | refine r_leI ?_ | refine r_geI ?_ | refine r_eqI ?_ | refine r_eqS ?_ | refine r_neI ?_ | refine r_neS ?_ | refine r_is0 ?_ | refine r_is1 ?_ | refine r_is2 ?_ | refine r_is3 ?_ | refine r_isn0 ?_ | refine r_isn1 ?_ | refine r_isn2 ?_ | refine r_isn3 ?_ | refine r_lenT ?_ | refine r_intI ?_ | refine r_absI ?_ | refine r_sl ?_ | refine r_no ?_ | refine r_part ?_ | refine r_asP ?_ | refine r_slT ?_ | refine r_slR ?_ | refine r_iter ?_ | refine r_asT ?_ | refine r_asPt ?_ | refine r_asRo ?_ | refine r_rng1 ?_ | refine r_gNm ?_ | refine r_gIx ?_ | refine r_comp ?_ | refine r_chain ?_ | refine r_chn1 ?_ | refine r_chn0 ?_ | refine r_isi ?_ | refine r_newL ?_ | refine r_ok ?_) | ((with_reducible (first | refine e_var ?_ | refine e_ixT ?_ | refine e_gTp ?_)); refine ⟨_, rfl, ?_⟩) | ((with_reducible (first | refine r_mkT ?_ ?_ | refine r_mkP ?_ ?_ | refine r_mkL ?_ ?_)); exact Nat.le_of_ble_eq_true rfl) | ((with_reducible (first | refine e_mth ?_ | refine e_lenO ?_ | refine e_asO ?_ | refine e_truO ?_ | refine e_tupleO ?_ | refine e_tupleP ?_ | refine e_slO ?_ | refine e_reverse ?_ | refine e_listO ?_)); refine ⟨_, (by assumption), ?_⟩) | ((with_reducible (first | refine e_ixO ?_ | refine e_set ?_)); refine ⟨_, (by assumption), _, rfl, ?_⟩) | ((with_reducible (first | refine r_mulI ?_ ?_)); first | exact mul_ok (Or.inr (by decide)) | exact mul_ok (Or.inl (by decide))) | ((with_reducible (first | refine r_modI ?_ ?_ | refine r_fdvI ?_ ?_ | refine r_powI ?_ ?_)); decide) | dsimp only [endP])
      refine z_no (by decide) ?_
      repeat (first | with_reducible (first | refine zs_seq ?_ | refine zs_asg ?_ | refine zs_drop ?_ | refine zs_ret ?_ | refine zs_retN ?_ | refine zs_next ?_ | refine zs_brk ?_ | refine zs_cnt ?_ | refine zs_if ?_ | refine zs_for ?_ | refine zs_while ?_ | refine z_true ?_ | refine z_false ?_ | refine r_k ?_ | refine r_op ?_ | refine r_un ?_ | refine r_nil ?_ | refine r_cons ?_ | refine r_tup ?_ | refine r_ptp ?_ | refine r_lst ?_ | refine r_ife ?_ | refine r_if1 ?_ | refine r_if0 ?_ | refine r_and ?_ | refine r_or ?_ | refine r_not ?_ | refine r_bool ?_ | refine r_asB ?_ | refine r_tru ?_ | refine r_truB ?_ | refine r_truI ?_ | refine r_andV ?_ | refine r_orV ?_ | refine r_andV1 ?_ | refine r_andV0 ?_ | refine r_orV1 ?_ | refine r_orV0 ?_ | refine r_notV ?_ | refine r_call ?_ | refine r_meth ?_ | refine r_addI ?_ | refine r_subI ?_ | refine r_negI ?_ | refine r_andI ?_ | refine r_ltI ?_ | refine r_gtI ?_ | refine r_leI ?_ | refine r_geI ?_ | refine r_eqI ?_ | refine r_eqS ?_ | refine r_neI ?_ | refine r_neS ?_ | refine r_is0 ?_ | refine r_is1 ?_ | refine r_is2 ?_ | refine r_is3 ?_ | refine r_isn0 ?_ | refine r_isn1 ?_ | refine r_isn2 ?_ | refine r_isn3 ?_ | refine r_lenT ?_ | refine r_intI ?_ | refine r_absI ?_ | refine r_sl ?_ | refine r_no ?_ | refine r_part ?_ | refine r_asP ?_ | refine r_slT ?_ | refine r_slR ?_ | refine r_iter ?_ | refine r_asT ?_ | refine r_asPt ?_ | refine r_asRo ?_ | refine r_rng1 ?_ | refine r_gNm ?_ | refine r_gIx ?_ | refine r_comp ?_ | refine r_chain ?_ | refine r_chn1 ?_ | refine r_chn0 ?_ | refine r_isi ?_ | refine r_newL ?_ | refine r_ok ?_) | ((with_reducible (first | refine e_var ?_ | refine e_ixT ?_ | refine e_gTp ?_)); refine ⟨_, rfl, ?_⟩) | ((with_reducible (first | refine r_mkT ?_ ?_ | refine r_mkP ?_ ?_ | refine r_mkL ?_ ?_)); exact Nat.le_of_ble_eq_true rfl) | ((with_reducible (first | refine e_mth ?_ | refine e_lenO ?_ | refine e_asO ?_ | refine e_truO ?_ | refine e_tupleO ?_ | refine e_tupleP ?_ | refine e_slO ?_ | refine e_reverse ?_ | refine e_listO ?_)); refine ⟨_, (by assumption), ?_⟩) | ((with_reducible (first | refine e_ixO ?_ | refine e_set ?_)); refine ⟨_, (by assumption), _, rfl, ?_⟩) | ((with_reducible (first | refine r_mulI ?_ ?_)); first | exact mul_ok (Or.inr (by decide)) | exact mul_ok (Or.inl (by decide))) | ((with_reducible (first | refine r_modI ?_ ?_ | refine r_fdvI ?_ ?_ | refine r_powI ?_ ?_)); decide) | dsimp only [endP])
      refine z_nyes (by decide) ?_
      repeat (first | with_reducible (first | refine zs_seq ?_ | refine zs_asg ?_ | refine zs_drop ?_ | refine zs_ret ?_ | refine zs_retN ?_ | refine zs_next ?_ | refine zs_brk ?_ | refine zs_cnt ?_ | refine zs_if ?_ | refine zs_for ?_ | refine zs_while ?_ | refine z_true ?_ | refine z_false ?_ | refine r_k ?_ | refine r_op ?_ | refine r_un ?_ | refine r_nil ?_ | refine r_cons ?_ | refine r_tup ?_ | refine r_ptp ?_ | refine r_lst ?_ | refine r_ife ?_ | refine r_if1 ?_ | refine r_if0 ?_ | refine r_and ?_ | refine r_or ?_ | refine r_not ?_ | refine r_bool ?_ | refine r_asB ?_ | refine r_tru ?_ | refine r_truB ?_ | refine r_truI ?_ | refine r_andV ?_ | refine r_orV ?_ | refine r_andV1 ?_ | refine r_andV0 ?_ | refine r_orV1 ?_ | refine r_orV0 ?_ | refine r_notV ?_ | refine r_call ?_ | refine r_meth ?_ | refine r_addI ?_ | refine r_subI ?_ | refine r_negI ?_ | refine r_andI ?_ | refine r_ltI ?_ | refine r_gtI ?_ | refine r_leI ?_ | refine r_geI ?_ | refine r_eqI ?_ | refine r_eqS ?_ | refine r_neI ?_ | refine r_neS ?_ | refine r_is0 ?_ | refine r_is1 ?_ | refine r_is2 ?_ | refine r_is3 ?_ | refine r_isn0 ?_ | refine r_isn1 ?_ | refine r_isn2 ?_ | refine r_isn3 ?_ | refine r_lenT ?_ | refine r_intI ?_ | refine r_absI ?_ | refine r_sl ?_ | refine r_no ?_ | refine r_part ?_ | refine r_asP ?_ | refine r_slT ?_ | refine r_slR ?_ | refine r_iter ?_ | refine r_asT ?_ | refine r_asPt ?_ | refine r_asRo ?_ | refine r_rng1 ?_ | refine r_gNm ?_ | refine r_gIx ?_ | refine r_comp ?_ | refine r_chain ?_ | refine r_chn1 ?_ | refine r_chn0 ?_ | refine r_isi ?_ | refine r_newL ?_ | refine r_ok ?_) | ((with_reducible (first | refine e_var ?_ | refine e_ixT ?_ | refine e_gTp ?_)); refine ⟨_, rfl, ?_⟩) | ((with_reducible (first | refine r_mkT ?_ ?_ | refine r_mkP ?_ ?_ | refine r_mkL ?_ ?_)); exact Nat.le_of_ble_eq_true rfl) | ((with_reducible (first | refine e_mth ?_ | refine e_lenO ?_ | refine e_asO ?_ | refine e_truO ?_ | refine e_tupleO ?_ | refine e_tupleP ?_ | refine e_slO ?_ | refine e_reverse ?_ | refine e_listO ?_)); refine ⟨_, (by assumption), ?_⟩) | ((with_reducible (first | refine e_ixO ?_ | refine e_set ?_)); refine ⟨_, (by assumption), _, rfl, ?_⟩) | ((with_reducible (first | refine r_mulI ?_ ?_)); first | exact mul_ok (Or.inr (by decide)) | exact mul_ok (Or.inl (by decide))) | ((with_reducible (first | refine r_modI ?_ ?_ | refine r_fdvI ?_ ?_ | refine r_powI ?_ ?_)); decide) | dsimp only [endP])
      refine r_append hm (lt_line (by simp; omega)) ?_
      repeat (first | with_reducible (first | refine zs_seq ?_ | refine zs_asg ?_ | refine zs_drop ?_ | refine zs_ret ?_ | refine zs_retN ?_ | refine zs_next ?_ | refine zs_brk ?_ | refine zs_cnt ?_ | refine zs_if ?_ | refine zs_for ?_ | refine zs_while ?_ | refine z_true ?_ | refine z_false ?_ | refine r_k ?_ | refine r_op ?_ | refine r_un ?_ | refine r_nil ?_ | refine r_cons ?_ | refine r_tup ?_ | refine r_ptp ?_ | refine r_lst ?_ | refine r_ife ?_ | refine r_if1 ?_ | refine r_if0 ?_ | refine r_and ?_ | refine r_or ?_ | refine r_not ?_ | refine r_bool ?_ | refine r_asB ?_ | refine r_tru ?_ | refine r_truB ?_ | refine r_truI ?_ | refine r_andV ?_ | refine r_orV ?_ | refine r_andV1 ?_ | refine r_andV0 ?_ | refine r_orV1 ?_ | refine r_orV0 ?_ | refine r_notV ?_ | refine r_call ?_ | refine r_meth ?_ | refine r_addI ?_ | refine r_subI ?_ | refine r_negI ?_ | refine r_andI ?_ | refine r_ltI ?_ | refine r_gtI ?_ | refine r_leI ?_ | refine r_geI ?_ | refine r_eqI ?_ | refine r_eqS ?_ | refine r_neI ?_ | refine r_neS ?_ | refine r_is0 ?_ | refine r_is1 ?_ | refine r_is2 ?_ | refine r_is3 ?_ | refine r_isn0 ?_ | refine r_isn1 ?_ | refine r_isn2 ?_ | refine r_isn3 ?_ | refine r_lenT ?_ | refine r_intI ?_ | refine r_absI ?_ | refine r_sl ?_ | refine r_no ?_ | refine r_part ?_ | refine r_asP ?_ | refine r_slT ?_ | refine r_slR ?_ | refine r_iter ?_ | refine r_asT ?_ | refine r_asPt ?_ | refine r_asRo ?_ | refine r_rng1 ?_ | refine r_gNm ?_ | refine r_gIx ?_ | refine r_comp ?_ | refine r_chain ?_ | refine r_chn1 ?_ | refine r_chn0 ?_ | refine r_isi ?_ | refine r_newL ?_ | refine r_ok ?_) | ((with_reducible (first | refine e_var ?_ | refine e_ixT ?_ | refine e_gTp ?_)); refine ⟨_, rfl, ?_⟩) | ((with_reducible (first | refine r_mkT ?_ ?_ | refine r_mkP ?_ ?_ | refine r_mkL ?_ ?_)); exact Nat.le_of_ble_eq_true rfl) | ((with_reducible (first | refine e_mth ?_ | refine e_lenO ?_ | refine e_asO ?_ | refine e_truO ?_ | refine e_tupleO ?_ | refine e_tupleP ?_ | refine e_slO ?_ | refine e_reverse ?_ | refine e_listO ?_)); refine ⟨_, (by assumption), ?_⟩) | ((with_reducible (first | refine e_ixO ?_ | refine e_set ?_)); refine ⟨_, (by assumption), _, rfl, ?_⟩) | ((with_reducible (first | refine r_mulI ?_ ?_)); first | exact mul_ok (Or.inr (by decide)) | exact mul_ok (Or.inl (by decide))) | ((with_reducible (first | refine r_modI ?_ ?_ | refine r_fdvI ?_ ?_ | refine r_powI ?_ ?_)); decide) | dsimp only [endP])
      refine z_nno (by decide) ?_
      repeat (first | with_reducible (first | refine zs_seq ?_ | refine zs_asg ?_ | refine zs_drop ?_ | refine zs_ret ?_ | refine zs_retN ?_ | refine zs_next ?_ | refine zs_brk ?_ | refine zs_cnt ?_ | refine zs_if ?_ | refine zs_for ?_ | refine zs_while ?_ | refine z_true ?_ | refine z_false ?_ | refine r_k ?_ | refine r_op ?_ | refine r_un ?_ | refine r_nil ?_ | refine r_cons ?_ | refine r_tup ?_ | refine r_ptp ?_ | refine r_lst ?_ | refine r_ife ?_ | refine r_if1 ?_ | refine r_if0 ?_ | refine r_and ?_ | refine r_or ?_ | refine r_not ?_ | refine r_bool ?_ | refine r_asB ?_ | refine r_tru ?_ | refine r_truB ?_ | refine r_truI ?_ | refine r_andV ?_ | refine r_orV ?_ | refine r_andV1 ?_ | refine r_andV0 ?_ | refine r_orV1 ?_ | refine r_orV0 ?_ | refine r_notV ?_ | refine r_call ?_ | refine r_meth ?_ | refine r_addI ?_ | refine r_subI ?_ | refine r_negI ?_ | refine r_andI ?_ | refine r_ltI ?_ | refine r_gtI ?_ | refine r_leI ?_ | refine r_geI ?_ | refine r_eqI ?_ | refine r_eqS ?_ | refine r_neI ?_ | refine r_neS ?_ | refine r_is0 ?_ | refine r_is1 ?_ | refine r_is2 ?_ | refine r_is3 ?_ | refine r_isn0 ?_ | refine r_isn1 ?_ | refine r_isn2 ?_ | refine r_isn3 ?_ | refine r_lenT ?_ | refine r_intI ?_ | refine r_absI ?_ | refine r_sl ?_ | refine r_no ?_ | refine r_part ?_ | refine r_asP ?_ | refine r_slT ?_ | refine r_slR ?_ | refine r_iter ?_ | refine r_asT ?_ | refine r_asPt ?_ | refine r_asRo ?_ | refine r_rng1 ?_ | refine r_gNm ?_ | refine r_gIx ?_ | refine r_comp ?_ | refine r_chain ?_ | refine r_chn1 ?_ | refine r_chn0 ?_ | refine r_isi ?_ | refine r_newL ?_ | refine r_ok ?_) | ((with_reducible (first | refine e_var ?_ | refine e_ixT ?_ | refine e_gTp ?_)); refine ⟨_, rfl, ?_⟩) | ((with_reducible (first | refine r_mkT ?_ ?_ | refine r_mkP ?_ ?_ | refine r_mkL ?_ ?_)); exact Nat.le_of_ble_eq_true rfl) | ((with_reducible (first | refine e_mth ?_ | refine e_lenO ?_ | refine e_asO ?_ | refine e_truO ?_ | refine e_tupleO ?_ | refine e_tupleP ?_ | refine e_slO ?_ | refine e_reverse ?_ | refine e_listO ?_)); refine ⟨_, (by assumption), ?_⟩) | ((with_reducible (first | refine e_ixO ?_ | refine e_set ?_)); refine ⟨_, (by assumption), _, rfl, ?_⟩) | ((with_reducible (first | refine r_mulI ?_ ?_)); first | exact mul_ok (Or.inr (by decide)) | exact mul_ok (Or.inl (by decide))) | ((with_reducible (first | refine r_modI ?_ ?_ | refine r_fdvI ?_ ?_ | refine r_powI ?_ ?_)); decide) | dsimp only [endP])
      exact ⟨_, _, h, ms ++ [b], rfl, by rw [set_at hm]; simp, by simp; omega, hh, hg⟩
    | keep =>
      rw [show (Sp.keep).d = D.tup [.str "keep"] from rfl]
      repeat (first | with_reducible (first | refine zs_seq ?_ | refine zs_asg ?_ | refine zs_drop ?_ | refine zs_ret ?_ | refine zs_retN ?_ | refine zs_next ?_ | refine zs_brk ?_ | refine zs_cnt ?_ | refine zs_if ?_ | refine zs_for ?_ | refine zs_while ?_ | refine z_true ?_ | refine z_false ?_ | refine r_k ?_ | refine r_op ?_ | refine r_un ?_ | refine r_nil ?_ | refine r_cons ?_ | refine r_tup ?_ | refine r_ptp ?_ | refine r_lst ?_ | refine r_ife ?_ | refine r_if1 ?_ | refine r_if0 ?_ | refine r_and ?_ | refine r_or ?_ | refine r_not ?_ | refine r_bool ?_ | refine r_asB ?_ | refine r_tru ?_ | refine r_truB ?_ | refine r_truI ?_ | refine r_andV ?_ | refine r_orV ?_ | refine r_andV1 ?_ | refine r_andV0 ?_ | refine r_orV1 ?_ | refine r_orV0 ?_ | refine r_notV ?_ | refine r_call ?_ | refine r_meth ?_ | refine r_addI ?_ | refine r_subI ?_ | refine r_negI ?_ | refine r_andI ?_ | refine r_ltI ?_ | refine r_gtI ?_ | refine r_leI ?_ | refine r_geI ?_ | refine r_eqI ?_ | refine r_eqS ?_ | refine r_neI ?_ | refine r_neS ?_ | refine r_is0 ?_ | refine r_is1 ?_ | refine r_is2 ?_ | refine r_is3 ?_ | refine r_isn0 ?_ | refine r_isn1 ?_ | refine r_isn2 ?_ | refine r_isn3 ?_ | refine r_lenT ?_ | refine r_intI ?_ | refine r_absI ?_ | refine r_sl ?_ | refine r_no ?_ | refine r_part ?_ | refine r_asP ?_ | refine r_slT ?_ | refine r_slR ?_ | refine r_iter ?_ | refine r_asT ?_ | refine r_asPt ?_ | refine r_asRo ?_ | refine r_rng1 ?_ | refine r_gNm ?_ | refine r_gIx ?_ | refine r_comp ?_ | refine r_chain ?_ | refine r_chn1 ?_ | refine r_chn0 ?_ | refine r_isi ?_ | refine r_newL ?_ | refine r_ok ?_) | ((with_reducible (first | refine e_var ?_ | refine e_ixT ?_ | refine e_gTp ?_)); refine ⟨_, rfl, ?_⟩) | ((with_reducible (first | refine r_mkT ?_ ?_ | refine r_mkP ?_ ?_ | refine r_mkL ?_ ?_)); exact Nat.le_of_ble_eq_true rfl) | ((with_reducible (first | refine e_mth ?_ | refine e_lenO ?_ | refine e_asO ?_ | refine e_truO ?_ | refine e_tupleO ?_ | refine e_tupleP ?_ | refine e_slO ?_ | refine e_reverse ?_ | refine e_listO ?_)); refine ⟨_, (by assumption), ?_⟩) | ((with_reducible (first | refine e_ixO ?_ | refine e_set ?_)); refine ⟨_, (by assumption), _, rfl, ?_⟩) | ((with_reducible (first | refine r_mulI ?_ ?_)); first | exact mul_ok (Or.inr (by decide)) | exact mul_ok (Or.inl (by decide))) | ((with_reducible (first | refine r_modI ?_ ?_ | refine r_fdvI ?_ ?_ | refine r_powI ?_ ?_)); decide) | dsimp only [endP])
      refine r_nyes (by decide) ?_
      repeat (first | with_reducible (first | refine zs_seq ?_ | refine zs_asg ?_ | refine zs_drop ?_ | refine zs_ret ?_ | refine zs_retN ?_ | refine zs_next ?_ | refine zs_brk ?_ | refine zs_cnt ?_ | refine zs_if ?_ | refine zs_for ?_ | refine zs_while ?_ | refine z_true ?_ | refine z_false ?_ | refine r_k ?_ | refine r_op ?_ | refine r_un ?_ | refine r_nil ?_ | refine r_cons ?_ | refine r_tup ?_ | refine r_ptp ?_ | refine r_lst ?_ | refine r_ife ?_ | refine r_if1 ?_ | refine r_if0 ?_ | refine r_and ?_ | refine r_or ?_ | refine r_not ?_ | refine r_bool ?_ | refine r_asB ?_ | refine r_tru ?_ | refine r_truB ?_ | refine r_truI ?_ | refine r_andV ?_ | refine r_orV ?_ | refine r_andV1 ?_ | refine r_andV0 ?_ | refine r_orV1 ?_ | refine r_orV0 ?_ | refine r_notV ?_ | refine r_call ?_ | refine r_meth ?_ | refine r_addI ?_ | refine r_subI ?_ | refine r_negI ?_ | refine r_andI ?_ | refine r_ltI ?_ | refine r_gtI ?_ | refine r_leI ?_ | refine r_geI ?_ | refine r_eqI ?_ | refine r_eqS ?_ | refine r_neI ?_ | refine r_neS ?_ | refine r_is0 ?_ | refine r_is1 ?_ | refine r_is2 ?_ | refine r_is3 ?_ | refine r_isn0 ?_ | refine r_isn1 ?_ | refine r_isn2 ?_ | refine r_isn3 ?_ | refine r_lenT ?_ | refine r_intI ?_ | refine r_absI ?_ | refine r_sl ?_ | refine r_no ?_ | refine r_part ?_ | refine r_asP ?_ | refine r_slT ?_ | refine r_slR ?_ | refine r_iter ?_ | refine r_asT ?_ | refine r_asPt ?_ | refine r_asRo ?_ | refine r_rng1 ?_ | refine r_gNm ?_ | refine r_gIx ?_ | refine r_comp ?_ | refine r_chain ?_ | refine r_chn1 ?_ | refine r_chn0 ?_ | refine r_isi ?_ | refine r_newL ?_ | refine r_ok ?_) | ((with_reducible (first | refine e_var ?_ | refine e_ixT ?_ | refine e_gTp ?_)); refine ⟨_, rfl, ?_⟩) | ((with_reducible (first | refine r_mkT ?_ ?_ | refine r_mkP ?_ ?_ | refine r_mkL ?_ ?_)); exact Nat.le_of_ble_eq_true rfl) | ((with_reducible (first | refine e_mth ?_ | refine e_lenO ?_ | refine e_asO ?_ | refine e_truO ?_ | refine e_tupleO ?_ | refine e_tupleP ?_ | refine e_slO ?_ | refine e_reverse ?_ | refine e_listO ?_)); refine ⟨_, (by assumption), ?_⟩) | ((with_reducible (first | refine e_ixO ?_ | refine e_set ?_)); refine ⟨_, (by assumption), _, rfl, ?_⟩) | ((with_reducible (first | refine r_mulI ?_ ?_)); first | exact mul_ok (Or.inr (by decide)) | exact mul_ok (Or.inl (by decide))) | ((with_reducible (first | refine r_modI ?_ ?_ | refine r_fdvI ?_ ?_ | refine r_powI ?_ ?_)); decide) | dsimp only [endP])
      refine z_dec (fun hc => ?_) (fun hc => ?_)
      · have e : ns[h]? = none := List.getElem?_eq_none (by simp at hc; omega)
        simp only [go, e] at hg
        subst hg
        refine zs_raise ?_
        repeat (first | with_reducible (first | refine zs_seq ?_ | refine zs_asg ?_ | refine zs_drop ?_ | refine zs_ret ?_ | refine zs_retN ?_ | refine zs_next ?_ | refine zs_brk ?_ | refine zs_cnt ?_ | refine zs_if ?_ | refine zs_for ?_ | refine zs_while ?_ | refine z_true ?_ | refine z_false ?_ | refine r_k ?_ | refine r_op ?_ | refine r_un ?_ | refine r_nil ?_ | refine r_cons ?_ | refine r_tup ?_ | refine r_ptp ?_ | refine r_lst ?_ | refine r_ife ?_ | refine r_if1 ?_ | refine r_if0 ?_ | refine r_and ?_ | refine r_or ?_ | refine r_not ?_ | refine r_bool ?_ | refine r_asB ?_ | refine r_tru ?_ | refine r_truB ?_ | refine r_truI ?_ | refine r_andV ?_ | refine r_orV ?_ | refine r_andV1 ?_ | refine r_andV0 ?_ | refine r_orV1 ?_ | refine r_orV0 ?_ | refine r_notV ?_ | refine r_call ?_ | refine r_meth ?_ | refine r_addI ?_ | refine r_subI ?_ | refine r_negI ?_ | refine r_andI ?_ | refine r_ltI ?_ | refine r_gtI ?_ | refine r_leI ?_ | refine r_geI ?_ | refine r_eqI ?_ | refine r_eqS ?_ | refine r_neI ?_ | refine r_neS ?_ | refine r_is0 ?_ | refine r_is1 ?_ | refine r_is2 ?_ | refine r_is3 ?_ | refine r_isn0 ?_ | refine r_isn1 ?_ | refine r_isn2 ?_ | refine r_isn3 ?_ | refine r_lenT ?_ | refine r_intI ?_ | refine r_absI ?_ | refine r_sl ?_ | refine r_no ?_ | refine r_part ?_ | refine r_asP ?_ | refine r_slT ?_ | refine r_slR ?_ | refine r_iter ?_ | refine r_asT ?_ | refine r_asPt ?_ | refine r_asRo ?_ | refine r_rng1 ?_ | refine r_gNm ?_ | refine r_gIx ?_ | refine r_comp ?_ | refine r_chain ?_ | refine r_chn1 ?_ | refine r_chn0 ?_ | refine r_isi ?_ | refine r_newL ?_ | refine r_ok ?_) | ((with_reducible (first | refine e_var ?_ | refine e_ixT ?_ | refine e_gTp ?_)); refine ⟨_, rfl, ?_⟩) | ((with_reducible (first | refine r_mkT ?_ ?_ | refine r_mkP ?_ ?_ | refine r_mkL ?_ ?_)); exact Nat.le_of_ble_eq_true rfl) | ((with_reducible (first | refine e_mth ?_ | refine e_lenO ?_ | refine e_asO ?_ | refine e_truO ?_ | refine e_tupleO ?_ | refine e_tupleP ?_ | refine e_slO ?_ | refine e_reverse ?_ | refine e_listO ?_)); refine ⟨_, (by assumption), ?_⟩) | ((with_reducible (first | refine e_ixO ?_ | refine e_set ?_)); refine ⟨_, (by assumption), _, rfl, ?_⟩) | ((with_reducible (first | refine r_mulI ?_ ?_)); first | exact mul_ok (Or.inr (by decide)) | exact mul_ok (Or.inl (by decide))) | ((with_reducible (first | refine r_modI ?_ ?_ | refine r_fdvI ?_ ?_ | refine r_powI ?_ ?_)); decide) | dsimp only [endP])
        exact ⟨rfl, by decide, i, rfl, rfl⟩
      · have hlt : h < ns.length := by simp at hc; omega
        have e : ns[h]? = some ns[h] := List.getElem?_eq_getElem hlt
        simp only [go, e] at hg
        repeat (first | with_reducible (first | refine zs_seq ?_ | refine zs_asg ?_ | refine zs_drop ?_ | refine zs_ret ?_ | refine zs_retN ?_ | refine zs_next ?_ | refine zs_brk ?_ | refine zs_cnt ?_ | refine zs_if ?_ | refine zs_for ?_ | refine zs_while ?_ | refine z_true ?_ | refine z_false ?_ | refine r_k ?_ | refine r_op ?_ | refine r_un ?_ | refine r_nil ?_ | refine r_cons ?_ | refine r_tup ?_ | refine r_ptp ?_ | refine r_lst ?_ | refine r_ife ?_ | refine r_if1 ?_ | refine r_if0 ?_ | refine r_and ?_ | refine r_or ?_ | refine r_not ?_ | refine r_bool ?_ | refine r_asB ?_ | refine r_tru ?_ | refine r_truB ?_ | refine r_truI ?_ | refine r_andV ?_ | refine r_orV ?_ | refine r_andV1 ?_ | refine r_andV0 ?_ | refine r_orV1 ?_ | refine r_orV0 ?_ | refine r_notV ?_ | refine r_call ?_ | refine r_meth ?_ | refine r_addI ?_ | refine r_subI ?_ | refine r_negI ?_ | refine r_andI ?_ | refine r_ltI ?_ | refine r_gtI ?_ | refine r_leI ?_ | refine r_geI ?_ | refine r_eqI ?_ | refine r_eqS ?_ | refine r_neI ?_ | refine r_neS ?_ | refine r_is0 ?_ | refine r_is1 ?_ | refine r_is2 ?_ | refine r_is3 ?_ | refine r_isn0 ?_ | refine r_isn1 ?_ | refine r_isn2 ?_ | refine r_isn3 ?_ | refine r_lenT ?_ | refine r_intI ?_ | refine r_absI ?_ | refine r_sl ?_ | refine r_no ?_ | refine r_part ?_ | refine r_asP ?_ | refine r_slT ?_ | refine r_slR ?_ | refine r_iter ?_ | refine r_asT ?_ | refine r_asPt ?_ | refine r_asRo ?_ | refine r_rng1 ?_ | refine r_gNm ?_ | refine r_gIx ?_ | refine r_comp ?_ | refine r_chain ?_ | refine r_chn1 ?_ | refine r_chn0 ?_ | refine r_isi ?_ | refine r_newL ?_ | refine r_ok ?_) | ((with_reducible (first | refine e_var ?_ | refine e_ixT ?_ | refine e_gTp ?_)); refine ⟨_, rfl, ?_⟩) | ((with_reducible (first | refine r_mkT ?_ ?_ | refine r_mkP ?_ ?_ | refine r_mkL ?_ ?_)); exact Nat.le_of_ble_eq_true rfl) | ((with_reducible (first | refine e_mth ?_ | refine e_lenO ?_ | refine e_asO ?_ | refine e_truO ?_ | refine e_tupleO ?_ | refine e_tupleP ?_ | refine e_slO ?_ | refine e_reverse ?_ | refine e_listO ?_)); refine ⟨_, (by assumption), ?_⟩) | ((with_reducible (first | refine e_ixO ?_ | refine e_set ?_)); refine ⟨_, (by assumption), _, rfl, ?_⟩) | ((with_reducible (first | refine r_mulI ?_ ?_)); first | exact mul_ok (Or.inr (by decide)) | exact mul_ok (Or.inl (by decide))) | ((with_reducible (first | refine r_modI ?_ ?_ | refine r_fdvI ?_ ?_ | refine r_powI ?_ ?_)); decide) | dsimp only [endP])
        refine z_yes (by decide) ?_
        repeat (first | with_reducible (first | refine zs_seq ?_ | refine zs_asg ?_ | refine zs_drop ?_ | refine zs_ret ?_ | refine zs_retN ?_ | refine zs_next ?_ | refine zs_brk ?_ | refine zs_cnt ?_ | refine zs_if ?_ | refine zs_for ?_ | refine zs_while ?_ | refine z_true ?_ | refine z_false ?_ | refine r_k ?_ | refine r_op ?_ | refine r_un ?_ | refine r_nil ?_ | refine r_cons ?_ | refine r_tup ?_ | refine r_ptp ?_ | refine r_lst ?_ | refine r_ife ?_ | refine r_if1 ?_ | refine r_if0 ?_ | refine r_and ?_ | refine r_or ?_ | refine r_not ?_ | refine r_bool ?_ | refine r_asB ?_ | refine r_tru ?_ | refine r_truB ?_ | refine r_truI ?_ | refine r_andV ?_ | refine r_orV ?_ | refine r_andV1 ?_ | refine r_andV0 ?_ | refine r_orV1 ?_ | refine r_orV0 ?_ | refine r_notV ?_ | refine r_call ?_ | refine r_meth ?_ | refine r_addI ?_ | refine r_subI ?_ | refine r_negI ?_ | refine r_andI ?_ | refine r_ltI ?_ | refine r_gtI ?_ | refine r_leI ?_ | refine r_geI ?_ | refine r_eqI ?_ | refine r_eqS ?_ | refine r_neI ?_ | refine r_neS ?_ | refine r_is0 ?_ | refine r_is1 ?_ | refine r_is2 ?_ | refine r_is3 ?_ | refine r_isn0 ?_ | refine r_isn1 ?_ | refine r_isn2 ?_ | refine r_isn3 ?_ | refine r_lenT ?_ | refine r_intI ?_ | refine r_absI ?_ | refine r_sl ?_ | refine r_no ?_ | refine r_part ?_ | refine r_asP ?_ | refine r_slT ?_ | refine r_slR ?_ | refine r_iter ?_ | refine r_asT ?_ | refine r_asPt ?_ | refine r_asRo ?_ | refine r_rng1 ?_ | refine r_gNm ?_ | refine r_gIx ?_ | refine r_comp ?_ | refine r_chain ?_ | refine r_chn1 ?_ | refine r_chn0 ?_ | refine r_isi ?_ | refine r_newL ?_ | refine r_ok ?_) | ((with_reducible (first | refine e_var ?_ | refine e_ixT ?_ | refine e_gTp ?_)); refine ⟨_, rfl, ?_⟩) | ((with_reducible (first | refine r_mkT ?_ ?_ | refine r_mkP ?_ ?_ | refine r_mkL ?_ ?_)); exact Nat.le_of_ble_eq_true rfl) | ((with_reducible (first | refine e_mth ?_ | refine e_lenO ?_ | refine e_asO ?_ | refine e_truO ?_ | refine e_tupleO ?_ | refine e_tupleP ?_ | refine e_slO ?_ | refine e_reverse ?_ | refine e_listO ?_)); refine ⟨_, (by assumption), ?_⟩) | ((with_reducible (first | refine e_ixO ?_ | refine e_set ?_)); refine ⟨_, (by assumption), _, rfl, ?_⟩) | ((with_reducible (first | refine r_mulI ?_ ?_)); first | exact mul_ok (Or.inr (by decide)) | exact mul_ok (Or.inl (by decide))) | ((with_reducible (first | refine r_modI ?_ ?_ | refine r_fdvI ?_ ?_ | refine r_powI ?_ ?_)); decide) | dsimp only [endP])
        refine r_ixT (atI_map hlt) ?_
        repeat (first | with_reducible (first | refine zs_seq ?_ | refine zs_asg ?_ | refine zs_drop ?_ | refine zs_ret ?_ | refine zs_retN ?_ | refine zs_next ?_ | refine zs_brk ?_ | refine zs_cnt ?_ | refine zs_if ?_ | refine zs_for ?_ | refine zs_while ?_ | refine z_true ?_ | refine z_false ?_ | refine r_k ?_ | refine r_op ?_ | refine r_un ?_ | refine r_nil ?_ | refine r_cons ?_ | refine r_tup ?_ | refine r_ptp ?_ | refine r_lst ?_ | refine r_ife ?_ | refine r_if1 ?_ | refine r_if0 ?_ | refine r_and ?_ | refine r_or ?_ | refine r_not ?_ | refine r_bool ?_ | refine r_asB ?_ | refine r_tru ?_ | refine r_truB ?_ | refine r_truI ?_ | refine r_andV ?_ | refine r_orV ?_ | refine r_andV1 ?_ | refine r_andV0 ?_ | refine r_orV1 ?_ | refine r_orV0 ?_ | refine r_notV ?_ | refine r_call ?_ | refine r_meth ?_ | refine r_addI ?_ | refine r_subI ?_ | refine r_negI ?_ | refine r_andI ?_ | refine r_ltI ?_ | refine r_gtI ?_ | refine r_leI ?_ | refine r_geI ?_ | refine r_eqI ?_ | refine r_eqS ?_ | refine r_neI ?_ | refine r_neS ?_ | refine r_is0 ?_ | refine r_is1 ?_ | refine r_is2 ?_ | refine r_is3 ?_ | refine r_isn0 ?_ | refine r_isn1 ?_ | refine r_isn2 ?_ | refine r_isn3 ?_ | refine r_lenT ?_ | refine r_intI ?_ | refine r_absI ?_ | refine r_sl ?_ | refine r_no ?_ | refine r_part ?_ | refine r_asP ?_ | refine r_slT ?_ | refine r_slR ?_ | refine r_iter ?_ | refine r_asT ?_ | refine r_asPt ?_ | refine r_asRo ?_ | refine r_rng1 ?_ | refine r_gNm ?_ | refine r_gIx ?_ | refine r_comp ?_ | refine r_chain ?_ | refine r_chn1 ?_ | refine r_chn0 ?_ | refine r_isi ?_ | refine r_newL ?_ | refine r_ok ?_) | ((with_reducible (first | refine e_var ?_ | refine e_ixT ?_ | refine e_gTp ?_)); refine ⟨_, rfl, ?_⟩) | ((with_reducible (first | refine r_mkT ?_ ?_ | refine r_mkP ?_ ?_ | refine r_mkL ?_ ?_)); exact Nat.le_of_ble_eq_true rfl) | ((with_reducible (first | refine e_mth ?_ | refine e_lenO ?_ | refine e_asO ?_ | refine e_truO ?_ | refine e_tupleO ?_ | refine e_tupleP ?_ | refine e_slO ?_ | refine e_reverse ?_ | refine e_listO ?_)); refine ⟨_, (by assumption), ?_⟩) | ((with_reducible (first | refine e_ixO ?_ | refine e_set ?_)); refine ⟨_, (by assumption), _, rfl, ?_⟩) | ((with_reducible (first | refine r_mulI ?_ ?_)); first | exact mul_ok (Or.inr (by decide)) | exact mul_ok (Or.inl (by decide))) | ((with_reducible (first | refine r_modI ?_ ?_ | refine r_fdvI ?_ ?_ | refine r_powI ?_ ?_)); decide) | dsimp only [endP])
        refine r_append hm (lt_line (by simp; omega)) ?_
        repeat (first | with_reducible (first | refine zs_seq ?_ | refine zs_asg ?_ | refine zs_drop ?_ | refine zs_ret ?_ | refine zs_retN ?_ | refine zs_next ?_ | refine zs_brk ?_ | refine zs_cnt ?_ | refine zs_if ?_ | refine zs_for ?_ | refine zs_while ?_ | refine z_true ?_ | refine z_false ?_ | refine r_k ?_ | refine r_op ?_ | refine r_un ?_ | refine r_nil ?_ | refine r_cons ?_ | refine r_tup ?_ | refine r_ptp ?_ | refine r_lst ?_ | refine r_ife ?_ | refine r_if1 ?_ | refine r_if0 ?_ | refine r_and ?_ | refine r_or ?_ | refine r_not ?_ | refine r_bool ?_ | refine r_asB ?_ | refine r_tru ?_ | refine r_truB ?_ | refine r_truI ?_ | refine r_andV ?_ | refine r_orV ?_ | refine r_andV1 ?_ | refine r_andV0 ?_ | refine r_orV1 ?_ | refine r_orV0 ?_ | refine r_notV ?_ | refine r_call ?_ | refine r_meth ?_ | refine r_addI ?_ | refine r_subI ?_ | refine r_negI ?_ | refine r_andI ?_ | refine r_ltI ?_ | refine r_gtI ?_ | refine r_leI ?_ | refine r_geI ?_ | refine r_eqI ?_ | refine r_eqS ?_ | refine r_neI ?_ | refine r_neS ?_ | refine r_is0 ?_ | refine r_is1 ?_ | refine r_is2 ?_ | refine r_is3 ?_ | refine r_isn0 ?_ | refine r_isn1 ?_ | refine r_isn2 ?_ | refine r_isn3 ?_ | refine r_lenT ?_ | refine r_intI ?_ | refine r_absI ?_ | refine r_sl ?_ | refine r_no ?_ | refine r_part ?_ | refine r_asP ?_ | refine r_slT ?_ | refine r_slR ?_ | refine r_iter ?_ | refine r_asT ?_ | refine r_asPt ?_ | refine r_asRo ?_ | refine r_rng1 ?_ | refine r_gNm ?_ | refine r_gIx ?_ | refine r_comp ?_ | refine r_chain ?_ | refine r_chn1 ?_ | refine r_chn0 ?_ | refine r_isi ?_ | refine r_newL ?_ | refine r_ok ?_) | ((with_reducible (first | refine e_var ?_ | refine e_ixT ?_ | refine e_gTp ?_)); refine ⟨_, rfl, ?_⟩) | ((with_reducible (first | refine r_mkT ?_ ?_ | refine r_mkP ?_ ?_ | refine r_mkL ?_ ?_)); exact Nat.le_of_ble_eq_true rfl) | ((with_reducible (first | refine e_mth ?_ | refine e_lenO ?_ | refine e_asO ?_ | refine e_truO ?_ | refine e_tupleO ?_ | refine e_tupleP ?_ | refine e_slO ?_ | refine e_reverse ?_ | refine e_listO ?_)); refine ⟨_, (by assumption), ?_⟩) | ((with_reducible (first | refine e_ixO ?_ | refine e_set ?_)); refine ⟨_, (by assumption), _, rfl, ?_⟩) | ((with_reducible (first | refine r_mulI ?_ ?_)); first | exact mul_ok (Or.inr (by decide)) | exact mul_ok (Or.inl (by decide))) | ((with_reducible (first | refine r_modI ?_ ?_ | refine r_fdvI ?_ ?_ | refine r_powI ?_ ?_)); decide) | dsimp only [endP])
        refine z_nyes (by decide) ?_
        repeat (first | with_reducible (first | refine zs_seq ?_ | refine zs_asg ?_ | refine zs_drop ?_ | refine zs_ret ?_ | refine zs_retN ?_ | refine zs_next ?_ | refine zs_brk ?_ | refine zs_cnt ?_ | refine zs_if ?_ | refine zs_for ?_ | refine zs_while ?_ | refine z_true ?_ | refine z_false ?_ | refine r_k ?_ | refine r_op ?_ | refine r_un ?_ | refine r_nil ?_ | refine r_cons ?_ | refine r_tup ?_ | refine r_ptp ?_ | refine r_lst ?_ | refine r_ife ?_ | refine r_if1 ?_ | refine r_if0 ?_ | refine r_and ?_ | refine r_or ?_ | refine r_not ?_ | refine r_bool ?_ | refine r_asB ?_ | refine r_tru ?_ | refine r_truB ?_ | refine r_truI ?_ | refine r_andV ?_ | refine r_orV ?_ | refine r_andV1 ?_ | refine r_andV0 ?_ | refine r_orV1 ?_ | refine r_orV0 ?_ | refine r_notV ?_ | refine r_call ?_ | refine r_meth ?_ | refine r_addI ?_ | refine r_subI ?_ | refine r_negI ?_ | refine r_andI ?_ | refine r_ltI ?_ | refine r_gtI ?_ | refine r_leI ?_ | refine r_geI ?_ | refine r_eqI ?_ | refine r_eqS ?_ | refine r_neI ?_ | refine r_neS ?_ | refine r_is0 ?_ | refine r_is1 ?_ | refine r_is2 ?_ | refine r_is3 ?_ | refine r_isn0 ?_ | refine r_isn1 ?_ | refine r_isn2 ?_ | refine r_isn3 ?_ | refine r_lenT ?_ | refine r_intI ?_ | refine r_absI ?_ | refine r_sl ?_ | refine r_no ?_ | refine r_part ?_ | refine r_asP ?_ | refine r_slT ?_ | refine r_slR ?_ | refine r_iter ?_ | refine r_asT ?_ | refine r_asPt ?_ | refine r_asRo ?_ | refine r_rng1 ?_ | refine r_gNm ?_ | refine r_gIx ?_ | refine r_comp ?_ | refine r_chain ?_ | refine r_chn1 ?_ | refine r_chn0 ?_ | refine r_isi ?_ | refine r_newL ?_ | refine r_ok ?_) | ((with_reducible (first | refine e_var ?_ | refine e_ixT ?_ | refine e_gTp ?_)); refine ⟨_, rfl, ?_⟩) | ((with_reducible (first | refine r_mkT ?_ ?_ | refine r_mkP ?_ ?_ | refine r_mkL ?_ ?_)); exact Nat.le_of_ble_eq_true rfl) | ((with_reducible (first | refine e_mth ?_ | refine e_lenO ?_ | refine e_asO ?_ | refine e_truO ?_ | refine e_tupleO ?_ | refine e_tupleP ?_ | refine e_slO ?_ | refine e_reverse ?_ | refine e_listO ?_)); refine ⟨_, (by assumption), ?_⟩) | ((with_reducible (first | refine e_ixO ?_ | refine e_set ?_)); refine ⟨_, (by assumption), _, rfl, ?_⟩) | ((with_reducible (first | refine r_mulI ?_ ?_)); first | exact mul_ok (Or.inr (by decide)) | exact mul_ok (Or.inl (by decide))) | ((with_reducible (first | refine r_modI ?_ ?_ | refine r_fdvI ?_ ?_ | refine r_powI ?_ ?_)); decide) | dsimp only [endP])
        exact ⟨_, _, h + 1, ms ++ [ns[h]], rfl, by rw [set_at hm]; simp, by simp; omega, hlt, hg⟩
    | drop =>
      rw [show (Sp.drop).d = D.tup [.str "drop"] from rfl]
      repeat (first | with_reducible (first | refine zs_seq ?_ | refine zs_asg ?_ | refine zs_drop ?_ | refine zs_ret ?_ | refine zs_retN ?_ | refine zs_next ?_ | refine zs_brk ?_ | refine zs_cnt ?_ | refine zs_if ?_ | refine zs_for ?_ | refine zs_while ?_ | refine z_true ?_ | refine z_false ?_ | refine r_k ?_ | refine r_op ?_ | refine r_un ?_ | refine r_nil ?_ | refine r_cons ?_ | refine r_tup ?_ | refine r_ptp ?_ | refine r_lst ?_ | refine r_ife ?_ | refine r_if1 ?_ | refine r_if0 ?_ | refine r_and ?_ | refine r_or ?_ | refine r_not ?_ | refine r_bool ?_ | refine r_asB ?_ | refine r_tru ?_ | refine r_truB ?_ | refine r_truI ?_ | refine r_andV ?_ | refine r_orV ?_ | refine r_andV1 ?_ | refine r_andV0 ?_ | refine r_orV1 ?_ | refine r_orV0 ?_ | refine r_notV ?_ | refine r_call ?_ | refine r_meth ?_ | refine r_addI ?_ | refine r_subI ?_ | refine r_negI ?_ | refine r_andI ?_ | refine r_ltI ?_ | refine r_gtI ?_ | refine r_leI ?_ | refine r_geI ?_ | refine r_eqI ?_ | refine r_eqS ?_ | refine r_neI ?_ | refine r_neS ?_ | refine r_is0 ?_ | refine r_is1 ?_ | refine r_is2 ?_ | refine r_is3 ?_ | refine r_isn0 ?_ | refine r_isn1 ?_ | refine r_isn2 ?_ | refine r_isn3 ?_ | refine r_lenT ?_ | refine r_intI ?_ | refine r_absI ?_ | refine r_sl ?_ | refine r_no ?_ | refine r_part ?_ | refine r_asP ?_ | refine r_slT ?_ | refine r_slR ?_ | refine r_iter ?_ | refine r_asT ?_ | refine r_asPt ?_ | refine r_asRo ?_ | refine r_rng1 ?_ | refine r_gNm ?_ | refine r_gIx ?_ | refine r_comp ?_ | refine r_chain ?_ | refine r_chn1 ?_ | refine r_chn0 ?_ | refine r_isi ?_ | refine r_newL ?_ | refine r_ok ?_) | ((with_reducible (first | refine e_var ?_ | refine e_ixT ?_ | refine e_gTp ?_)); refine ⟨_, rfl, ?_⟩) | ((with_reducible (first | refine r_mkT ?_ ?_ | refine r_mkP ?_ ?_ | refine r_mkL ?_ ?_)); exact Nat.le_of_ble_eq_true rfl) | ((with_reducible (first | refine e_mth ?_ | refine e_lenO ?_ | refine e_asO ?_ | refine e_truO ?_ | refine e_tupleO ?_ | refine e_tupleP ?_ | refine e_slO ?_ | refine e_reverse ?_ | refine e_listO ?_)); refine ⟨_, (by assumption), ?_⟩) | ((with_reducible (first | refine e_ixO ?_ | refine e_set ?_)); refine ⟨_, (by assumption), _, rfl, ?_⟩) | ((with_reducible (first | refine r_mulI ?_ ?_)); first | exact mul_ok (Or.inr (by decide)) | exact mul_ok (Or.inl (by decide))) | ((with_reducible (first | refine r_modI ?_ ?_ | refine r_fdvI ?_ ?_ | refine r_powI ?_ ?_)); decide) | dsimp only [endP])
      refine r_nyes (by decide) ?_
      repeat (first | with_reducible (first | refine zs_seq ?_ | refine zs_asg ?_ | refine zs_drop ?_ | refine zs_ret ?_ | refine zs_retN ?_ | refine zs_next ?_ | refine zs_brk ?_ | refine zs_cnt ?_ | refine zs_if ?_ | refine zs_for ?_ | refine zs_while ?_ | refine z_true ?_ | refine z_false ?_ | refine r_k ?_ | refine r_op ?_ | refine r_un ?_ | refine r_nil ?_ | refine r_cons ?_ | refine r_tup ?_ | refine r_ptp ?_ | refine r_lst ?_ | refine r_ife ?_ | refine r_if1 ?_ | refine r_if0 ?_ | refine r_and ?_ | refine r_or ?_ | refine r_not ?_ | refine r_bool ?_ | refine r_asB ?_ | refine r_tru ?_ | refine r_truB ?_ | refine r_truI ?_ | refine r_andV ?_ | refine r_orV ?_ | refine r_andV1 ?_ | refine r_andV0 ?_ | refine r_orV1 ?_ | refine r_orV0 ?_ | refine r_notV ?_ | refine r_call ?_ | refine r_meth ?_ | refine r_addI ?_ | refine r_subI ?_ | refine r_negI ?_ | refine r_andI ?_ | refine r_ltI ?_ | refine r_gtI ?_ | refine r_leI ?_ | refine r_geI ?_ | refine r_eqI ?_ | refine r_eqS ?_ | refine r_neI ?_ | refine r_neS ?_ | refine r_is0 ?_ | refine r_is1 ?_ | refine r_is2 ?_ | refine r_is3 ?_ | refine r_isn0 ?_ | refine r_isn1 ?_ | refine r_isn2 ?_ | refine r_isn3 ?_ | refine r_lenT ?_ | refine r_intI ?_ | refine r_absI ?_ | refine r_sl ?_ | refine r_no ?_ | refine r_part ?_ | refine r_asP ?_ | refine r_slT ?_ | refine r_slR ?_ | refine r_iter ?_ | refine r_asT ?_ | refine r_asPt ?_ | refine r_asRo ?_ | refine r_rng1 ?_ | refine r_gNm ?_ | refine r_gIx ?_ | refine r_comp ?_ | refine r_chain ?_ | refine r_chn1 ?_ | refine r_chn0 ?_ | refine r_isi ?_ | refine r_newL ?_ | refine r_ok ?_) | ((with_reducible (first | refine e_var ?_ | refine e_ixT ?_ | refine e_gTp ?_)); refine ⟨_, rfl, ?_⟩) | ((with_reducible (first | refine r_mkT ?_ ?_ | refine r_mkP ?_ ?_ | refine r_mkL ?_ ?_)); exact Nat.le_of_ble_eq_true rfl) | ((with_reducible (first | refine e_mth ?_ | refine e_lenO ?_ | refine e_asO ?_ | refine e_truO ?_ | refine e_tupleO ?_ | refine e_tupleP ?_ | refine e_slO ?_ | refine e_reverse ?_ | refine e_listO ?_)); refine ⟨_, (by assumption), ?_⟩) | ((with_reducible (first | refine e_ixO ?_ | refine e_set ?_)); refine ⟨_, (by assumption), _, rfl, ?_⟩) | ((with_reducible (first | refine r_mulI ?_ ?_)); first | exact mul_ok (Or.inr (by decide)) | exact mul_ok (Or.inl (by decide))) | ((with_reducible (first | refine r_modI ?_ ?_ | refine r_fdvI ?_ ?_ | refine r_powI ?_ ?_)); decide) | dsimp only [endP])
      refine z_dec (fun hc => ?_) (fun hc => ?_)
      · have e : ns[h]? = none := List.getElem?_eq_none (by simp at hc; omega)
        simp only [go, e] at hg
        subst hg
        refine zs_raise ?_
        repeat (first | with_reducible (first | refine zs_seq ?_ | refine zs_asg ?_ | refine zs_drop ?_ | refine zs_ret ?_ | refine zs_retN ?_ | refine zs_next ?_ | refine zs_brk ?_ | refine zs_cnt ?_ | refine zs_if ?_ | refine zs_for ?_ | refine zs_while ?_ | refine z_true ?_ | refine z_false ?_ | refine r_k ?_ | refine r_op ?_ | refine r_un ?_ | refine r_nil ?_ | refine r_cons ?_ | refine r_tup ?_ | refine r_ptp ?_ | refine r_lst ?_ | refine r_ife ?_ | refine r_if1 ?_ | refine r_if0 ?_ | refine r_and ?_ | refine r_or ?_ | refine r_not ?_ | refine r_bool ?_ | refine r_asB ?_ | refine r_tru ?_ | refine r_truB ?_ | refine r_truI ?_ | refine r_andV ?_ | refine r_orV ?_ | refine r_andV1 ?_ | refine r_andV0 ?_ | refine r_orV1 ?_ | refine r_orV0 ?_ | refine r_notV ?_ | refine r_call ?_ | refine r_meth ?_ | refine r_addI ?_ | refine r_subI ?_ | refine r_negI ?_ | refine r_andI ?_ | refine r_ltI ?_ | refine r_gtI ?_ | refine r_leI ?_ | refine r_geI ?_ | refine r_eqI ?_ | refine r_eqS ?_ | refine r_neI ?_ | refine r_neS ?_ | refine r_is0 ?_ | refine r_is1 ?_ | refine r_is2 ?_ | refine r_is3 ?_ | refine r_isn0 ?_ | refine r_isn1 ?_ | refine r_isn2 ?_ | refine r_isn3 ?_ | refine r_lenT ?_ | refine r_intI ?_ | refine r_absI ?_ | refine r_sl ?_ | refine r_no ?_ | refine r_part ?_ | refine r_asP ?_ | refine r_slT ?_ | refine r_slR ?_ | refine r_iter ?_ | refine r_asT ?_ | refine r_asPt ?_ | refine r_asRo ?_ | refine r_rng1 ?_ | refine r_gNm ?_ | refine r_gIx ?_ | refine r_comp ?_ | refine r_chain ?_ | refine r_chn1 ?_ | refine r_chn0 ?_ | refine r_isi ?_ | refine r_newL ?_ | refine r_ok ?_) | ((with_reducible (first | refine e_var ?_ | refine e_ixT ?_ | refine e_gTp ?_)); refine ⟨_, rfl, ?_⟩) | ((with_reducible (first | refine r_mkT ?_ ?_ | refine r_mkP ?_ ?_ | refine r_mkL ?_ ?_)); exact Nat.le_of_ble_eq_true rfl) | ((with_reducible (first | refine e_mth ?_ | refine e_lenO ?_ | refine e_asO ?_ | refine e_truO ?_ | refine e_tupleO ?_ | refine e_tupleP ?_ | refine e_slO ?_ | refine e_reverse ?_ | refine e_listO ?_)); refine ⟨_, (by assumption), ?_⟩) | ((with_reducible (first | refine e_ixO ?_ | refine e_set ?_)); refine ⟨_, (by assumption), _, rfl, ?_⟩) | ((with_reducible (first | refine r_mulI ?_ ?_)); first | exact mul_ok (Or.inr (by decide)) | exact mul_ok (Or.inl (by decide))) | ((with_reducible (first | refine r_modI ?_ ?_ | refine r_fdvI ?_ ?_ | refine r_powI ?_ ?_)); decide) | dsimp only [endP])
        exact ⟨rfl, by decide, i, rfl, rfl⟩
      · have hlt : h < ns.length := by simp at hc; omega
        have e : ns[h]? = some ns[h] := List.getElem?_eq_getElem hlt
        simp only [go, e] at hg
        repeat (first | with_reducible (first | refine zs_seq ?_ | refine zs_asg ?_ | refine zs_drop ?_ | refine zs_ret ?_ | refine zs_retN ?_ | refine zs_next ?_ | refine zs_brk ?_ | refine zs_cnt ?_ | refine zs_if ?_ | refine zs_for ?_ | refine zs_while ?_ | refine z_true ?_ | refine z_false ?_ | refine r_k ?_ | refine r_op ?_ | refine r_un ?_ | refine r_nil ?_ | refine r_cons ?_ | refine r_tup ?_ | refine r_ptp ?_ | refine r_lst ?_ | refine r_ife ?_ | refine r_if1 ?_ | refine r_if0 ?_ | refine r_and ?_ | refine r_or ?_ | refine r_not ?_ | refine r_bool ?_ | refine r_asB ?_ | refine r_tru ?_ | refine r_truB ?_ | refine r_truI ?_ | refine r_andV ?_ | refine r_orV ?_ | refine r_andV1 ?_ | refine r_andV0 ?_ | refine r_orV1 ?_ | refine r_orV0 ?_ | refine r_notV ?_ | refine r_call ?_ | refine r_meth ?_ | refine r_addI ?_ | refine r_subI ?_ | refine r_negI ?_ | refine r_andI ?_ | refine r_ltI ?_ | refine r_gtI ?_ | refine r_leI ?_ | refine r_geI ?_ | refine r_eqI ?_ | refine r_eqS ?_ | refine r_neI ?_ | refine r_neS ?_ | refine r_is0 ?_ | refine r_is1 ?_ | refine r_is2 ?_ | refine r_is3 ?_ | refine r_isn0 ?_ | refine r_isn1 ?_ | refine r_isn2 ?_ | refine r_isn3 ?_ | refine r_lenT ?_ | refine r_intI ?_ | refine r_absI ?_ | refine r_sl ?_ | refine r_no ?_ | refine r_part ?_ | refine r_asP ?_ | refine r_slT ?_ | refine r_slR ?_ | refine r_iter ?_ | refine r_asT ?_ | refine r_asPt ?_ | refine r_asRo ?_ | refine r_rng1 ?_ | refine r_gNm ?_ | refine r_gIx ?_ | refine r_comp ?_ | refine r_chain ?_ | refine r_chn1 ?_ | refine r_chn0 ?_ | refine r_isi ?_ | refine r_newL ?_ | refine r_ok ?_) | ((with_reducible (first | refine e_var ?_ | refine e_ixT ?_ | refine e_gTp ?_)); refine ⟨_, rfl, ?_⟩) | ((with_reducible (first | refine r_mkT ?_ ?_ | refine r_mkP ?_ ?_ | refine r_mkL ?_ ?_)); exact Nat.le_of_ble_eq_true rfl) | ((with_reducible (first | refine e_mth ?_ | refine e_lenO ?_ | refine e_asO ?_ | refine e_truO ?_ | refine e_tupleO ?_ | refine e_tupleP ?_ | refine e_slO ?_ | refine e_reverse ?_ | refine e_listO ?_)); refine ⟨_, (by assumption), ?_⟩) | ((with_reducible (first | refine e_ixO ?_ | refine e_set ?_)); refine ⟨_, (by assumption), _, rfl, ?_⟩) | ((with_reducible (first | refine r_mulI ?_ ?_)); first | exact mul_ok (Or.inr (by decide)) | exact mul_ok (Or.inl (by decide))) | ((with_reducible (first | refine r_modI ?_ ?_ | refine r_fdvI ?_ ?_ | refine r_powI ?_ ?_)); decide) | dsimp only [endP])
        refine z_no (by decide) ?_
        repeat (first | with_reducible (first | refine zs_seq ?_ | refine zs_asg ?_ | refine zs_drop ?_ | refine zs_ret ?_ | refine zs_retN ?_ | refine zs_next ?_ | refine zs_brk ?_ | refine zs_cnt ?_ | refine zs_if ?_ | refine zs_for ?_ | refine zs_while ?_ | refine z_true ?_ | refine z_false ?_ | refine r_k ?_ | refine r_op ?_ | refine r_un ?_ | refine r_nil ?_ | refine r_cons ?_ | refine r_tup ?_ | refine r_ptp ?_ | refine r_lst ?_ | refine r_ife ?_ | refine r_if1 ?_ | refine r_if0 ?_ | refine r_and ?_ | refine r_or ?_ | refine r_not ?_ | refine r_bool ?_ | refine r_asB ?_ | refine r_tru ?_ | refine r_truB ?_ | refine r_truI ?_ | refine r_andV ?_ | refine r_orV ?_ | refine r_andV1 ?_ | refine r_andV0 ?_ | refine r_orV1 ?_ | refine r_orV0 ?_ | refine r_notV ?_ | refine r_call ?_ | refine r_meth ?_ | refine r_addI ?_ | refine r_subI ?_ | refine r_negI ?_ | refine r_andI ?_ | refine r_ltI ?_ | refine r_gtI ?_ | refine r_leI ?_ | refine r_geI ?_ | refine r_eqI ?_ | refine r_eqS ?_ | refine r_neI ?_ | refine r_neS ?_ | refine r_is0 ?_ | refine r_is1 ?_ | refine r_is2 ?_ | refine r_is3 ?_ | refine r_isn0 ?_ | refine r_isn1 ?_ | refine r_isn2 ?_ | refine r_isn3 ?_ | refine r_lenT ?_ | refine r_intI ?_ | refine r_absI ?_ | refine r_sl ?_ | refine r_no ?_ | refine r_part ?_ | refine r_asP ?_ | refine r_slT ?_ | refine r_slR ?_ | refine r_iter ?_ | refine r_asT ?_ | refine r_asPt ?_ | refine r_asRo ?_ | refine r_rng1 ?_ | refine r_gNm ?_ | refine r_gIx ?_ | refine r_comp ?_ | refine r_chain ?_ | refine r_chn1 ?_ | refine r_chn0 ?_ | refine r_isi ?_ | refine r_newL ?_ | refine r_ok ?_) | ((with_reducible (first | refine e_var ?_ | refine e_ixT ?_ | refine e_gTp ?_)); refine ⟨_, rfl, ?_⟩) | ((with_reducible (first | refine r_mkT ?_ ?_ | refine r_mkP ?_ ?_ | refine r_mkL ?_ ?_)); exact Nat.le_of_ble_eq_true rfl) | ((with_reducible (first | refine e_mth ?_ | refine e_lenO ?_ | refine e_asO ?_ | refine e_truO ?_ | refine e_tupleO ?_ | refine e_tupleP ?_ | refine e_slO ?_ | refine e_reverse ?_ | refine e_listO ?_)); refine ⟨_, (by assumption), ?_⟩) | ((with_reducible (first | refine e_ixO ?_ | refine e_set ?_)); refine ⟨_, (by assumption), _, rfl, ?_⟩) | ((with_reducible (first | refine r_mulI ?_ ?_)); first | exact mul_ok (Or.inr (by decide)) | exact mul_ok (Or.inl (by decide))) | ((with_reducible (first | refine r_modI ?_ ?_ | refine r_fdvI ?_ ?_ | refine r_powI ?_ ?_)); decide) | dsimp only [endP])
        refine z_nno (by decide) ?_
        repeat (first | with_reducible (first | refine zs_seq ?_ | refine zs_asg ?_ | refine zs_drop ?_ | refine zs_ret ?_ | refine zs_retN ?_ | refine zs_next ?_ | refine zs_brk ?_ | refine zs_cnt ?_ | refine zs_if ?_ | refine zs_for ?_ | refine zs_while ?_ | refine z_true ?_ | refine z_false ?_ | refine r_k ?_ | refine r_op ?_ | refine r_un ?_ | refine r_nil ?_ | refine r_cons ?_ | refine r_tup ?_ | refine r_ptp ?_ | refine r_lst ?_ | refine r_ife ?_ | refine r_if1 ?_ | refine r_if0 ?_ | refine r_and ?_ | refine r_or ?_ | refine r_not ?_ | refine r_bool ?_ | refine r_asB ?_ | refine r_tru ?_ | refine r_truB ?_ | refine r_truI ?_ | refine r_andV ?_ | refine r_orV ?_ | refine r_andV1 ?_ | refine r_andV0 ?_ | refine r_orV1 ?_ | refine r_orV0 ?_ | refine r_notV ?_ | refine r_call ?_ | refine r_meth ?_ | refine r_addI ?_ | refine r_subI ?_ | refine r_negI ?_ | refine r_andI ?_ | refine r_ltI ?_ | refine r_gtI ?_ | refine r_leI ?_ | refine r_geI ?_ | refine r_eqI ?_ | refine r_eqS ?_ | refine r_neI ?_ | refine r_neS ?_ | refine r_is0 ?_ | refine r_is1 ?_ | refine r_is2 ?_ | refine r_is3 ?_ | refine r_isn0 ?_ | refine r_isn1 ?_ | refine r_isn2 ?_ | refine r_isn3 ?_ | refine r_lenT ?_ | refine r_intI ?_ | refine r_absI ?_ | refine r_sl ?_ | refine r_no ?_ | refine r_part ?_ | refine r_asP ?_ | refine r_slT ?_ | refine r_slR ?_ | refine r_iter ?_ | refine r_asT ?_ | refine r_asPt ?_ | refine r_asRo ?_ | refine r_rng1 ?_ | refine r_gNm ?_ | refine r_gIx ?_ | refine r_comp ?_ | refine r_chain ?_ | refine r_chn1 ?_ | refine r_chn0 ?_ | refine r_isi ?_ | refine r_newL ?_ | refine r_ok ?_) | ((with_reducible (first | refine e_var ?_ | refine e_ixT ?_ | refine e_gTp ?_)); refine ⟨_, rfl, ?_⟩) | ((with_reducible (first | refine r_mkT ?_ ?_ | refine r_mkP ?_ ?_ | refine r_mkL ?_ ?_)); exact Nat.le_of_ble_eq_true rfl) | ((with_reducible (first | refine e_mth ?_ | refine e_lenO ?_ | refine e_asO ?_ | refine e_truO ?_ | refine e_tupleO ?_ | refine e_tupleP ?_ | refine e_slO ?_ | refine e_reverse ?_ | refine e_listO ?_)); refine ⟨_, (by assumption), ?_⟩) | ((with_reducible (first | refine e_ixO ?_ | refine e_set ?_)); refine ⟨_, (by assumption), _, rfl, ?_⟩) | ((with_reducible (first | refine r_mulI ?_ ?_)); first | exact mul_ok (Or.inr (by decide)) | exact mul_ok (Or.inl (by decide))) | ((with_reducible (first | refine r_modI ?_ ?_ | refine r_fdvI ?_ ?_ | refine r_powI ?_ ?_)); decide) | dsimp only [endP])
        refine z_nyes (by decide) ?_
        repeat (first | with_reducible (first | refine zs_seq ?_ | refine zs_asg ?_ | refine zs_drop ?_ | refine zs_ret ?_ | refine zs_retN ?_ | refine zs_next ?_ | refine zs_brk ?_ | refine zs_cnt ?_ | refine zs_if ?_ | refine zs_for ?_ | refine zs_while ?_ | refine z_true ?_ | refine z_false ?_ | refine r_k ?_ | refine r_op ?_ | refine r_un ?_ | refine r_nil ?_ | refine r_cons ?_ | refine r_tup ?_ | refine r_ptp ?_ | refine r_lst ?_ | refine r_ife ?_ | refine r_if1 ?_ | refine r_if0 ?_ | refine r_and ?_ | refine r_or ?_ | refine r_not ?_ | refine r_bool ?_ | refine r_asB ?_ | refine r_tru ?_ | refine r_truB ?_ | refine r_truI ?_ | refine r_andV ?_ | refine r_orV ?_ | refine r_andV1 ?_ | refine r_andV0 ?_ | refine r_orV1 ?_ | refine r_orV0 ?_ | refine r_notV ?_ | refine r_call ?_ | refine r_meth ?_ | refine r_addI ?_ | refine r_subI ?_ | refine r_negI ?_ | refine r_andI ?_ | refine r_ltI ?_ | refine r_gtI ?_ | refine r_leI ?_ | refine r_geI ?_ | refine r_eqI ?_ | refine r_eqS ?_ | refine r_neI ?_ | refine r_neS ?_ | refine r_is0 ?_ | refine r_is1 ?_ | refine r_is2 ?_ | refine r_is3 ?_ | refine r_isn0 ?_ | refine r_isn1 ?_ | refine r_isn2 ?_ | refine r_isn3 ?_ | refine r_lenT ?_ | refine r_intI ?_ | refine r_absI ?_ | refine r_sl ?_ | refine r_no ?_ | refine r_part ?_ | refine r_asP ?_ | refine r_slT ?_ | refine r_slR ?_ | refine r_iter ?_ | refine r_asT ?_ | refine r_asPt ?_ | refine r_asRo ?_ | refine r_rng1 ?_ | refine r_gNm ?_ | refine r_gIx ?_ | refine r_comp ?_ | refine r_chain ?_ | refine r_chn1 ?_ | refine r_chn0 ?_ | refine r_isi ?_ | refine r_newL ?_ | refine r_ok ?_) | ((with_reducible (first | refine e_var ?_ | refine e_ixT ?_ | refine e_gTp ?_)); refine ⟨_, rfl, ?_⟩) | ((with_reducible (first | refine r_mkT ?_ ?_ | refine r_mkP ?_ ?_ | refine r_mkL ?_ ?_)); exact Nat.le_of_ble_eq_true rfl) | ((with_reducible (first | refine e_mth ?_ | refine e_lenO ?_ | refine e_asO ?_ | refine e_truO ?_ | refine e_tupleO ?_ | refine e_tupleP ?_ | refine e_slO ?_ | refine e_reverse ?_ | refine e_listO ?_)); refine ⟨_, (by assumption), ?_⟩) | ((with_reducible (first | refine e_ixO ?_ | refine e_set ?_)); refine ⟨_, (by assumption), _, rfl, ?_⟩) | ((with_reducible (first | refine r_mulI ?_ ?_)); first | exact mul_ok (Or.inr (by decide)) | exact mul_ok (Or.inl (by decide))) | ((with_reducible (first | refine r_modI ?_ ?_ | refine r_fdvI ?_ ?_ | refine r_powI ?_ ?_)); decide) | dsimp only [endP])
        exact ⟨_, _, h + 1, ms, rfl, hm, by omega, hlt, hg⟩
    | swap b =>
      rw [show (Sp.swap b).d = D.tup [.str "swap", .int b] from rfl]
      repeat (first | with_reducible (first | refine zs_seq ?_ | refine zs_asg ?_ | refine zs_drop ?_ | refine zs_ret ?_ | refine zs_retN ?_ | refine zs_next ?_ | refine zs_brk ?_ | refine zs_cnt ?_ | refine zs_if ?_ | refine zs_for ?_ | refine zs_while ?_ | refine z_true ?_ | refine z_false ?_ | refine r_k ?_ | refine r_op ?_ | refine r_un ?_ | refine r_nil ?_ | refine r_cons ?_ | refine r_tup ?_ | refine r_ptp ?_ | refine r_lst ?_ | refine r_ife ?_ | refine r_if1 ?_ | refine r_if0 ?_ | refine r_and ?_ | refine r_or ?_ | refine r_not ?_ | refine r_bool ?_ | refine r_asB ?_ | refine r_tru ?_ | refine r_truB ?_ | refine r_truI ?_ | refine r_andV ?_ | refine r_orV ?_ | refine r_andV1 ?_ | refine r_andV0 ?_ | refine r_orV1 ?_ | refine r_orV0 ?_ | refine r_notV ?_ | refine r_call ?_ | refine r_meth ?_ | refine r_addI ?_ | refine r_subI ?_ | refine r_negI ?_ | refine r_andI ?_ | refine r_ltI ?_ | refine r_gtI ?_ | refine r_leI ?_ | refine r_geI ?_ | refine r_eqI ?_ | refine r_eqS ?_ | refine r_neI ?_ | refine r_neS ?_ | refine r_is0 ?_ | refine r_is1 ?_ | refine r_is2 ?_ | refine r_is3 ?_ | refine r_isn0 ?_ | refine r_isn1 ?_ | refine r_isn2 ?_ | refine r_isn3 ?_ | refine r_lenT ?_ | refine r_intI ?_ | refine r_absI ?_ | refine r_sl ?_ | refine r_no ?_ | refine r_part ?_ | refine r_asP ?_ | refine r_slT ?_ | refine r_slR ?_ | refine r_iter ?_ | refine r_asT ?_ | refine r_asPt ?_ | refine r_asRo ?_ | refine r_rng1 ?_ | refine r_gNm ?_ | refine r_gIx ?_ | refine r_comp ?_ | refine r_chain ?_ | refine r_chn1 ?_ | refine r_chn0 ?_ | refine r_isi ?_ | refine r_newL ?_ | refine r_ok ?_) | ((with_reducible (first | refine e_var ?_ | refine e_ixT ?_ | refine e_gTp ?_)); refine ⟨_, rfl, ?_⟩) | ((with_reducible (first | refine r_mkT ?_ ?_ | refine r_mkP ?_ ?_ | refine r_mkL ?_ ?_)); exact Nat.le_of_ble_eq_true rfl) | ((with_reducible (first | refine e_mth ?_ | refine e_lenO ?_ | refine e_asO ?_ | refine e_truO ?_ | refine e_tupleO ?_ | refine e_tupleP ?_ | refine e_slO ?_ | refine e_reverse ?_ | refine e_listO ?_)); refine ⟨_, (by assumption), ?_⟩) | ((with_reducible (first | refine e_ixO ?_ | refine e_set ?_)); refine ⟨_, (by assumption), _, rfl, ?_⟩) | ((with_reducible (first | refine r_mulI ?_ ?_)); first | exact mul_ok (Or.inr (by decide)) | exact mul_ok (Or.inl (by decide))) | ((with_reducible (first | refine r_modI ?_ ?_ | refine r_fdvI ?_ ?_ | refine r_powI ?_ ?_)); decide) | dsimp only [endP])
      refine r_nyes (by decide) ?_
      repeat (first | with_reducible (first | refine zs_seq ?_ | refine zs_asg ?_ | refine zs_drop ?_ | refine zs_ret ?_ | refine zs_retN ?_ | refine zs_next ?_ | refine zs_brk ?_ | refine zs_cnt ?_ | refine zs_if ?_ | refine zs_for ?_ | refine zs_while ?_ | refine z_true ?_ | refine z_false ?_ | refine r_k ?_ | refine r_op ?_ | refine r_un ?_ | refine r_nil ?_ | refine r_cons ?_ | refine r_tup ?_ | refine r_ptp ?_ | refine r_lst ?_ | refine r_ife ?_ | refine r_if1 ?_ | refine r_if0 ?_ | refine r_and ?_ | refine r_or ?_ | refine r_not ?_ | refine r_bool ?_ | refine r_asB ?_ | refine r_tru ?_ | refine r_truB ?_ | refine r_truI ?_ | refine r_andV ?_ | refine r_orV ?_ | refine r_andV1 ?_ | refine r_andV0 ?_ | refine r_orV1 ?_ | refine r_orV0 ?_ | refine r_notV ?_ | refine r_call ?_ | refine r_meth ?_ | refine r_addI ?_ | refine r_subI ?_ | refine r_negI ?_ | refine r_andI ?_ | refine r_ltI ?_ | refine r_gtI ?_ | refine r_leI ?_ | refine r_geI ?_ | refine r_eqI ?_ | refine r_eqS ?_ | refine r_neI ?_ | refine r_neS ?_ | refine r_is0 ?_ | refine r_is1 ?_ | refine r_is2 ?_ | refine r_is3 ?_ | refine r_isn0 ?_ | refine r_isn1 ?_ | refine r_isn2 ?_ | refine r_isn3 ?_ | refine r_lenT ?_ | refine r_intI ?_ | refine r_absI ?_ | refine r_sl ?_ | refine r_no ?_ | refine r_part ?_ | refine r_asP ?_ | refine r_slT ?_ | refine r_slR ?_ | refine r_iter ?_ | refine r_asT ?_ | refine r_asPt ?_ | refine r_asRo ?_ | refine r_rng1 ?_ | refine r_gNm ?_ | refine r_gIx ?_ | refine r_comp ?_ | refine r_chain ?_ | refine r_chn1 ?_ | refine r_chn0 ?_ | refine r_isi ?_ | refine r_newL ?_ | refine r_ok ?_) | ((with_reducible (first | refine e_var ?_ | refine e_ixT ?_ | refine e_gTp ?_)); refine ⟨_, rfl, ?_⟩) | ((with_reducible (first | refine r_mkT ?_ ?_ | refine r_mkP ?_ ?_ | refine r_mkL ?_ ?_)); exact Nat.le_of_ble_eq_true rfl) | ((with_reducible (first | refine e_mth ?_ | refine e_lenO ?_ | refine e_asO ?_ | refine e_truO ?_ | refine e_tupleO ?_ | refine e_tupleP ?_ | refine e_slO ?_ | refine e_reverse ?_ | refine e_listO ?_)); refine ⟨_, (by assumption), ?_⟩) | ((with_reducible (first | refine e_ixO ?_ | refine e_set ?_)); refine ⟨_, (by assumption), _, rfl, ?_⟩) | ((with_reducible (first | refine r_mulI ?_ ?_)); first | exact mul_ok (Or.inr (by decide)) | exact mul_ok (Or.inl (by decide))) | ((with_reducible (first | refine r_modI ?_ ?_ | refine r_fdvI ?_ ?_ | refine r_powI ?_ ?_)); decide) | dsimp only [endP])
      refine z_dec (fun hc => ?_) (fun hc => ?_)
      · have e : ns[h]? = none := List.getElem?_eq_none (by simp at hc; omega)
        simp only [go, e] at hg
        subst hg
        refine zs_raise ?_
        repeat (first | with_reducible (first | refine zs_seq ?_ | refine zs_asg ?_ | refine zs_drop ?_ | refine zs_ret ?_ | refine zs_retN ?_ | refine zs_next ?_ | refine zs_brk ?_ | refine zs_cnt ?_ | refine zs_if ?_ | refine zs_for ?_ | refine zs_while ?_ | refine z_true ?_ | refine z_false ?_ | refine r_k ?_ | refine r_op ?_ | refine r_un ?_ | refine r_nil ?_ | refine r_cons ?_ | refine r_tup ?_ | refine r_ptp ?_ | refine r_lst ?_ | refine r_ife ?_ | refine r_if1 ?_ | refine r_if0 ?_ | refine r_and ?_ | refine r_or ?_ | refine r_not ?_ | refine r_bool ?_ | refine r_asB ?_ | refine r_tru ?_ | refine r_truB ?_ | refine r_truI ?_ | refine r_andV ?_ | refine r_orV ?_ | refine r_andV1 ?_ | refine r_andV0 ?_ | refine r_orV1 ?_ | refine r_orV0 ?_ | refine r_notV ?_ | refine r_call ?_ | refine r_meth ?_ | refine r_addI ?_ | refine r_subI ?_ | refine r_negI ?_ | refine r_andI ?_ | refine r_ltI ?_ | refine r_gtI ?_ | refine r_leI ?_ | refine r_geI ?_ | refine r_eqI ?_ | refine r_eqS ?_ | refine r_neI ?_ | refine r_neS ?_ | refine r_is0 ?_ | refine r_is1 ?_ | refine r_is2 ?_ | refine r_is3 ?_ | refine r_isn0 ?_ | refine r_isn1 ?_ | refine r_isn2 ?_ | refine r_isn3 ?_ | refine r_lenT ?_ | refine r_intI ?_ | refine r_absI ?_ | refine r_sl ?_ | refine r_no ?_ | refine r_part ?_ | refine r_asP ?_ | refine r_slT ?_ | refine r_slR ?_ | refine r_iter ?_ | refine r_asT ?_ | refine r_asPt ?_ | refine r_asRo ?_ | refine r_rng1 ?_ | refine r_gNm ?_ | refine r_gIx ?_ | refine r_comp ?_ | refine r_chain ?_ | refine r_chn1 ?_ | refine r_chn0 ?_ | refine r_isi ?_ | refine r_newL ?_ | refine r_ok ?_) | ((with_reducible (first | refine e_var ?_ | refine e_ixT ?_ | refine e_gTp ?_)); refine ⟨_, rfl, ?_⟩) | ((with_reducible (first | refine r_mkT ?_ ?_ | refine r_mkP ?_ ?_ | refine r_mkL ?_ ?_)); exact Nat.le_of_ble_eq_true rfl) | ((with_reducible (first | refine e_mth ?_ | refine e_lenO ?_ | refine e_asO ?_ | refine e_truO ?_ | refine e_tupleO ?_ | refine e_tupleP ?_ | refine e_slO ?_ | refine e_reverse ?_ | refine e_listO ?_)); refine ⟨_, (by assumption), ?_⟩) | ((with_reducible (first | refine e_ixO ?_ | refine e_set ?_)); refine ⟨_, (by assumption), _, rfl, ?_⟩) | ((with_reducible (first | refine r_mulI ?_ ?_)); first | exact mul_ok (Or.inr (by decide)) | exact mul_ok (Or.inl (by decide))) | ((with_reducible (first | refine r_modI ?_ ?_ | refine r_fdvI ?_ ?_ | refine r_powI ?_ ?_)); decide) | dsimp only [endP])
        exact ⟨rfl, by decide, i, rfl, rfl⟩
      · have hlt : h < ns.length := by simp at hc; omega
        have e : ns[h]? = some ns[h] := List.getElem?_eq_getElem hlt
        simp only [go, e] at hg
        repeat (first | with_reducible (first | refine zs_seq ?_ | refine zs_asg ?_ | refine zs_drop ?_ | refine zs_ret ?_ | refine zs_retN ?_ | refine zs_next ?_ | refine zs_brk ?_ | refine zs_cnt ?_ | refine zs_if ?_ | refine zs_for ?_ | refine zs_while ?_ | refine z_true ?_ | refine z_false ?_ | refine r_k ?_ | refine r_op ?_ | refine r_un ?_ | refine r_nil ?_ | refine r_cons ?_ | refine r_tup ?_ | refine r_ptp ?_ | refine r_lst ?_ | refine r_ife ?_ | refine r_if1 ?_ | refine r_if0 ?_ | refine r_and ?_ | refine r_or ?_ | refine r_not ?_ | refine r_bool ?_ | refine r_asB ?_ | refine r_tru ?_ | refine r_truB ?_ | refine r_truI ?_ | refine r_andV ?_ | refine r_orV ?_ | refine r_andV1 ?_ | refine r_andV0 ?_ | refine r_orV1 ?_ | refine r_orV0 ?_ | refine r_notV ?_ | refine r_call ?_ | refine r_meth ?_ | refine r_addI ?_ | refine r_subI ?_ | refine r_negI ?_ | refine r_andI ?_ | refine r_ltI ?_ | refine r_gtI ?_ | refine r_leI ?_ | refine r_geI ?_ | refine r_eqI ?_ | refine r_eqS ?_ | refine r_neI ?_ | refine r_neS ?_ | refine r_is0 ?_ | refine r_is1 ?_ | refine r_is2 ?_ | refine r_is3 ?_ | refine r_isn0 ?_ | refine r_isn1 ?_ | refine r_isn2 ?_ | refine r_isn3 ?_ | refine r_lenT ?_ | refine r_intI ?_ | refine r_absI ?_ | refine r_sl ?_ | refine r_no ?_ | refine r_part ?_ | refine r_asP ?_ | refine r_slT ?_ | refine r_slR ?_ | refine r_iter ?_ | refine r_asT ?_ | refine r_asPt ?_ | refine r_asRo ?_ | refine r_rng1 ?_ | refine r_gNm ?_ | refine r_gIx ?_ | refine r_comp ?_ | refine r_chain ?_ | refine r_chn1 ?_ | refine r_chn0 ?_ | refine r_isi ?_ | refine r_newL ?_ | refine r_ok ?_) | ((with_reducible (first | refine e_var ?_ | refine e_ixT ?_ | refine e_gTp ?_)); refine ⟨_, rfl, ?_⟩) | ((with_reducible (first | refine r_mkT ?_ ?_ | refine r_mkP ?_ ?_ | refine r_mkL ?_ ?_)); exact Nat.le_of_ble_eq_true rfl) | ((with_reducible (first | refine e_mth ?_ | refine e_lenO ?_ | refine e_asO ?_ | refine e_truO ?_ | refine e_tupleO ?_ | refine e_tupleP ?_ | refine e_slO ?_ | refine e_reverse ?_ | refine e_listO ?_)); refine ⟨_, (by assumption), ?_⟩) | ((with_reducible (first | refine e_ixO ?_ | refine e_set ?_)); refine ⟨_, (by assumption), _, rfl, ?_⟩) | ((with_reducible (first | refine r_mulI ?_ ?_)); first | exact mul_ok (Or.inr (by decide)) | exact mul_ok (Or.inl (by decide))) | ((with_reducible (first | refine r_modI ?_ ?_ | refine r_fdvI ?_ ?_ | refine r_powI ?_ ?_)); decide) | dsimp only [endP])
        refine z_no (by decide) ?_
        repeat (first | with_reducible (first | refine zs_seq ?_ | refine zs_asg ?_ | refine zs_drop ?_ | refine zs_ret ?_ | refine zs_retN ?_ | refine zs_next ?_ | refine zs_brk ?_ | refine zs_cnt ?_ | refine zs_if ?_ | refine zs_for ?_ | refine zs_while ?_ | refine z_true ?_ | refine z_false ?_ | refine r_k ?_ | refine r_op ?_ | refine r_un ?_ | refine r_nil ?_ | refine r_cons ?_ | refine r_tup ?_ | refine r_ptp ?_ | refine r_lst ?_ | refine r_ife ?_ | refine r_if1 ?_ | refine r_if0 ?_ | refine r_and ?_ | refine r_or ?_ | refine r_not ?_ | refine r_bool ?_ | refine r_asB ?_ | refine r_tru ?_ | refine r_truB ?_ | refine r_truI ?_ | refine r_andV ?_ | refine r_orV ?_ | refine r_andV1 ?_ | refine r_andV0 ?_ | refine r_orV1 ?_ | refine r_orV0 ?_ | refine r_notV ?_ | refine r_call ?_ | refine r_meth ?_ | refine r_addI ?_ | refine r_subI ?_ | refine r_negI ?_ | refine r_andI ?_ | refine r_ltI ?_ | refine r_gtI ?_ | refine r_leI ?_ | refine r_geI ?_ | refine r_eqI ?_ | refine r_eqS ?_ | refine r_neI ?_ | refine r_neS ?_ | refine r_is0 ?_ | refine r_is1 ?_ | refine r_is2 ?_ | refine r_is3 ?_ | refine r_isn0 ?_ | refine r_isn1 ?_ | refine r_isn2 ?_ | refine r_isn3 ?_ | refine r_lenT ?_ | refine r_intI ?_ | refine r_absI ?_ | refine r_sl ?_ | refine r_no ?_ | refine r_part ?_ | refine r_asP ?_ | refine r_slT ?_ | refine r_slR ?_ | refine r_iter ?_ | refine r_asT ?_ | refine r_asPt ?_ | refine r_asRo ?_ | refine r_rng1 ?_ | refine r_gNm ?_ | refine r_gIx ?_ | refine r_comp ?_ | refine r_chain ?_ | refine r_chn1 ?_ | refine r_chn0 ?_ | refine r_isi ?_ | refine r_newL ?_ | refine r_ok ?_) | ((with_reducible (first | refine e_var ?_ | refine e_ixT ?_ | refine e_gTp ?_)); refine ⟨_, rfl, ?_⟩) | ((with_reducible (first | refine r_mkT ?_ ?_ | refine r_mkP ?_ ?_ | refine r_mkL ?_ ?_)); exact Nat.le_of_ble_eq_true rfl) | ((with_reducible (first | refine e_mth ?_ | refine e_lenO ?_ | refine e_asO ?_ | refine e_truO ?_ | refine e_tupleO ?_ | refine e_tupleP ?_ | refine e_slO ?_ | refine e_reverse ?_ | refine e_listO ?_)); refine ⟨_, (by assumption), ?_⟩) | ((with_reducible (first | refine e_ixO ?_ | refine e_set ?_)); refine ⟨_, (by assumption), _, rfl, ?_⟩) | ((with_reducible (first | refine r_mulI ?_ ?_)); first | exact mul_ok (Or.inr (by decide)) | exact mul_ok (Or.inl (by decide))) | ((with_reducible (first | refine r_modI ?_ ?_ | refine r_fdvI ?_ ?_ | refine r_powI ?_ ?_)); decide) | dsimp only [endP])
        refine z_nyes (by decide) ?_
        repeat (first | with_reducible (first | refine zs_seq ?_ | refine zs_asg ?_ | refine zs_drop ?_ | refine zs_ret ?_ | refine zs_retN ?_ | refine zs_next ?_ | refine zs_brk ?_ | refine zs_cnt ?_ | refine zs_if ?_ | refine zs_for ?_ | refine zs_while ?_ | refine z_true ?_ | refine z_false ?_ | refine r_k ?_ | refine r_op ?_ | refine r_un ?_ | refine r_nil ?_ | refine r_cons ?_ | refine r_tup ?_ | refine r_ptp ?_ | refine r_lst ?_ | refine r_ife ?_ | refine r_if1 ?_ | refine r_if0 ?_ | refine r_and ?_ | refine r_or ?_ | refine r_not ?_ | refine r_bool ?_ | refine r_asB ?_ | refine r_tru ?_ | refine r_truB ?_ | refine r_truI ?_ | refine r_andV ?_ | refine r_orV ?_ | refine r_andV1 ?_ | refine r_andV0 ?_ | refine r_orV1 ?_ | refine r_orV0 ?_ | refine r_notV ?_ | refine r_call ?_ | refine r_meth ?_ | refine r_addI ?_ | refine r_subI ?_ | refine r_negI ?_ | refine r_andI ?_ | refine r_ltI ?_ | refine r_gtI ?_ | refine r_leI ?_ | refine r_geI ?_ | refine r_eqI ?_ | refine r_eqS ?_ | refine r_neI ?_ | refine r_neS ?_ | refine r_is0 ?_ | refine r_is1 ?_ | refine r_is2 ?_ | refine r_is3 ?_ | refine r_isn0 ?_ | refine r_isn1 ?_ | refine r_isn2 ?_ | refine r_isn3 ?_ | refine r_lenT ?_ | refine r_intI ?_ | refine r_absI ?_ | refine r_sl ?_ | refine r_no ?_ | refine r_part ?_ | refine r_asP ?_ | refine r_slT ?_ | refine r_slR ?_ | refine r_iter ?_ | refine r_asT ?_ | refine r_asPt ?_ | refine r_asRo ?_ | refine r_rng1 ?_ | refine r_gNm ?_ | refine r_gIx ?_ | refine r_comp ?_ | refine r_chain ?_ | refine r_chn1 ?_ | refine r_chn0 ?_ | refine r_isi ?_ | refine r_newL ?_ | refine r_ok ?_) | ((with_reducible (first | refine e_var ?_ | refine e_ixT ?_ | refine e_gTp ?_)); refine ⟨_, rfl, ?_⟩) | ((with_reducible (first | refine r_mkT ?_ ?_ | refine r_mkP ?_ ?_ | refine r_mkL ?_ ?_)); exact Nat.le_of_ble_eq_true rfl) | ((with_reducible (first | refine e_mth ?_ | refine e_lenO ?_ | refine e_asO ?_ | refine e_truO ?_ | refine e_tupleO ?_ | refine e_tupleP ?_ | refine e_slO ?_ | refine e_reverse ?_ | refine e_listO ?_)); refine ⟨_, (by assumption), ?_⟩) | ((with_reducible (first | refine e_ixO ?_ | refine e_set ?_)); refine ⟨_, (by assumption), _, rfl, ?_⟩) | ((with_reducible (first | refine r_mulI ?_ ?_)); first | exact mul_ok (Or.inr (by decide)) | exact mul_ok (Or.inl (by decide))) | ((with_reducible (first | refine r_modI ?_ ?_ | refine r_fdvI ?_ ?_ | refine r_powI ?_ ?_)); decide) | dsimp only [endP])
        refine r_append hm (lt_line (by simp; omega)) ?_
        repeat (first | with_reducible (first | refine zs_seq ?_ | refine zs_asg ?_ | refine zs_drop ?_ | refine zs_ret ?_ | refine zs_retN ?_ | refine zs_next ?_ | refine zs_brk ?_ | refine zs_cnt ?_ | refine zs_if ?_ | refine zs_for ?_ | refine zs_while ?_ | refine z_true ?_ | refine z_false ?_ | refine r_k ?_ | refine r_op ?_ | refine r_un ?_ | refine r_nil ?_ | refine r_cons ?_ | refine r_tup ?_ | refine r_ptp ?_ | refine r_lst ?_ | refine r_ife ?_ | refine r_if1 ?_ | refine r_if0 ?_ | refine r_and ?_ | refine r_or ?_ | refine r_not ?_ | refine r_bool ?_ | refine r_asB ?_ | refine r_tru ?_ | refine r_truB ?_ | refine r_truI ?_ | refine r_andV ?_ | refine r_orV ?_ | refine r_andV1 ?_ | refine r_andV0 ?_ | refine r_orV1 ?_ | refine r_orV0 ?_ | refine r_notV ?_ | refine r_call ?_ | refine r_meth ?_ | refine r_addI ?_ | refine r_subI ?_ | refine r_negI ?_ | refine r_andI ?_ | refine r_ltI ?_ | refine r_gtI ?_ | refine r_leI ?_ | refine r_geI ?_ | refine r_eqI ?_ | refine r_eqS ?_ | refine r_neI ?_ | refine r_neS ?_ | refine r_is0 ?_ | refine r_is1 ?_ | refine r_is2 ?_ | refine r_is3 ?_ | refine r_isn0 ?_ | refine r_isn1 ?_ | refine r_isn2 ?_ | refine r_isn3 ?_ | refine r_lenT ?_ | refine r_intI ?_ | refine r_absI ?_ | refine r_sl ?_ | refine r_no ?_ | refine r_part ?_ | refine r_asP ?_ | refine r_slT ?_ | refine r_slR ?_ | refine r_iter ?_ | refine r_asT ?_ | refine r_asPt ?_ | refine r_asRo ?_ | refine r_rng1 ?_ | refine r_gNm ?_ | refine r_gIx ?_ | refine r_comp ?_ | refine r_chain ?_ | refine r_chn1 ?_ | refine r_chn0 ?_ | refine r_isi ?_ | refine r_newL ?_ | refine r_ok ?_) | ((with_reducible (first | refine e_var ?_ | refine e_ixT ?_ | refine e_gTp ?_)); refine ⟨_, rfl, ?_⟩) | ((with_reducible (first | refine r_mkT ?_ ?_ | refine r_mkP ?_ ?_ | refine r_mkL ?_ ?_)); exact Nat.le_of_ble_eq_true rfl) | ((with_reducible (first | refine e_mth ?_ | refine e_lenO ?_ | refine e_asO ?_ | refine e_truO ?_ | refine e_tupleO ?_ | refine e_tupleP ?_ | refine e_slO ?_ | refine e_reverse ?_ | refine e_listO ?_)); refine ⟨_, (by assumption), ?_⟩) | ((with_reducible (first | refine e_ixO ?_ | refine e_set ?_)); refine ⟨_, (by assumption), _, rfl, ?_⟩) | ((with_reducible (first | refine r_mulI ?_ ?_)); first | exact mul_ok (Or.inr (by decide)) | exact mul_ok (Or.inl (by decide))) | ((with_reducible (first | refine r_modI ?_ ?_ | refine r_fdvI ?_ ?_ | refine r_powI ?_ ?_)); decide) | dsimp only [endP])
        refine z_nyes (by decide) ?_
        repeat (first | with_reducible (first | refine zs_seq ?_ | refine zs_asg ?_ | refine zs_drop ?_ | refine zs_ret ?_ | refine zs_retN ?_ | refine zs_next ?_ | refine zs_brk ?_ | refine zs_cnt ?_ | refine zs_if ?_ | refine zs_for ?_ | refine zs_while ?_ | refine z_true ?_ | refine z_false ?_ | refine r_k ?_ | refine r_op ?_ | refine r_un ?_ | refine r_nil ?_ | refine r_cons ?_ | refine r_tup ?_ | refine r_ptp ?_ | refine r_lst ?_ | refine r_ife ?_ | refine r_if1 ?_ | refine r_if0 ?_ | refine r_and ?_ | refine r_or ?_ | refine r_not ?_ | refine r_bool ?_ | refine r_asB ?_ | refine r_tru ?_ | refine r_truB ?_ | refine r_truI ?_ | refine r_andV ?_ | refine r_orV ?_ | refine r_andV1 ?_ | refine r_andV0 ?_ | refine r_orV1 ?_ | refine r_orV0 ?_ | refine r_notV ?_ | refine r_call ?_ | refine r_meth ?_ | refine r_addI ?_ | refine r_subI ?_ | refine r_negI ?_ | refine r_andI ?_ | refine r_ltI ?_ | refine r_gtI ?_ | refine r_leI ?_ | refine r_geI ?_ | refine r_eqI ?_ | refine r_eqS ?_ | refine r_neI ?_ | refine r_neS ?_ | refine r_is0 ?_ | refine r_is1 ?_ | refine r_is2 ?_ | refine r_is3 ?_ | refine r_isn0 ?_ | refine r_isn1 ?_ | refine r_isn2 ?_ | refine r_isn3 ?_ | refine r_lenT ?_ | refine r_intI ?_ | refine r_absI ?_ | refine r_sl ?_ | refine r_no ?_ | refine r_part ?_ | refine r_asP ?_ | refine r_slT ?_ | refine r_slR ?_ | refine r_iter ?_ | refine r_asT ?_ | refine r_asPt ?_ | refine r_asRo ?_ | refine r_rng1 ?_ | refine r_gNm ?_ | refine r_gIx ?_ | refine r_comp ?_ | refine r_chain ?_ | refine r_chn1 ?_ | refine r_chn0 ?_ | refine r_isi ?_ | refine r_newL ?_ | refine r_ok ?_) | ((with_reducible (first | refine e_var ?_ | refine e_ixT ?_ | refine e_gTp ?_)); refine ⟨_, rfl, ?_⟩) | ((with_reducible (first | refine r_mkT ?_ ?_ | refine r_mkP ?_ ?_ | refine r_mkL ?_ ?_)); exact Nat.le_of_ble_eq_true rfl) | ((with_reducible (first | refine e_mth ?_ | refine e_lenO ?_ | refine e_asO ?_ | refine e_truO ?_ | refine e_tupleO ?_ | refine e_tupleP ?_ | refine e_slO ?_ | refine e_reverse ?_ | refine e_listO ?_)); refine ⟨_, (by assumption), ?_⟩) | ((with_reducible (first | refine e_ixO ?_ | refine e_set ?_)); refine ⟨_, (by assumption), _, rfl, ?_⟩) | ((with_reducible (first | refine r_mulI ?_ ?_)); first | exact mul_ok (Or.inr (by decide)) | exact mul_ok (Or.inl (by decide))) | ((with_reducible (first | refine r_modI ?_ ?_ | refine r_fdvI ?_ ?_ | refine r_powI ?_ ?_)); decide) | dsimp only [endP])
        exact ⟨_, _, h + 1, ms ++ [b], rfl, by rw [set_at hm]; simp, by simp; omega, hlt, hg⟩
  · rintro _ s ⟨y, z, h, ms, rfl, hm, hl, hh, hg⟩
    refine ⟨itE_fin, ?_⟩
    rw [List.drop_length] at hg
    rw [show go ns [] ss.length h ms = if h < ns.length then .bad ss.length else .made ms from rfl] at hg
    repeat (first | with_reducible (first | refine zs_seq ?_ | refine zs_asg ?_ | refine zs_drop ?_ | refine zs_ret ?_ | refine zs_retN ?_ | refine zs_next ?_ | refine zs_brk ?_ | refine zs_cnt ?_ | refine zs_if ?_ | refine zs_for ?_ | refine zs_while ?_ | refine z_true ?_ | refine z_false ?_ | refine r_k ?_ | refine r_op ?_ | refine r_un ?_ | refine r_nil ?_ | refine r_cons ?_ | refine r_tup ?_ | refine r_ptp ?_ | refine r_lst ?_ | refine r_ife ?_ | refine r_if1 ?_ | refine r_if0 ?_ | refine r_and ?_ | refine r_or ?_ | refine r_not ?_ | refine r_bool ?_ | refine r_asB ?_ | refine r_tru ?_ | refine r_truB ?_ | refine r_truI ?_ | refine r_andV ?_ | refine r_orV ?_ | refine r_andV1 ?_ | refine r_andV0 ?_ | refine r_orV1 ?_ | refine r_orV0 ?_ | refine r_notV ?_ | refine r_call ?_ | refine r_meth ?_ | refine r_addI ?_ | refine r_subI ?_ | refine r_negI ?_ | refine r_andI ?_ | refine r_ltI ?_ | refine r_gtI ?_ | refine r_leI ?_ | refine r_geI ?_ | refine r_eqI ?_ | refine r_eqS ?_ | refine r_neI ?_ | refine r_neS ?_ | refine r_is0 ?_ | refine r_is1 ?_ | refine r_is2 ?_ | refine r_is3 ?_ | refine r_isn0 ?_ | refine r_isn1 ?_ | refine r_isn2 ?_ | refine r_isn3 ?_ | refine r_lenT ?_ | refine r_intI ?_ | refine r_absI ?_ | refine r_sl ?_ | refine r_no ?_ | refine r_part ?_ | refine r_asP ?_ | refine r_slT ?_ | refine r_slR ?_ | refine r_iter ?_ | refine r_asT ?_ | refine r_asPt ?_ | refine r_asRo ?_ | refine r_rng1 ?_ | refine r_gNm ?_ | refine r_gIx ?_ | refine r_comp ?_ | refine r_chain ?_ | refine r_chn1 ?_ | refine r_chn0 ?_ | refine r_isi ?_ | refine r_newL ?_ | refine r_ok ?_) | ((with_reducible (first | refine e_var ?_ | refine e_ixT ?_ | refine e_gTp ?_)); refine ⟨_, rfl, ?_⟩) | ((with_reducible (first | refine r_mkT ?_ ?_ | refine r_mkP ?_ ?_ | refine r_mkL ?_ ?_)); exact Nat.le_of_ble_eq_true rfl) | ((with_reducible (first | refine e_mth ?_ | refine e_lenO ?_ | refine e_asO ?_ | refine e_truO ?_ | refine e_tupleO ?_ | refine e_tupleP ?_ | refine e_slO ?_ | refine e_reverse ?_ | refine e_listO ?_)); refine ⟨_, (by assumption), ?_⟩) | ((with_reducible (first | refine e_ixO ?_ | refine e_set ?_)); refine ⟨_, (by assumption), _, rfl, ?_⟩) | ((with_reducible (first | refine r_mulI ?_ ?_)); first | exact mul_ok (Or.inr (by decide)) | exact mul_ok (Or.inl (by decide))) | ((with_reducible (first | refine r_modI ?_ ?_ | refine r_fdvI ?_ ?_ | refine r_powI ?_ ?_)); decide) | dsimp only [endP])
    refine z_dec (fun hc => ?_) (fun hc => ?_)
    · rw [if_pos (by simpa using hc)] at hg
      subst hg
      refine zs_raise ?_
      repeat (first | with_reducible (first | refine zs_seq ?_ | refine zs_asg ?_ | refine zs_drop ?_ | refine zs_ret ?_ | refine zs_retN ?_ | refine zs_next ?_ | refine zs_brk ?_ | refine zs_cnt ?_ | refine zs_if ?_ | refine zs_for ?_ | refine zs_while ?_ | refine z_true ?_ | refine z_false ?_ | refine r_k ?_ | refine r_op ?_ | refine r_un ?_ | refine r_nil ?_ | refine r_cons ?_ | refine r_tup ?_ | refine r_ptp ?_ | refine r_lst ?_ | refine r_ife ?_ | refine r_if1 ?_ | refine r_if0 ?_ | refine r_and ?_ | refine r_or ?_ | refine r_not ?_ | refine r_bool ?_ | refine r_asB ?_ | refine r_tru ?_ | refine r_truB ?_ | refine r_truI ?_ | refine r_andV ?_ | refine r_orV ?_ | refine r_andV1 ?_ | refine r_andV0 ?_ | refine r_orV1 ?_ | refine r_orV0 ?_ | refine r_notV ?_ | refine r_call ?_ | refine r_meth ?_ | refine r_addI ?_ | refine r_subI ?_ | refine r_negI ?_ | refine r_andI ?_ | refine r_ltI ?_ | refine r_gtI ?_ | refine r_leI ?_ | refine r_geI ?_ | refine r_eqI ?_ | refine r_eqS ?_ | refine r_neI ?_ | refine r_neS ?_ | refine r_is0 ?_ | refine r_is1 ?_ | refine r_is2 ?_ | refine r_is3 ?_ | refine r_isn0 ?_ | refine r_isn1 ?_ | refine r_isn2 ?_ | refine r_isn3 ?_ | refine r_lenT ?_ | refine r_intI ?_ | refine r_absI ?_ | refine r_sl ?_ | refine r_no ?_ | refine r_part ?_ | refine r_asP ?_ | refine r_slT ?_ | refine r_slR ?_ | refine r_iter ?_ | refine r_asT ?_ | refine r_asPt ?_ | refine r_asRo ?_ | refine r_rng1 ?_ | refine r_gNm ?_ | refine r_gIx ?_ | refine r_comp ?_ | refine r_chain ?_ | refine r_chn1 ?_ | refine r_chn0 ?_ | refine r_isi ?_ | refine r_newL ?_ | refine r_ok ?_) | ((with_reducible (first | refine e_var ?_ | refine e_ixT ?_ | refine e_gTp ?_)); refine ⟨_, rfl, ?_⟩) | ((with_reducible (first | refine r_mkT ?_ ?_ | refine r_mkP ?_ ?_ | refine r_mkL ?_ ?_)); exact Nat.le_of_ble_eq_true rfl) | ((with_reducible (first | refine e_mth ?_ | refine e_lenO ?_ | refine e_asO ?_ | refine e_truO ?_ | refine e_tupleO ?_ | refine e_tupleP ?_ | refine e_slO ?_ | refine e_reverse ?_ | refine e_listO ?_)); refine ⟨_, (by assumption), ?_⟩) | ((with_reducible (first | refine e_ixO ?_ | refine e_set ?_)); refine ⟨_, (by assumption), _, rfl, ?_⟩) | ((with_reducible (first | refine r_mulI ?_ ?_)); first | exact mul_ok (Or.inr (by decide)) | exact mul_ok (Or.inl (by decide))) | ((with_reducible (first | refine r_modI ?_ ?_ | refine r_fdvI ?_ ?_ | refine r_powI ?_ ?_)); decide) | dsimp only [endP])
      exact ⟨rfl, by decide, ss.length, rfl, by simp [xkL, bs]⟩
    · repeat (first | with_reducible (first | refine zs_seq ?_ | refine zs_asg ?_ | refine zs_drop ?_ | refine zs_ret ?_ | refine zs_retN ?_ | refine zs_next ?_ | refine zs_brk ?_ | refine zs_cnt ?_ | refine zs_if ?_ | refine zs_for ?_ | refine zs_while ?_ | refine z_true ?_ | refine z_false ?_ | refine r_k ?_ | refine r_op ?_ | refine r_un ?_ | refine r_nil ?_ | refine r_cons ?_ | refine r_tup ?_ | refine r_ptp ?_ | refine r_lst ?_ | refine r_ife ?_ | refine r_if1 ?_ | refine r_if0 ?_ | refine r_and ?_ | refine r_or ?_ | refine r_not ?_ | refine r_bool ?_ | refine r_asB ?_ | refine r_tru ?_ | refine r_truB ?_ | refine r_truI ?_ | refine r_andV ?_ | refine r_orV ?_ | refine r_andV1 ?_ | refine r_andV0 ?_ | refine r_orV1 ?_ | refine r_orV0 ?_ | refine r_notV ?_ | refine r_call ?_ | refine r_meth ?_ | refine r_addI ?_ | refine r_subI ?_ | refine r_negI ?_ | refine r_andI ?_ | refine r_ltI ?_ | refine r_gtI ?_ | refine r_leI ?_ | refine r_geI ?_ | refine r_eqI ?_ | refine r_eqS ?_ | refine r_neI ?_ | refine r_neS ?_ | refine r_is0 ?_ | refine r_is1 ?_ | refine r_is2 ?_ | refine r_is3 ?_ | refine r_isn0 ?_ | refine r_isn1 ?_ | refine r_isn2 ?_ | refine r_isn3 ?_ | refine r_lenT ?_ | refine r_intI ?_ | refine r_absI ?_ | refine r_sl ?_ | refine r_no ?_ | refine r_part ?_ | refine r_asP ?_ | refine r_slT ?_ | refine r_slR ?_ | refine r_iter ?_ | refine r_asT ?_ | refine r_asPt ?_ | refine r_asRo ?_ | refine r_rng1 ?_ | refine r_gNm ?_ | refine r_gIx ?_ | refine r_comp ?_ | refine r_chain ?_ | refine r_chn1 ?_ | refine r_chn0 ?_ | refine r_isi ?_ | refine r_newL ?_ | refine r_ok ?_) | ((with_reducible (first | refine e_var ?_ | refine e_ixT ?_ | refine e_gTp ?_)); refine ⟨_, rfl, ?_⟩) | ((with_reducible (first | refine r_mkT ?_ ?_ | refine r_mkP ?_ ?_ | refine r_mkL ?_ ?_)); exact Nat.le_of_ble_eq_true rfl) | ((with_reducible (first | refine e_mth ?_ | refine e_lenO ?_ | refine e_asO ?_ | refine e_truO ?_ | refine e_tupleO ?_ | refine e_tupleP ?_ | refine e_slO ?_ | refine e_reverse ?_ | refine e_listO ?_)); refine ⟨_, (by assumption), ?_⟩) | ((with_reducible (first | refine e_ixO ?_ | refine e_set ?_)); refine ⟨_, (by assumption), _, rfl, ?_⟩) | ((with_reducible (first | refine r_mulI ?_ ?_)); first | exact mul_ok (Or.inr (by decide)) | exact mul_ok (Or.inl (by decide))) | ((with_reducible (first | refine r_modI ?_ ?_ | refine r_fdvI ?_ ?_ | refine r_powI ?_ ?_)); decide) | dsimp only [endP])
      rw [if_neg (by simpa using hc)] at hg
      subst hg
      exact ⟨ms, rfl, rfl⟩
end Kw

namespace Kw
open Kc PySem
/-- is no keep -/
def Sp.ch : Sp → Bool
  | .keep => false
  | _ => true
theorem ch_ne {s : Sp} : ∃ w ds, s.d = .tup (.str w :: ds) ∧ (decide (w = "keep") = !s.ch) := by
  cases s <;> exact ⟨_, _, rfl, by simp only [Sp.ch]; decide⟩
def cnt (ss : List Sp) : Nat := (ss.filter Sp.ch).length
theorem filt_succ {ss : List Sp} {i : Nat} (hi : i < ss.length) : (ss.take (i + 1)).filter Sp.ch = (ss.take i).filter Sp.ch ++ (if ss[i].ch = true then [ss[i]] else []) := by
  rw [List.take_succ_eq_append_getElem hi, List.filter_append]
  congr 1
  cases e : ss[i].ch <;> simp [e]
theorem cost_ok {ss : List Sp} {st : Sto} (hs : ss.length ≤ 900) : RW (F_cost_of [.tup (ss.map Sp.d)] st) (fun d st' => d = .int (cnt ss : Nat)) noX := by
  refine rw_run rfl ?_
  unfold B_cost_of
  simp only [List.map_cons, List.map_nil, List.cons_append, List.nil_append, List.replicate_succ, List.replicate_zero, Nat.reduceSub]
  repeat (first | with_reducible (first | refine zs_seq ?_ | refine zs_asg ?_ | refine zs_drop ?_ | refine zs_ret ?_ | refine zs_retN ?_ | refine zs_next ?_ | refine zs_brk ?_ | refine zs_cnt ?_ | refine zs_if ?_ | refine zs_for ?_ | refine zs_while ?_ | refine z_true ?_ | refine z_false ?_ | refine r_k ?_ | refine r_op ?_ | refine r_un ?_ | refine r_nil ?_ | refine r_cons ?_ | refine r_tup ?_ | refine r_ptp ?_ | refine r_lst ?_ | refine r_ife ?_ | refine r_if1 ?_ | refine r_if0 ?_ | refine r_and ?_ | refine r_or ?_ | refine r_not ?_ | refine r_bool ?_ | refine r_asB ?_ | refine r_tru ?_ | refine r_truB ?_ | refine r_truI ?_ | refine r_andV ?_ | refine r_orV ?_ | refine r_andV1 ?_ | refine r_andV0 ?_ | refine r_orV1 ?_ | refine r_orV0 ?_ | refine r_notV ?_ | refine r_call ?_ | refine r_meth ?_ | refine r_addI ?_ | refine r_subI ?_ | refine r_negI ?_ | refine r_andI ?_ | refine r_ltI ?_ | refine r_gtI ?_ | refine r_leI ?_ | refine r_geI ?_ | refine r_eqI ?_ | refine r_eqS ?_ | refine r_neI ?_ | refine r_neS ?_ | refine r_is0 ?_ | refine r_is1 ?_ | refine r_is2 ?_ | refine r_is3 ?_ | refine r_isn0 ?_ | refine r_isn1 ?_ | refine r_isn2 ?_ | refine r_isn3 ?_ | refine r_lenT ?_ | refine r_intI ?_ | refine r_absI ?_ | refine r_sl ?_ | refine r_no ?_ | refine r_part ?_ | refine r_asP ?_ | refine r_slT ?_ | refine r_slR ?_ | refine r_iter ?_ | refine r_asT ?_ | refine r_asPt ?_ | refine r_asRo ?_ | refine r_rng1 ?_ | refine r_gNm ?_ | refine r_gIx ?_ | refine r_comp ?_ | refine r_chain ?_ | refine r_chn1 ?_ | refine r_chn0 ?_ | refine r_isi ?_ | refine r_newL ?_ | refine r_ok ?_) | ((with_reducible (first | refine e_var ?_ | refine e_ixT ?_ | refine e_gTp ?_)); refine ⟨_, rfl, ?_⟩) | ((with_reducible (first | refine r_mkT ?_ ?_ | refine r_mkP ?_ ?_ | refine r_mkL ?_ ?_)); exact Nat.le_of_ble_eq_true rfl) | ((with_reducible (first | refine e_mth ?_ | refine e_lenO ?_ | refine e_asO ?_ | refine e_truO ?_ | refine e_tupleO ?_ | refine e_tupleP ?_ | refine e_slO ?_ | refine e_reverse ?_ | refine e_listO ?_)); refine ⟨_, (by assumption), ?_⟩) | ((with_reducible (first | refine e_ixO ?_ | refine e_set ?_)); refine ⟨_, (by assumption), _, rfl, ?_⟩) | ((with_reducible (first | refine r_mulI ?_ ?_)); first | exact mul_ok (Or.inr (by decide)) | exact mul_ok (Or.inl (by decide))) | ((with_reducible (first | refine r_modI ?_ ?_ | refine r_fdvI ?_ ?_ | refine r_powI ?_ ?_)); decide) | dsimp only [endP])
  refine rw_comp ss.length (fun i acc s => acc = ((ss.take i).filter Sp.ch).map Sp.d) (lt_fuel (by omega)) (by simp) ?_ ?_
  · rintro i acc s hi rfl
    refine ⟨_, _, itT_map hi, rfl, ?_⟩
    obtain ⟨w, ds, ed, ew⟩ := ch_ne (s := ss[i])
    rw [ed]
    repeat (first | with_reducible (first | refine zs_seq ?_ | refine zs_asg ?_ | refine zs_drop ?_ | refine zs_ret ?_ | refine zs_retN ?_ | refine zs_next ?_ | refine zs_brk ?_ | refine zs_cnt ?_ | refine zs_if ?_ | refine zs_for ?_ | refine zs_while ?_ | refine z_true ?_ | refine z_false ?_ | refine r_k ?_ | refine r_op ?_ | refine r_un ?_ | refine r_nil ?_ | refine r_cons ?_ | refine r_tup ?_ | refine r_ptp ?_ | refine r_lst ?_ | refine r_ife ?_ | refine r_if1 ?_ | refine r_if0 ?_ | refine r_and ?_ | refine r_or ?_ | refine r_not ?_ | refine r_bool ?_ | refine r_asB ?_ | refine r_tru ?_ | refine r_truB ?_ | refine r_truI ?_ | refine r_andV ?_ | refine r_orV ?_ | refine r_andV1 ?_ | refine r_andV0 ?_ | refine r_orV1 ?_ | refine r_orV0 ?_ | refine r_notV ?_ | refine r_call ?_ | refine r_meth ?_ | refine r_addI ?_ | refine r_subI ?_ | refine r_negI ?_ | refine r_andI ?_ | refine r_ltI ?_ | refine r_gtI ?_ | refine r_leI ?_ | refine r_geI ?_ | refine r_eqI ?_ | refine r_eqS ?_ | refine r_neI ?_ | refine r_neS ?_ | refine r_is0 ?_ | refine r_is1 ?_ | refine r_is2 ?_ | refine r_is3 ?_ | refine r_isn0 ?_ | refine r_isn1 ?_ | refine r_isn2 ?_ | refine r_isn3 ?_ | refine r_lenT ?_ | refine r_intI ?_ | refine r_absI ?_ | refine r_sl ?_ | refine r_no ?_ | refine r_part ?_ | refine r_asP ?_ | refine r_slT ?_ | refine r_slR ?_ | refine r_iter ?_ | refine r_asT ?_ | refine r_asPt ?_ | refine r_asRo ?_ | refine r_rng1 ?_ | refine r_gNm ?_ | refine r_gIx ?_ | refine r_comp ?_ | refine r_chain ?_ | refine r_chn1 ?_ | refine r_chn0 ?_ | refine r_isi ?_ | refine r_newL ?_ | refine r_ok ?_) | ((with_reducible (first | refine e_var ?_ | refine e_ixT ?_ | refine e_gTp ?_)); refine ⟨_, rfl, ?_⟩) | ((with_reducible (first | refine r_mkT ?_ ?_ | refine r_mkP ?_ ?_ | refine r_mkL ?_ ?_)); exact Nat.le_of_ble_eq_true rfl) | ((with_reducible (first | refine e_mth ?_ | refine e_lenO ?_ | refine e_asO ?_ | refine e_truO ?_ | refine e_tupleO ?_ | refine e_tupleP ?_ | refine e_slO ?_ | refine e_reverse ?_ | refine e_listO ?_)); refine ⟨_, (by assumption), ?_⟩) | ((with_reducible (first | refine e_ixO ?_ | refine e_set ?_)); refine ⟨_, (by assumption), _, rfl, ?_⟩) | ((with_reducible (first | refine r_mulI ?_ ?_)); first | exact mul_ok (Or.inr (by decide)) | exact mul_ok (Or.inl (by decide))) | ((with_reducible (first | refine r_modI ?_ ?_ | refine r_fdvI ?_ ?_ | refine r_powI ?_ ?_)); decide) | dsimp only [endP])
    refine r_ixT atI_0 ?_
    repeat (first | with_reducible (first | refine zs_seq ?_ | refine zs_asg ?_ | refine zs_drop ?_ | refine zs_ret ?_ | refine zs_retN ?_ | refine zs_next ?_ | refine zs_brk ?_ | refine zs_cnt ?_ | refine zs_if ?_ | refine zs_for ?_ | refine zs_while ?_ | refine z_true ?_ | refine z_false ?_ | refine r_k ?_ | refine r_op ?_ | refine r_un ?_ | refine r_nil ?_ | refine r_cons ?_ | refine r_tup ?_ | refine r_ptp ?_ | refine r_lst ?_ | refine r_ife ?_ | refine r_if1 ?_ | refine r_if0 ?_ | refine r_and ?_ | refine r_or ?_ | refine r_not ?_ | refine r_bool ?_ | refine r_asB ?_ | refine r_tru ?_ | refine r_truB ?_ | refine r_truI ?_ | refine r_andV ?_ | refine r_orV ?_ | refine r_andV1 ?_ | refine r_andV0 ?_ | refine r_orV1 ?_ | refine r_orV0 ?_ | refine r_notV ?_ | refine r_call ?_ | refine r_meth ?_ | refine r_addI ?_ | refine r_subI ?_ | refine r_negI ?_ | refine r_andI ?_ | refine r_ltI ?_ | refine r_gtI ?_ | refine r_leI ?_ | refine r_geI ?_ | refine r_eqI ?_ | refine r_eqS ?_ | refine r_neI ?_ | refine r_neS ?_ | refine r_is0 ?_ | refine r_is1 ?_ | refine r_is2 ?_ | refine r_is3 ?_ | refine r_isn0 ?_ | refine r_isn1 ?_ | refine r_isn2 ?_ | refine r_isn3 ?_ | refine r_lenT ?_ | refine r_intI ?_ | refine r_absI ?_ | refine r_sl ?_ | refine r_no ?_ | refine r_part ?_ | refine r_asP ?_ | refine r_slT ?_ | refine r_slR ?_ | refine r_iter ?_ | refine r_asT ?_ | refine r_asPt ?_ | refine r_asRo ?_ | refine r_rng1 ?_ | refine r_gNm ?_ | refine r_gIx ?_ | refine r_comp ?_ | refine r_chain ?_ | refine r_chn1 ?_ | refine r_chn0 ?_ | refine r_isi ?_ | refine r_newL ?_ | refine r_ok ?_) | ((with_reducible (first | refine e_var ?_ | refine e_ixT ?_ | refine e_gTp ?_)); refine ⟨_, rfl, ?_⟩) | ((with_reducible (first | refine r_mkT ?_ ?_ | refine r_mkP ?_ ?_ | refine r_mkL ?_ ?_)); exact Nat.le_of_ble_eq_true rfl) | ((with_reducible (first | refine e_mth ?_ | refine e_lenO ?_ | refine e_asO ?_ | refine e_truO ?_ | refine e_tupleO ?_ | refine e_tupleP ?_ | refine e_slO ?_ | refine e_reverse ?_ | refine e_listO ?_)); refine ⟨_, (by assumption), ?_⟩) | ((with_reducible (first | refine e_ixO ?_ | refine e_set ?_)); refine ⟨_, (by assumption), _, rfl, ?_⟩) | ((with_reducible (first | refine r_mulI ?_ ?_)); first | exact mul_ok (Or.inr (by decide)) | exact mul_ok (Or.inl (by decide))) | ((with_reducible (first | refine r_modI ?_ ?_ | refine r_fdvI ?_ ?_ | refine r_powI ?_ ?_)); decide) | dsimp only [endP])
    rw [ew, Bool.not_not]
    have hf := filt_succ hi
    refine ⟨fun hb => ?_, fun hb => ?_⟩
    · repeat (first | with_reducible (first | refine zs_seq ?_ | refine zs_asg ?_ | refine zs_drop ?_ | refine zs_ret ?_ | refine zs_retN ?_ | refine zs_next ?_ | refine zs_brk ?_ | refine zs_cnt ?_ | refine zs_if ?_ | refine zs_for ?_ | refine zs_while ?_ | refine z_true ?_ | refine z_false ?_ | refine r_k ?_ | refine r_op ?_ | refine r_un ?_ | refine r_nil ?_ | refine r_cons ?_ | refine r_tup ?_ | refine r_ptp ?_ | refine r_lst ?_ | refine r_ife ?_ | refine r_if1 ?_ | refine r_if0 ?_ | refine r_and ?_ | refine r_or ?_ | refine r_not ?_ | refine r_bool ?_ | refine r_asB ?_ | refine r_tru ?_ | refine r_truB ?_ | refine r_truI ?_ | refine r_andV ?_ | refine r_orV ?_ | refine r_andV1 ?_ | refine r_andV0 ?_ | refine r_orV1 ?_ | refine r_orV0 ?_ | refine r_notV ?_ | refine r_call ?_ | refine r_meth ?_ | refine r_addI ?_ | refine r_subI ?_ | refine r_negI ?_ | refine r_andI ?_ | refine r_ltI ?_ | refine r_gtI ?_ | refine r_leI ?_ | refine r_geI ?_ | refine r_eqI ?_ | refine r_eqS ?_ | refine r_neI ?_ | refine r_neS ?_ | refine r_is0 ?_ | refine r_is1 ?_ | refine r_is2 ?_ | refine r_is3 ?_ | refine r_isn0 ?_ | refine r_isn1 ?_ | refine r_isn2 ?_ | refine r_isn3 ?_ | refine r_lenT ?_ | refine r_intI ?_ | refine r_absI ?_ | refine r_sl ?_ | refine r_no ?_ | refine r_part ?_ | refine r_asP ?_ | refine r_slT ?_ | refine r_slR ?_ | refine r_iter ?_ | refine r_asT ?_ | refine r_asPt ?_ | refine r_asRo ?_ | refine r_rng1 ?_ | refine r_gNm ?_ | refine r_gIx ?_ | refine r_comp ?_ | refine r_chain ?_ | refine r_chn1 ?_ | refine r_chn0 ?_ | refine r_isi ?_ | refine r_newL ?_ | refine r_ok ?_) | ((with_reducible (first | refine e_var ?_ | refine e_ixT ?_ | refine e_gTp ?_)); refine ⟨_, rfl, ?_⟩) | ((with_reducible (first | refine r_mkT ?_ ?_ | refine r_mkP ?_ ?_ | refine r_mkL ?_ ?_)); exact Nat.le_of_ble_eq_true rfl) | ((with_reducible (first | refine e_mth ?_ | refine e_lenO ?_ | refine e_asO ?_ | refine e_truO ?_ | refine e_tupleO ?_ | refine e_tupleP ?_ | refine e_slO ?_ | refine e_reverse ?_ | refine e_listO ?_)); refine ⟨_, (by assumption), ?_⟩) | ((with_reducible (first | refine e_ixO ?_ | refine e_set ?_)); refine ⟨_, (by assumption), _, rfl, ?_⟩) | ((with_reducible (first | refine r_mulI ?_ ?_)); first | exact mul_ok (Or.inr (by decide)) | exact mul_ok (Or.inl (by decide))) | ((with_reducible (first | refine r_modI ?_ ?_ | refine r_fdvI ?_ ?_ | refine r_powI ?_ ?_)); decide) | dsimp only [endP])
      refine ⟨lt_line ?_, ?_⟩
      · have := List.length_filter_le Sp.ch (ss.take i)
        simp at this ⊢
        omega
      · rw [hf, if_pos hb, List.map_append]
        simp [ed]
    · rw [hf, if_neg (by rw [hb]; decide), List.append_nil]
  · rintro acc s rfl
    refine ⟨itT_fin, ?_⟩
    repeat (first | with_reducible (first | refine zs_seq ?_ | refine zs_asg ?_ | refine zs_drop ?_ | refine zs_ret ?_ | refine zs_retN ?_ | refine zs_next ?_ | refine zs_brk ?_ | refine zs_cnt ?_ | refine zs_if ?_ | refine zs_for ?_ | refine zs_while ?_ | refine z_true ?_ | refine z_false ?_ | refine r_k ?_ | refine r_op ?_ | refine r_un ?_ | refine r_nil ?_ | refine r_cons ?_ | refine r_tup ?_ | refine r_ptp ?_ | refine r_lst ?_ | refine r_ife ?_ | refine r_if1 ?_ | refine r_if0 ?_ | refine r_and ?_ | refine r_or ?_ | refine r_not ?_ | refine r_bool ?_ | refine r_asB ?_ | refine r_tru ?_ | refine r_truB ?_ | refine r_truI ?_ | refine r_andV ?_ | refine r_orV ?_ | refine r_andV1 ?_ | refine r_andV0 ?_ | refine r_orV1 ?_ | refine r_orV0 ?_ | refine r_notV ?_ | refine r_call ?_ | refine r_meth ?_ | refine r_addI ?_ | refine r_subI ?_ | refine r_negI ?_ | refine r_andI ?_ | refine r_ltI ?_ | refine r_gtI ?_ | refine r_leI ?_ | refine r_geI ?_ | refine r_eqI ?_ | refine r_eqS ?_ | refine r_neI ?_ | refine r_neS ?_ | refine r_is0 ?_ | refine r_is1 ?_ | refine r_is2 ?_ | refine r_is3 ?_ | refine r_isn0 ?_ | refine r_isn1 ?_ | refine r_isn2 ?_ | refine r_isn3 ?_ | refine r_lenT ?_ | refine r_intI ?_ | refine r_absI ?_ | refine r_sl ?_ | refine r_no ?_ | refine r_part ?_ | refine r_asP ?_ | refine r_slT ?_ | refine r_slR ?_ | refine r_iter ?_ | refine r_asT ?_ | refine r_asPt ?_ | refine r_asRo ?_ | refine r_rng1 ?_ | refine r_gNm ?_ | refine r_gIx ?_ | refine r_comp ?_ | refine r_chain ?_ | refine r_chn1 ?_ | refine r_chn0 ?_ | refine r_isi ?_ | refine r_newL ?_ | refine r_ok ?_) | ((with_reducible (first | refine e_var ?_ | refine e_ixT ?_ | refine e_gTp ?_)); refine ⟨_, rfl, ?_⟩) | ((with_reducible (first | refine r_mkT ?_ ?_ | refine r_mkP ?_ ?_ | refine r_mkL ?_ ?_)); exact Nat.le_of_ble_eq_true rfl) | ((with_reducible (first | refine e_mth ?_ | refine e_lenO ?_ | refine e_asO ?_ | refine e_truO ?_ | refine e_tupleO ?_ | refine e_tupleP ?_ | refine e_slO ?_ | refine e_reverse ?_ | refine e_listO ?_)); refine ⟨_, (by assumption), ?_⟩) | ((with_reducible (first | refine e_ixO ?_ | refine e_set ?_)); refine ⟨_, (by assumption), _, rfl, ?_⟩) | ((with_reducible (first | refine r_mulI ?_ ?_)); first | exact mul_ok (Or.inr (by decide)) | exact mul_ok (Or.inl (by decide))) | ((with_reducible (first | refine r_modI ?_ ?_ | refine r_fdvI ?_ ?_ | refine r_powI ?_ ?_)); decide) | dsimp only [endP])
    refine r_lenO push_at ?_
    repeat (first | with_reducible (first | refine zs_seq ?_ | refine zs_asg ?_ | refine zs_drop ?_ | refine zs_ret ?_ | refine zs_retN ?_ | refine zs_next ?_ | refine zs_brk ?_ | refine zs_cnt ?_ | refine zs_if ?_ | refine zs_for ?_ | refine zs_while ?_ | refine z_true ?_ | refine z_false ?_ | refine r_k ?_ | refine r_op ?_ | refine r_un ?_ | refine r_nil ?_ | refine r_cons ?_ | refine r_tup ?_ | refine r_ptp ?_ | refine r_lst ?_ | refine r_ife ?_ | refine r_if1 ?_ | refine r_if0 ?_ | refine r_and ?_ | refine r_or ?_ | refine r_not ?_ | refine r_bool ?_ | refine r_asB ?_ | refine r_tru ?_ | refine r_truB ?_ | refine r_truI ?_ | refine r_andV ?_ | refine r_orV ?_ | refine r_andV1 ?_ | refine r_andV0 ?_ | refine r_orV1 ?_ | refine r_orV0 ?_ | refine r_notV ?_ | refine r_call ?_ | refine r_meth ?_ | refine r_addI ?_ | refine r_subI ?_ | refine r_negI ?_ | refine r_andI ?_ | refine r_ltI ?_ | refine r_gtI ?_ | refine r_leI ?_ | refine r_geI ?_ | refine r_eqI ?_ | refine r_eqS ?_ | refine r_neI ?_ | refine r_neS ?_ | refine r_is0 ?_ | refine r_is1 ?_ | refine r_is2 ?_ | refine r_is3 ?_ | refine r_isn0 ?_ | refine r_isn1 ?_ | refine r_isn2 ?_ | refine r_isn3 ?_ | refine r_lenT ?_ | refine r_intI ?_ | refine r_absI ?_ | refine r_sl ?_ | refine r_no ?_ | refine r_part ?_ | refine r_asP ?_ | refine r_slT ?_ | refine r_slR ?_ | refine r_iter ?_ | refine r_asT ?_ | refine r_asPt ?_ | refine r_asRo ?_ | refine r_rng1 ?_ | refine r_gNm ?_ | refine r_gIx ?_ | refine r_comp ?_ | refine r_chain ?_ | refine r_chn1 ?_ | refine r_chn0 ?_ | refine r_isi ?_ | refine r_newL ?_ | refine r_ok ?_) | ((with_reducible (first | refine e_var ?_ | refine e_ixT ?_ | refine e_gTp ?_)); refine ⟨_, rfl, ?_⟩) | ((with_reducible (first | refine r_mkT ?_ ?_ | refine r_mkP ?_ ?_ | refine r_mkL ?_ ?_)); exact Nat.le_of_ble_eq_true rfl) | ((with_reducible (first | refine e_mth ?_ | refine e_lenO ?_ | refine e_asO ?_ | refine e_truO ?_ | refine e_tupleO ?_ | refine e_tupleP ?_ | refine e_slO ?_ | refine e_reverse ?_ | refine e_listO ?_)); refine ⟨_, (by assumption), ?_⟩) | ((with_reducible (first | refine e_ixO ?_ | refine e_set ?_)); refine ⟨_, (by assumption), _, rfl, ?_⟩) | ((with_reducible (first | refine r_mulI ?_ ?_)); first | exact mul_ok (Or.inr (by decide)) | exact mul_ok (Or.inl (by decide))) | ((with_reducible (first | refine r_modI ?_ ?_ | refine r_fdvI ?_ ?_ | refine r_powI ?_ ?_)); decide) | dsimp only [endP])
    simp [cnt]
theorem alone_ok {a dx : Addr} {fs : List (Str × D)} {st : Sto} : F_law_alone a dx 3 [.err a dx 3 fs] st = .ok (.bl true) st := by
  simp [F_law_alone, runB, B_law_alone, sSeq, sIf, bOr, bNot, bTru, bIsE, isCau, bVar, R.bind, R.z, Z.then, truth, kt_ScribeError, kt_ValueError, kt_Refused, kt_NoText, kt_TooFar, kt_BadNotation, sNext, sRet, bAndV, bNotV]
theorem zs_try {i : Nat} {xb : Nat → Option Bool} {body : FS} {S : Addr → Addr → Nat → FS} {env : Kc.Env} {st : Sto} {P : Po}
    (h : ZW (body env st) { P with xc := fun x e s => (xb x.c = some true ∧ ∃ z, (∀ a dx, (S a dx x.c (e.set i (some (.err a dx x.c x.fs))) s).un i = z) ∧ ZW z P) ∨ (xb x.c = some false ∧ P.xc x e s) }) : ZW (sTry i xb body S env st) P := by
  unfold sTry
  generalize body env st = zz at h ⊢
  cases zz with
  | nx e s => exact ⟨h.out⟩
  | rt d s => exact ⟨h.out⟩
  | bk e s => exact ⟨h.out⟩
  | ct e s => exact ⟨h.out⟩
  | bad => exact ⟨h.out⟩
  | exc x e s =>
    rcases h.out with ⟨e1, z, hz, k⟩ | ⟨e1, k⟩
    · simp only [e1]
      rw [allZ_eq hz]
      exact k
    · simp only [e1]
      exact ⟨k⟩
theorem below_ok {ns : List Int} {ss : List Sp} {st : Sto} {k : Nat} (hn : ns.length ≤ 400) (hs : ss.length ≤ 900) (ho : go ns ss 0 0 [] = .bad k) : RW (F_law_below_base [.tup (ns.map D.int), .tup (ss.map Sp.d)] st) (fun d st' => d = .bl true) noX := by
  refine rw_run rfl ?_
  unfold B_law_below_base
  simp only [List.map_cons, List.map_nil, List.cons_append, List.nil_append, List.replicate_succ, List.replicate_zero, Nat.reduceSub]
  refine zs_seq (zs_try ?_)
  repeat (first | with_reducible (first | refine zs_seq ?_ | refine zs_asg ?_ | refine zs_drop ?_ | refine zs_ret ?_ | refine zs_retN ?_ | refine zs_next ?_ | refine zs_brk ?_ | refine zs_cnt ?_ | refine zs_if ?_ | refine zs_for ?_ | refine zs_while ?_ | refine z_true ?_ | refine z_false ?_ | refine r_k ?_ | refine r_op ?_ | refine r_un ?_ | refine r_nil ?_ | refine r_cons ?_ | refine r_tup ?_ | refine r_ptp ?_ | refine r_lst ?_ | refine r_ife ?_ | refine r_if1 ?_ | refine r_if0 ?_ | refine r_and ?_ | refine r_or ?_ | refine r_not ?_ | refine r_bool ?_ | refine r_asB ?_ | refine r_tru ?_ | refine r_truB ?_ | refine r_truI ?_ | refine r_andV ?_ | refine r_orV ?_ | refine r_andV1 ?_ | refine r_andV0 ?_ | refine r_orV1 ?_ | refine r_orV0 ?_ | refine r_notV ?_ | refine r_call ?_ | refine r_meth ?_ | refine r_addI ?_ | refine r_subI ?_ | refine r_negI ?_ | refine r_andI ?_ | refine r_ltI ?_ | refine r_gtI ?_ | refine r_leI ?_ | refine r_geI ?_ | refine r_eqI ?_ | refine r_eqS ?_ | refine r_neI ?_ | refine r_neS ?_ | refine r_is0 ?_ | refine r_is1 ?_ | refine r_is2 ?_ | refine r_is3 ?_ | refine r_isn0 ?_ | refine r_isn1 ?_ | refine r_isn2 ?_ | refine r_isn3 ?_ | refine r_lenT ?_ | refine r_intI ?_ | refine r_absI ?_ | refine r_sl ?_ | refine r_no ?_ | refine r_part ?_ | refine r_asP ?_ | refine r_slT ?_ | refine r_slR ?_ | refine r_iter ?_ | refine r_asT ?_ | refine r_asPt ?_ | refine r_asRo ?_ | refine r_rng1 ?_ | refine r_gNm ?_ | refine r_gIx ?_ | refine r_comp ?_ | refine r_chain ?_ | refine r_chn1 ?_ | refine r_chn0 ?_ | refine r_isi ?_ | refine r_newL ?_ | refine r_ok ?_) | ((with_reducible (first | refine e_var ?_ | refine e_ixT ?_ | refine e_gTp ?_)); refine ⟨_, rfl, ?_⟩) | ((with_reducible (first | refine r_mkT ?_ ?_ | refine r_mkP ?_ ?_ | refine r_mkL ?_ ?_)); exact Nat.le_of_ble_eq_true rfl) | ((with_reducible (first | refine e_mth ?_ | refine e_lenO ?_ | refine e_asO ?_ | refine e_truO ?_ | refine e_tupleO ?_ | refine e_tupleP ?_ | refine e_slO ?_ | refine e_reverse ?_ | refine e_listO ?_)); refine ⟨_, (by assumption), ?_⟩) | ((with_reducible (first | refine e_ixO ?_ | refine e_set ?_)); refine ⟨_, (by assumption), _, rfl, ?_⟩) | ((with_reducible (first | refine r_mulI ?_ ?_)); first | exact mul_ok (Or.inr (by decide)) | exact mul_ok (Or.inl (by decide))) | ((with_reducible (first | refine r_modI ?_ ?_ | refine r_fdvI ?_ ?_ | refine r_powI ?_ ?_)); decide) | dsimp only [endP])
  refine (apply_ok (st := st) hn hs ho).mono (fun d s ⟨ms, e, _⟩ => by cases e) (fun x s ⟨k', e, ex⟩ => ?_)
  subst ex
  refine .inl ⟨rfl, .rt (.bl true) s, fun a dx => ?_, ⟨rfl⟩⟩
  simp [bs, sRet, bIsE, isCau, bVar, R.bind, R.z, kt_BadSteps, Z.un]
def Out.md : Out → D
  | .bad _ => .non
  | .made ms => .tup (ms.map D.int)
def Out.ix : Out → Int
  | .bad k => k
  | .made _ => -1
theorem go_len {ns : List Int} {r : List Int} : ∀ (ss : List Sp) (k h : Nat) (ms : List Int), go ns ss k h ms = .made r → r.length ≤ ms.length + ss.length
  | [], k, h, ms, e => by
    unfold go at e
    split at e
    · cases e
    · cases e; simp
  | .put b :: ss, k, h, ms, e => by
    have := go_len ss _ _ _ (show go ns ss (k + 1) h (ms ++ [b]) = .made r from e)
    simp at this ⊢; omega
  | .keep :: ss, k, h, ms, e => by
    cases e1 : ns[h]? with
    | none => simp only [go, e1] at e; cases e
    | some n => simp only [go, e1] at e; have := go_len ss _ _ _ e; simp at this ⊢; omega
  | .drop :: ss, k, h, ms, e => by
    cases e1 : ns[h]? with
    | none => simp only [go, e1] at e; cases e
    | some n => simp only [go, e1] at e; have := go_len ss _ _ _ e; simp at this ⊢; omega
  | .swap b :: ss, k, h, ms, e => by
    cases e1 : ns[h]? with
    | none => simp only [go, e1] at e; cases e
    | some n => simp only [go, e1] at e; have := go_len ss _ _ _ e; simp at this ⊢; omega
theorem same_ok {ns : List Int} {ss : List Sp} {st : Sto} (hn : ns.length ≤ 400) (hs : ss.length ≤ 900) : RW (F_law_same [.tup (ns.map D.int), .tup (ss.map Sp.d)] st) (fun d st' => d = .bl true) noX := by
  generalize ho : go ns ss 0 0 [] = o
  refine rw_run rfl ?_
  unfold B_law_same
  simp only [List.map_cons, List.map_nil, List.cons_append, List.nil_append, List.replicate_succ, List.replicate_zero, Nat.reduceSub]
  repeat (first | with_reducible (first | refine zs_seq ?_ | refine zs_asg ?_ | refine zs_drop ?_ | refine zs_ret ?_ | refine zs_retN ?_ | refine zs_next ?_ | refine zs_brk ?_ | refine zs_cnt ?_ | refine zs_if ?_ | refine zs_for ?_ | refine zs_while ?_ | refine z_true ?_ | refine z_false ?_ | refine r_k ?_ | refine r_op ?_ | refine r_un ?_ | refine r_nil ?_ | refine r_cons ?_ | refine r_tup ?_ | refine r_ptp ?_ | refine r_lst ?_ | refine r_ife ?_ | refine r_if1 ?_ | refine r_if0 ?_ | refine r_and ?_ | refine r_or ?_ | refine r_not ?_ | refine r_bool ?_ | refine r_asB ?_ | refine r_tru ?_ | refine r_truB ?_ | refine r_truI ?_ | refine r_andV ?_ | refine r_orV ?_ | refine r_andV1 ?_ | refine r_andV0 ?_ | refine r_orV1 ?_ | refine r_orV0 ?_ | refine r_notV ?_ | refine r_call ?_ | refine r_meth ?_ | refine r_addI ?_ | refine r_subI ?_ | refine r_negI ?_ | refine r_andI ?_ | refine r_ltI ?_ | refine r_gtI ?_ | refine r_leI ?_ | refine r_geI ?_ | refine r_eqI ?_ | refine r_eqS ?_ | refine r_neI ?_ | refine r_neS ?_ | refine r_is0 ?_ | refine r_is1 ?_ | refine r_is2 ?_ | refine r_is3 ?_ | refine r_isn0 ?_ | refine r_isn1 ?_ | refine r_isn2 ?_ | refine r_isn3 ?_ | refine r_lenT ?_ | refine r_intI ?_ | refine r_absI ?_ | refine r_sl ?_ | refine r_no ?_ | refine r_part ?_ | refine r_asP ?_ | refine r_slT ?_ | refine r_slR ?_ | refine r_iter ?_ | refine r_asT ?_ | refine r_asPt ?_ | refine r_asRo ?_ | refine r_rng1 ?_ | refine r_gNm ?_ | refine r_gIx ?_ | refine r_comp ?_ | refine r_chain ?_ | refine r_chn1 ?_ | refine r_chn0 ?_ | refine r_isi ?_ | refine r_newL ?_ | refine r_ok ?_) | ((with_reducible (first | refine e_var ?_ | refine e_ixT ?_ | refine e_gTp ?_)); refine ⟨_, rfl, ?_⟩) | ((with_reducible (first | refine r_mkT ?_ ?_ | refine r_mkP ?_ ?_ | refine r_mkL ?_ ?_)); exact Nat.le_of_ble_eq_true rfl) | ((with_reducible (first | refine e_mth ?_ | refine e_lenO ?_ | refine e_asO ?_ | refine e_truO ?_ | refine e_tupleO ?_ | refine e_tupleP ?_ | refine e_slO ?_ | refine e_reverse ?_ | refine e_listO ?_)); refine ⟨_, (by assumption), ?_⟩) | ((with_reducible (first | refine e_ixO ?_ | refine e_set ?_)); refine ⟨_, (by assumption), _, rfl, ?_⟩) | ((with_reducible (first | refine r_mulI ?_ ?_)); first | exact mul_ok (Or.inr (by decide)) | exact mul_ok (Or.inl (by decide))) | ((with_reducible (first | refine r_modI ?_ ?_ | refine r_fdvI ?_ ?_ | refine r_powI ?_ ?_)); decide) | dsimp only [endP])
  refine (due_ok hn hs ho).to ?_
  rintro _ s1 ⟨rfl, x1⟩
  repeat (first | with_reducible (first | refine zs_seq ?_ | refine zs_asg ?_ | refine zs_drop ?_ | refine zs_ret ?_ | refine zs_retN ?_ | refine zs_next ?_ | refine zs_brk ?_ | refine zs_cnt ?_ | refine zs_if ?_ | refine zs_for ?_ | refine zs_while ?_ | refine z_true ?_ | refine z_false ?_ | refine r_k ?_ | refine r_op ?_ | refine r_un ?_ | refine r_nil ?_ | refine r_cons ?_ | refine r_tup ?_ | refine r_ptp ?_ | refine r_lst ?_ | refine r_ife ?_ | refine r_if1 ?_ | refine r_if0 ?_ | refine r_and ?_ | refine r_or ?_ | refine r_not ?_ | refine r_bool ?_ | refine r_asB ?_ | refine r_tru ?_ | refine r_truB ?_ | refine r_truI ?_ | refine r_andV ?_ | refine r_orV ?_ | refine r_andV1 ?_ | refine r_andV0 ?_ | refine r_orV1 ?_ | refine r_orV0 ?_ | refine r_notV ?_ | refine r_call ?_ | refine r_meth ?_ | refine r_addI ?_ | refine r_subI ?_ | refine r_negI ?_ | refine r_andI ?_ | refine r_ltI ?_ | refine r_gtI ?_ | refine r_leI ?_ | refine r_geI ?_ | refine r_eqI ?_ | refine r_eqS ?_ | refine r_neI ?_ | refine r_neS ?_ | refine r_is0 ?_ | refine r_is1 ?_ | refine r_is2 ?_ | refine r_is3 ?_ | refine r_isn0 ?_ | refine r_isn1 ?_ | refine r_isn2 ?_ | refine r_isn3 ?_ | refine r_lenT ?_ | refine r_intI ?_ | refine r_absI ?_ | refine r_sl ?_ | refine r_no ?_ | refine r_part ?_ | refine r_asP ?_ | refine r_slT ?_ | refine r_slR ?_ | refine r_iter ?_ | refine r_asT ?_ | refine r_asPt ?_ | refine r_asRo ?_ | refine r_rng1 ?_ | refine r_gNm ?_ | refine r_gIx ?_ | refine r_comp ?_ | refine r_chain ?_ | refine r_chn1 ?_ | refine r_chn0 ?_ | refine r_isi ?_ | refine r_newL ?_ | refine r_ok ?_) | ((with_reducible (first | refine e_var ?_ | refine e_ixT ?_ | refine e_gTp ?_)); refine ⟨_, rfl, ?_⟩) | ((with_reducible (first | refine r_mkT ?_ ?_ | refine r_mkP ?_ ?_ | refine r_mkL ?_ ?_)); exact Nat.le_of_ble_eq_true rfl) | ((with_reducible (first | refine e_mth ?_ | refine e_lenO ?_ | refine e_asO ?_ | refine e_truO ?_ | refine e_tupleO ?_ | refine e_tupleP ?_ | refine e_slO ?_ | refine e_reverse ?_ | refine e_listO ?_)); refine ⟨_, (by assumption), ?_⟩) | ((with_reducible (first | refine e_ixO ?_ | refine e_set ?_)); refine ⟨_, (by assumption), _, rfl, ?_⟩) | ((with_reducible (first | refine r_mulI ?_ ?_)); first | exact mul_ok (Or.inr (by decide)) | exact mul_ok (Or.inl (by decide))) | ((with_reducible (first | refine r_modI ?_ ?_ | refine r_fdvI ?_ ?_ | refine r_powI ?_ ?_)); decide) | dsimp only [endP])
  refine zw_for ss.length (fun i e s => ∃ y : Option D, e = [some (.tup (ns.map D.int)), some (.tup (ss.map Sp.d)), some o.due, some (.int (cnt (ss.take i) : Nat)), y, none, none, none, none, none, none]) (lt_fuel (by omega)) ⟨_, rfl⟩ ?_ ?_
  · rintro i _ s hi ⟨y, rfl⟩
    refine ⟨_, itT_map hi, ?_⟩
    obtain ⟨w, ds, ed, ew⟩ := ch_ne (s := ss[i])
    rw [ed]
    repeat (first | with_reducible (first | refine zs_seq ?_ | refine zs_asg ?_ | refine zs_drop ?_ | refine zs_ret ?_ | refine zs_retN ?_ | refine zs_next ?_ | refine zs_brk ?_ | refine zs_cnt ?_ | refine zs_if ?_ | refine zs_for ?_ | refine zs_while ?_ | refine z_true ?_ | refine z_false ?_ | refine r_k ?_ | refine r_op ?_ | refine r_un ?_ | refine r_nil ?_ | refine r_cons ?_ | refine r_tup ?_ | refine r_ptp ?_ | refine r_lst ?_ | refine r_ife ?_ | refine r_if1 ?_ | refine r_if0 ?_ | refine r_and ?_ | refine r_or ?_ | refine r_not ?_ | refine r_bool ?_ | refine r_asB ?_ | refine r_tru ?_ | refine r_truB ?_ | refine r_truI ?_ | refine r_andV ?_ | refine r_orV ?_ | refine r_andV1 ?_ | refine r_andV0 ?_ | refine r_orV1 ?_ | refine r_orV0 ?_ | refine r_notV ?_ | refine r_call ?_ | refine r_meth ?_ | refine r_addI ?_ | refine r_subI ?_ | refine r_negI ?_ | refine r_andI ?_ | refine r_ltI ?_ | refine r_gtI ?_ | refine r_leI ?_ | refine r_geI ?_ | refine r_eqI ?_ | refine r_eqS ?_ | refine r_neI ?_ | refine r_neS ?_ | refine r_is0 ?_ | refine r_is1 ?_ | refine r_is2 ?_ | refine r_is3 ?_ | refine r_isn0 ?_ | refine r_isn1 ?_ | refine r_isn2 ?_ | refine r_isn3 ?_ | refine r_lenT ?_ | refine r_intI ?_ | refine r_absI ?_ | refine r_sl ?_ | refine r_no ?_ | refine r_part ?_ | refine r_asP ?_ | refine r_slT ?_ | refine r_slR ?_ | refine r_iter ?_ | refine r_asT ?_ | refine r_asPt ?_ | refine r_asRo ?_ | refine r_rng1 ?_ | refine r_gNm ?_ | refine r_gIx ?_ | refine r_comp ?_ | refine r_chain ?_ | refine r_chn1 ?_ | refine r_chn0 ?_ | refine r_isi ?_ | refine r_newL ?_ | refine r_ok ?_) | ((with_reducible (first | refine e_var ?_ | refine e_ixT ?_ | refine e_gTp ?_)); refine ⟨_, rfl, ?_⟩) | ((with_reducible (first | refine r_mkT ?_ ?_ | refine r_mkP ?_ ?_ | refine r_mkL ?_ ?_)); exact Nat.le_of_ble_eq_true rfl) | ((with_reducible (first | refine e_mth ?_ | refine e_lenO ?_ | refine e_asO ?_ | refine e_truO ?_ | refine e_tupleO ?_ | refine e_tupleP ?_ | refine e_slO ?_ | refine e_reverse ?_ | refine e_listO ?_)); refine ⟨_, (by assumption), ?_⟩) | ((with_reducible (first | refine e_ixO ?_ | refine e_set ?_)); refine ⟨_, (by assumption), _, rfl, ?_⟩) | ((with_reducible (first | refine r_mulI ?_ ?_)); first | exact mul_ok (Or.inr (by decide)) | exact mul_ok (Or.inl (by decide))) | ((with_reducible (first | refine r_modI ?_ ?_ | refine r_fdvI ?_ ?_ | refine r_powI ?_ ?_)); decide) | dsimp only [endP])
    refine r_ixT atI_0 ?_
    repeat (first | with_reducible (first | refine zs_seq ?_ | refine zs_asg ?_ | refine zs_drop ?_ | refine zs_ret ?_ | refine zs_retN ?_ | refine zs_next ?_ | refine zs_brk ?_ | refine zs_cnt ?_ | refine zs_if ?_ | refine zs_for ?_ | refine zs_while ?_ | refine z_true ?_ | refine z_false ?_ | refine r_k ?_ | refine r_op ?_ | refine r_un ?_ | refine r_nil ?_ | refine r_cons ?_ | refine r_tup ?_ | refine r_ptp ?_ | refine r_lst ?_ | refine r_ife ?_ | refine r_if1 ?_ | refine r_if0 ?_ | refine r_and ?_ | refine r_or ?_ | refine r_not ?_ | refine r_bool ?_ | refine r_asB ?_ | refine r_tru ?_ | refine r_truB ?_ | refine r_truI ?_ | refine r_andV ?_ | refine r_orV ?_ | refine r_andV1 ?_ | refine r_andV0 ?_ | refine r_orV1 ?_ | refine r_orV0 ?_ | refine r_notV ?_ | refine r_call ?_ | refine r_meth ?_ | refine r_addI ?_ | refine r_subI ?_ | refine r_negI ?_ | refine r_andI ?_ | refine r_ltI ?_ | refine r_gtI ?_ | refine r_leI ?_ | refine r_geI ?_ | refine r_eqI ?_ | refine r_eqS ?_ | refine r_neI ?_ | refine r_neS ?_ | refine r_is0 ?_ | refine r_is1 ?_ | refine r_is2 ?_ | refine r_is3 ?_ | refine r_isn0 ?_ | refine r_isn1 ?_ | refine r_isn2 ?_ | refine r_isn3 ?_ | refine r_lenT ?_ | refine r_intI ?_ | refine r_absI ?_ | refine r_sl ?_ | refine r_no ?_ | refine r_part ?_ | refine r_asP ?_ | refine r_slT ?_ | refine r_slR ?_ | refine r_iter ?_ | refine r_asT ?_ | refine r_asPt ?_ | refine r_asRo ?_ | refine r_rng1 ?_ | refine r_gNm ?_ | refine r_gIx ?_ | refine r_comp ?_ | refine r_chain ?_ | refine r_chn1 ?_ | refine r_chn0 ?_ | refine r_isi ?_ | refine r_newL ?_ | refine r_ok ?_) | ((with_reducible (first | refine e_var ?_ | refine e_ixT ?_ | refine e_gTp ?_)); refine ⟨_, rfl, ?_⟩) | ((with_reducible (first | refine r_mkT ?_ ?_ | refine r_mkP ?_ ?_ | refine r_mkL ?_ ?_)); exact Nat.le_of_ble_eq_true rfl) | ((with_reducible (first | refine e_mth ?_ | refine e_lenO ?_ | refine e_asO ?_ | refine e_truO ?_ | refine e_tupleO ?_ | refine e_tupleP ?_ | refine e_slO ?_ | refine e_reverse ?_ | refine e_listO ?_)); refine ⟨_, (by assumption), ?_⟩) | ((with_reducible (first | refine e_ixO ?_ | refine e_set ?_)); refine ⟨_, (by assumption), _, rfl, ?_⟩) | ((with_reducible (first | refine r_mulI ?_ ?_)); first | exact mul_ok (Or.inr (by decide)) | exact mul_ok (Or.inl (by decide))) | ((with_reducible (first | refine r_modI ?_ ?_ | refine r_fdvI ?_ ?_ | refine r_powI ?_ ?_)); decide) | dsimp only [endP])
    rw [ew, Bool.not_not]
    have hf := filt_succ hi
    refine z_ite (fun hb => ?_) (fun hb => ?_)
    · repeat (first | with_reducible (first | refine zs_seq ?_ | refine zs_asg ?_ | refine zs_drop ?_ | refine zs_ret ?_ | refine zs_retN ?_ | refine zs_next ?_ | refine zs_brk ?_ | refine zs_cnt ?_ | refine zs_if ?_ | refine zs_for ?_ | refine zs_while ?_ | refine z_true ?_ | refine z_false ?_ | refine r_k ?_ | refine r_op ?_ | refine r_un ?_ | refine r_nil ?_ | refine r_cons ?_ | refine r_tup ?_ | refine r_ptp ?_ | refine r_lst ?_ | refine r_ife ?_ | refine r_if1 ?_ | refine r_if0 ?_ | refine r_and ?_ | refine r_or ?_ | refine r_not ?_ | refine r_bool ?_ | refine r_asB ?_ | refine r_tru ?_ | refine r_truB ?_ | refine r_truI ?_ | refine r_andV ?_ | refine r_orV ?_ | refine r_andV1 ?_ | refine r_andV0 ?_ | refine r_orV1 ?_ | refine r_orV0 ?_ | refine r_notV ?_ | refine r_call ?_ | refine r_meth ?_ | refine r_addI ?_ | refine r_subI ?_ | refine r_negI ?_ | refine r_andI ?_ | refine r_ltI ?_ | refine r_gtI ?_ | refine r_leI ?_ | refine r_geI ?_ | refine r_eqI ?_ | refine r_eqS ?_ | refine r_neI ?_ | refine r_neS ?_ | refine r_is0 ?_ | refine r_is1 ?_ | refine r_is2 ?_ | refine r_is3 ?_ | refine r_isn0 ?_ | refine r_isn1 ?_ | refine r_isn2 ?_ | refine r_isn3 ?_ | refine r_lenT ?_ | refine r_intI ?_ | refine r_absI ?_ | refine r_sl ?_ | refine r_no ?_ | refine r_part ?_ | refine r_asP ?_ | refine r_slT ?_ | refine r_slR ?_ | refine r_iter ?_ | refine r_asT ?_ | refine r_asPt ?_ | refine r_asRo ?_ | refine r_rng1 ?_ | refine r_gNm ?_ | refine r_gIx ?_ | refine r_comp ?_ | refine r_chain ?_ | refine r_chn1 ?_ | refine r_chn0 ?_ | refine r_isi ?_ | refine r_newL ?_ | refine r_ok ?_) | ((with_reducible (first | refine e_var ?_ | refine e_ixT ?_ | refine e_gTp ?_)); refine ⟨_, rfl, ?_⟩) | ((with_reducible (first | refine r_mkT ?_ ?_ | refine r_mkP ?_ ?_ | refine r_mkL ?_ ?_)); exact Nat.le_of_ble_eq_true rfl) | ((with_reducible (first | refine e_mth ?_ | refine e_lenO ?_ | refine e_asO ?_ | refine e_truO ?_ | refine e_tupleO ?_ | refine e_tupleP ?_ | refine e_slO ?_ | refine e_reverse ?_ | refine e_listO ?_)); refine ⟨_, (by assumption), ?_⟩) | ((with_reducible (first | refine e_ixO ?_ | refine e_set ?_)); refine ⟨_, (by assumption), _, rfl, ?_⟩) | ((with_reducible (first | refine r_mulI ?_ ?_)); first | exact mul_ok (Or.inr (by decide)) | exact mul_ok (Or.inl (by decide))) | ((with_reducible (first | refine r_modI ?_ ?_ | refine r_fdvI ?_ ?_ | refine r_powI ?_ ?_)); decide) | dsimp only [endP])
      refine ⟨some (.tup (.str w :: ds)), ?_⟩
      rw [show cnt (ss.take (i + 1)) = cnt (ss.take i) + 1 by unfold cnt; rw [hf, if_pos hb]; simp]
      rfl
    · repeat (first | with_reducible (first | refine zs_seq ?_ | refine zs_asg ?_ | refine zs_drop ?_ | refine zs_ret ?_ | refine zs_retN ?_ | refine zs_next ?_ | refine zs_brk ?_ | refine zs_cnt ?_ | refine zs_if ?_ | refine zs_for ?_ | refine zs_while ?_ | refine z_true ?_ | refine z_false ?_ | refine r_k ?_ | refine r_op ?_ | refine r_un ?_ | refine r_nil ?_ | refine r_cons ?_ | refine r_tup ?_ | refine r_ptp ?_ | refine r_lst ?_ | refine r_ife ?_ | refine r_if1 ?_ | refine r_if0 ?_ | refine r_and ?_ | refine r_or ?_ | refine r_not ?_ | refine r_bool ?_ | refine r_asB ?_ | refine r_tru ?_ | refine r_truB ?_ | refine r_truI ?_ | refine r_andV ?_ | refine r_orV ?_ | refine r_andV1 ?_ | refine r_andV0 ?_ | refine r_orV1 ?_ | refine r_orV0 ?_ | refine r_notV ?_ | refine r_call ?_ | refine r_meth ?_ | refine r_addI ?_ | refine r_subI ?_ | refine r_negI ?_ | refine r_andI ?_ | refine r_ltI ?_ | refine r_gtI ?_ | refine r_leI ?_ | refine r_geI ?_ | refine r_eqI ?_ | refine r_eqS ?_ | refine r_neI ?_ | refine r_neS ?_ | refine r_is0 ?_ | refine r_is1 ?_ | refine r_is2 ?_ | refine r_is3 ?_ | refine r_isn0 ?_ | refine r_isn1 ?_ | refine r_isn2 ?_ | refine r_isn3 ?_ | refine r_lenT ?_ | refine r_intI ?_ | refine r_absI ?_ | refine r_sl ?_ | refine r_no ?_ | refine r_part ?_ | refine r_asP ?_ | refine r_slT ?_ | refine r_slR ?_ | refine r_iter ?_ | refine r_asT ?_ | refine r_asPt ?_ | refine r_asRo ?_ | refine r_rng1 ?_ | refine r_gNm ?_ | refine r_gIx ?_ | refine r_comp ?_ | refine r_chain ?_ | refine r_chn1 ?_ | refine r_chn0 ?_ | refine r_isi ?_ | refine r_newL ?_ | refine r_ok ?_) | ((with_reducible (first | refine e_var ?_ | refine e_ixT ?_ | refine e_gTp ?_)); refine ⟨_, rfl, ?_⟩) | ((with_reducible (first | refine r_mkT ?_ ?_ | refine r_mkP ?_ ?_ | refine r_mkL ?_ ?_)); exact Nat.le_of_ble_eq_true rfl) | ((with_reducible (first | refine e_mth ?_ | refine e_lenO ?_ | refine e_asO ?_ | refine e_truO ?_ | refine e_tupleO ?_ | refine e_tupleP ?_ | refine e_slO ?_ | refine e_reverse ?_ | refine e_listO ?_)); refine ⟨_, (by assumption), ?_⟩) | ((with_reducible (first | refine e_ixO ?_ | refine e_set ?_)); refine ⟨_, (by assumption), _, rfl, ?_⟩) | ((with_reducible (first | refine r_mulI ?_ ?_)); first | exact mul_ok (Or.inr (by decide)) | exact mul_ok (Or.inl (by decide))) | ((with_reducible (first | refine r_modI ?_ ?_ | refine r_fdvI ?_ ?_ | refine r_powI ?_ ?_)); decide) | dsimp only [endP])
      refine ⟨some (.tup (.str w :: ds)), ?_⟩
      rw [show cnt (ss.take (i + 1)) = cnt (ss.take i) by unfold cnt; rw [hf, if_neg (by rw [hb]; decide)]; simp]
      rfl
  · rintro _ s ⟨y, rfl⟩
    refine ⟨itT_fin, ?_⟩
    rw [List.take_length]
    repeat (first | with_reducible (first | refine zs_seq ?_ | refine zs_asg ?_ | refine zs_drop ?_ | refine zs_ret ?_ | refine zs_retN ?_ | refine zs_next ?_ | refine zs_brk ?_ | refine zs_cnt ?_ | refine zs_if ?_ | refine zs_for ?_ | refine zs_while ?_ | refine z_true ?_ | refine z_false ?_ | refine r_k ?_ | refine r_op ?_ | refine r_un ?_ | refine r_nil ?_ | refine r_cons ?_ | refine r_tup ?_ | refine r_ptp ?_ | refine r_lst ?_ | refine r_ife ?_ | refine r_if1 ?_ | refine r_if0 ?_ | refine r_and ?_ | refine r_or ?_ | refine r_not ?_ | refine r_bool ?_ | refine r_asB ?_ | refine r_tru ?_ | refine r_truB ?_ | refine r_truI ?_ | refine r_andV ?_ | refine r_orV ?_ | refine r_andV1 ?_ | refine r_andV0 ?_ | refine r_orV1 ?_ | refine r_orV0 ?_ | refine r_notV ?_ | refine r_call ?_ | refine r_meth ?_ | refine r_addI ?_ | refine r_subI ?_ | refine r_negI ?_ | refine r_andI ?_ | refine r_ltI ?_ | refine r_gtI ?_ | refine r_leI ?_ | refine r_geI ?_ | refine r_eqI ?_ | refine r_eqS ?_ | refine r_neI ?_ | refine r_neS ?_ | refine r_is0 ?_ | refine r_is1 ?_ | refine r_is2 ?_ | refine r_is3 ?_ | refine r_isn0 ?_ | refine r_isn1 ?_ | refine r_isn2 ?_ | refine r_isn3 ?_ | refine r_lenT ?_ | refine r_intI ?_ | refine r_absI ?_ | refine r_sl ?_ | refine r_no ?_ | refine r_part ?_ | refine r_asP ?_ | refine r_slT ?_ | refine r_slR ?_ | refine r_iter ?_ | refine r_asT ?_ | refine r_asPt ?_ | refine r_asRo ?_ | refine r_rng1 ?_ | refine r_gNm ?_ | refine r_gIx ?_ | refine r_comp ?_ | refine r_chain ?_ | refine r_chn1 ?_ | refine r_chn0 ?_ | refine r_isi ?_ | refine r_newL ?_ | refine r_ok ?_) | ((with_reducible (first | refine e_var ?_ | refine e_ixT ?_ | refine e_gTp ?_)); refine ⟨_, rfl, ?_⟩) | ((with_reducible (first | refine r_mkT ?_ ?_ | refine r_mkP ?_ ?_ | refine r_mkL ?_ ?_)); exact Nat.le_of_ble_eq_true rfl) | ((with_reducible (first | refine e_mth ?_ | refine e_lenO ?_ | refine e_asO ?_ | refine e_truO ?_ | refine e_tupleO ?_ | refine e_tupleP ?_ | refine e_slO ?_ | refine e_reverse ?_ | refine e_listO ?_)); refine ⟨_, (by assumption), ?_⟩) | ((with_reducible (first | refine e_ixO ?_ | refine e_set ?_)); refine ⟨_, (by assumption), _, rfl, ?_⟩) | ((with_reducible (first | refine r_mulI ?_ ?_)); first | exact mul_ok (Or.inr (by decide)) | exact mul_ok (Or.inl (by decide))) | ((with_reducible (first | refine r_modI ?_ ?_ | refine r_fdvI ?_ ?_ | refine r_powI ?_ ?_)); decide) | dsimp only [endP])
    refine (cost_ok hs).to ?_
    rintro _ s2 rfl
    repeat (first | with_reducible (first | refine zs_seq ?_ | refine zs_asg ?_ | refine zs_drop ?_ | refine zs_ret ?_ | refine zs_retN ?_ | refine zs_next ?_ | refine zs_brk ?_ | refine zs_cnt ?_ | refine zs_if ?_ | refine zs_for ?_ | refine zs_while ?_ | refine z_true ?_ | refine z_false ?_ | refine r_k ?_ | refine r_op ?_ | refine r_un ?_ | refine r_nil ?_ | refine r_cons ?_ | refine r_tup ?_ | refine r_ptp ?_ | refine r_lst ?_ | refine r_ife ?_ | refine r_if1 ?_ | refine r_if0 ?_ | refine r_and ?_ | refine r_or ?_ | refine r_not ?_ | refine r_bool ?_ | refine r_asB ?_ | refine r_tru ?_ | refine r_truB ?_ | refine r_truI ?_ | refine r_andV ?_ | refine r_orV ?_ | refine r_andV1 ?_ | refine r_andV0 ?_ | refine r_orV1 ?_ | refine r_orV0 ?_ | refine r_notV ?_ | refine r_call ?_ | refine r_meth ?_ | refine r_addI ?_ | refine r_subI ?_ | refine r_negI ?_ | refine r_andI ?_ | refine r_ltI ?_ | refine r_gtI ?_ | refine r_leI ?_ | refine r_geI ?_ | refine r_eqI ?_ | refine r_eqS ?_ | refine r_neI ?_ | refine r_neS ?_ | refine r_is0 ?_ | refine r_is1 ?_ | refine r_is2 ?_ | refine r_is3 ?_ | refine r_isn0 ?_ | refine r_isn1 ?_ | refine r_isn2 ?_ | refine r_isn3 ?_ | refine r_lenT ?_ | refine r_intI ?_ | refine r_absI ?_ | refine r_sl ?_ | refine r_no ?_ | refine r_part ?_ | refine r_asP ?_ | refine r_slT ?_ | refine r_slR ?_ | refine r_iter ?_ | refine r_asT ?_ | refine r_asPt ?_ | refine r_asRo ?_ | refine r_rng1 ?_ | refine r_gNm ?_ | refine r_gIx ?_ | refine r_comp ?_ | refine r_chain ?_ | refine r_chn1 ?_ | refine r_chn0 ?_ | refine r_isi ?_ | refine r_newL ?_ | refine r_ok ?_) | ((with_reducible (first | refine e_var ?_ | refine e_ixT ?_ | refine e_gTp ?_)); refine ⟨_, rfl, ?_⟩) | ((with_reducible (first | refine r_mkT ?_ ?_ | refine r_mkP ?_ ?_ | refine r_mkL ?_ ?_)); exact Nat.le_of_ble_eq_true rfl) | ((with_reducible (first | refine e_mth ?_ | refine e_lenO ?_ | refine e_asO ?_ | refine e_truO ?_ | refine e_tupleO ?_ | refine e_tupleP ?_ | refine e_slO ?_ | refine e_reverse ?_ | refine e_listO ?_)); refine ⟨_, (by assumption), ?_⟩) | ((with_reducible (first | refine e_ixO ?_ | refine e_set ?_)); refine ⟨_, (by assumption), _, rfl, ?_⟩) | ((with_reducible (first | refine r_mulI ?_ ?_)); first | exact mul_ok (Or.inr (by decide)) | exact mul_ok (Or.inl (by decide))) | ((with_reducible (first | refine r_modI ?_ ?_ | refine r_fdvI ?_ ?_ | refine r_powI ?_ ?_)); decide) | dsimp only [endP])
    refine rw_eq isint_ok ?_
    repeat (first | with_reducible (first | refine zs_seq ?_ | refine zs_asg ?_ | refine zs_drop ?_ | refine zs_ret ?_ | refine zs_retN ?_ | refine zs_next ?_ | refine zs_brk ?_ | refine zs_cnt ?_ | refine zs_if ?_ | refine zs_for ?_ | refine zs_while ?_ | refine z_true ?_ | refine z_false ?_ | refine r_k ?_ | refine r_op ?_ | refine r_un ?_ | refine r_nil ?_ | refine r_cons ?_ | refine r_tup ?_ | refine r_ptp ?_ | refine r_lst ?_ | refine r_ife ?_ | refine r_if1 ?_ | refine r_if0 ?_ | refine r_and ?_ | refine r_or ?_ | refine r_not ?_ | refine r_bool ?_ | refine r_asB ?_ | refine r_tru ?_ | refine r_truB ?_ | refine r_truI ?_ | refine r_andV ?_ | refine r_orV ?_ | refine r_andV1 ?_ | refine r_andV0 ?_ | refine r_orV1 ?_ | refine r_orV0 ?_ | refine r_notV ?_ | refine r_call ?_ | refine r_meth ?_ | refine r_addI ?_ | refine r_subI ?_ | refine r_negI ?_ | refine r_andI ?_ | refine r_ltI ?_ | refine r_gtI ?_ | refine r_leI ?_ | refine r_geI ?_ | refine r_eqI ?_ | refine r_eqS ?_ | refine r_neI ?_ | refine r_neS ?_ | refine r_is0 ?_ | refine r_is1 ?_ | refine r_is2 ?_ | refine r_is3 ?_ | refine r_isn0 ?_ | refine r_isn1 ?_ | refine r_isn2 ?_ | refine r_isn3 ?_ | refine r_lenT ?_ | refine r_intI ?_ | refine r_absI ?_ | refine r_sl ?_ | refine r_no ?_ | refine r_part ?_ | refine r_asP ?_ | refine r_slT ?_ | refine r_slR ?_ | refine r_iter ?_ | refine r_asT ?_ | refine r_asPt ?_ | refine r_asRo ?_ | refine r_rng1 ?_ | refine r_gNm ?_ | refine r_gIx ?_ | refine r_comp ?_ | refine r_chain ?_ | refine r_chn1 ?_ | refine r_chn0 ?_ | refine r_isi ?_ | refine r_newL ?_ | refine r_ok ?_) | ((with_reducible (first | refine e_var ?_ | refine e_ixT ?_ | refine e_gTp ?_)); refine ⟨_, rfl, ?_⟩) | ((with_reducible (first | refine r_mkT ?_ ?_ | refine r_mkP ?_ ?_ | refine r_mkL ?_ ?_)); exact Nat.le_of_ble_eq_true rfl) | ((with_reducible (first | refine e_mth ?_ | refine e_lenO ?_ | refine e_asO ?_ | refine e_truO ?_ | refine e_tupleO ?_ | refine e_tupleP ?_ | refine e_slO ?_ | refine e_reverse ?_ | refine e_listO ?_)); refine ⟨_, (by assumption), ?_⟩) | ((with_reducible (first | refine e_ixO ?_ | refine e_set ?_)); refine ⟨_, (by assumption), _, rfl, ?_⟩) | ((with_reducible (first | refine r_mulI ?_ ?_)); first | exact mul_ok (Or.inr (by decide)) | exact mul_ok (Or.inl (by decide))) | ((with_reducible (first | refine r_modI ?_ ?_ | refine r_fdvI ?_ ?_ | refine r_powI ?_ ?_)); decide) | dsimp only [endP])
    refine r_if0 ?_
    repeat (first | with_reducible (first | refine zs_seq ?_ | refine zs_asg ?_ | refine zs_drop ?_ | refine zs_ret ?_ | refine zs_retN ?_ | refine zs_next ?_ | refine zs_brk ?_ | refine zs_cnt ?_ | refine zs_if ?_ | refine zs_for ?_ | refine zs_while ?_ | refine z_true ?_ | refine z_false ?_ | refine r_k ?_ | refine r_op ?_ | refine r_un ?_ | refine r_nil ?_ | refine r_cons ?_ | refine r_tup ?_ | refine r_ptp ?_ | refine r_lst ?_ | refine r_ife ?_ | refine r_if1 ?_ | refine r_if0 ?_ | refine r_and ?_ | refine r_or ?_ | refine r_not ?_ | refine r_bool ?_ | refine r_asB ?_ | refine r_tru ?_ | refine r_truB ?_ | refine r_truI ?_ | refine r_andV ?_ | refine r_orV ?_ | refine r_andV1 ?_ | refine r_andV0 ?_ | refine r_orV1 ?_ | refine r_orV0 ?_ | refine r_notV ?_ | refine r_call ?_ | refine r_meth ?_ | refine r_addI ?_ | refine r_subI ?_ | refine r_negI ?_ | refine r_andI ?_ | refine r_ltI ?_ | refine r_gtI ?_ | refine r_leI ?_ | refine r_geI ?_ | refine r_eqI ?_ | refine r_eqS ?_ | refine r_neI ?_ | refine r_neS ?_ | refine r_is0 ?_ | refine r_is1 ?_ | refine r_is2 ?_ | refine r_is3 ?_ | refine r_isn0 ?_ | refine r_isn1 ?_ | refine r_isn2 ?_ | refine r_isn3 ?_ | refine r_lenT ?_ | refine r_intI ?_ | refine r_absI ?_ | refine r_sl ?_ | refine r_no ?_ | refine r_part ?_ | refine r_asP ?_ | refine r_slT ?_ | refine r_slR ?_ | refine r_iter ?_ | refine r_asT ?_ | refine r_asPt ?_ | refine r_asRo ?_ | refine r_rng1 ?_ | refine r_gNm ?_ | refine r_gIx ?_ | refine r_comp ?_ | refine r_chain ?_ | refine r_chn1 ?_ | refine r_chn0 ?_ | refine r_isi ?_ | refine r_newL ?_ | refine r_ok ?_) | ((with_reducible (first | refine e_var ?_ | refine e_ixT ?_ | refine e_gTp ?_)); refine ⟨_, rfl, ?_⟩) | ((with_reducible (first | refine r_mkT ?_ ?_ | refine r_mkP ?_ ?_ | refine r_mkL ?_ ?_)); exact Nat.le_of_ble_eq_true rfl) | ((with_reducible (first | refine e_mth ?_ | refine e_lenO ?_ | refine e_asO ?_ | refine e_truO ?_ | refine e_tupleO ?_ | refine e_tupleP ?_ | refine e_slO ?_ | refine e_reverse ?_ | refine e_listO ?_)); refine ⟨_, (by assumption), ?_⟩) | ((with_reducible (first | refine e_ixO ?_ | refine e_set ?_)); refine ⟨_, (by assumption), _, rfl, ?_⟩) | ((with_reducible (first | refine r_mulI ?_ ?_)); first | exact mul_ok (Or.inr (by decide)) | exact mul_ok (Or.inl (by decide))) | ((with_reducible (first | refine r_modI ?_ ?_ | refine r_fdvI ?_ ?_ | refine r_powI ?_ ?_)); decide) | dsimp only [endP])
    refine z_nno rfl ?_
    repeat (first | with_reducible (first | refine zq_asg ?_ | refine zq_drop ?_ | refine zs_asg ?_ | refine zs_drop ?_ | refine zs_ret ?_ | refine zs_retN ?_ | refine zs_next ?_ | refine zs_brk ?_ | refine zs_cnt ?_ | refine zs_if ?_ | refine zs_for ?_ | refine zs_while ?_ | refine z_true ?_ | refine z_false ?_ | refine r_k ?_ | refine r_op ?_ | refine r_un ?_ | refine r_nil ?_ | refine r_cons ?_ | refine r_tup ?_ | refine r_ptp ?_ | refine r_lst ?_ | refine r_ife ?_ | refine r_if1 ?_ | refine r_if0 ?_ | refine r_and ?_ | refine r_or ?_ | refine r_not ?_ | refine r_bool ?_ | refine r_asB ?_ | refine r_tru ?_ | refine r_truB ?_ | refine r_truI ?_ | refine r_andV ?_ | refine r_orV ?_ | refine r_andV1 ?_ | refine r_andV0 ?_ | refine r_orV1 ?_ | refine r_orV0 ?_ | refine r_notV ?_ | refine r_call ?_ | refine r_meth ?_ | refine r_addI ?_ | refine r_subI ?_ | refine r_negI ?_ | refine r_andI ?_ | refine r_ltI ?_ | refine r_gtI ?_ | refine r_leI ?_ | refine r_geI ?_ | refine r_eqI ?_ | refine r_eqS ?_ | refine r_neI ?_ | refine r_neS ?_ | refine r_is0 ?_ | refine r_is1 ?_ | refine r_is2 ?_ | refine r_is3 ?_ | refine r_isn0 ?_ | refine r_isn1 ?_ | refine r_isn2 ?_ | refine r_isn3 ?_ | refine r_lenT ?_ | refine r_intI ?_ | refine r_absI ?_ | refine r_sl ?_ | refine r_no ?_ | refine r_part ?_ | refine r_asP ?_ | refine r_slT ?_ | refine r_slR ?_ | refine r_iter ?_ | refine r_asT ?_ | refine r_asPt ?_ | refine r_asRo ?_ | refine r_rng1 ?_ | refine r_gNm ?_ | refine r_gIx ?_ | refine r_comp ?_ | refine r_chain ?_ | refine r_chn1 ?_ | refine r_chn0 ?_ | refine r_isi ?_ | refine r_newL ?_ | refine r_ok ?_) | ((with_reducible (first | refine e_var ?_ | refine e_ixT ?_ | refine e_gTp ?_)); refine ⟨_, rfl, ?_⟩) | ((with_reducible (first | refine r_mkT ?_ ?_ | refine r_mkP ?_ ?_ | refine r_mkL ?_ ?_)); exact Nat.le_of_ble_eq_true rfl) | ((with_reducible (first | refine e_mth ?_ | refine e_lenO ?_ | refine e_asO ?_ | refine e_truO ?_ | refine e_tupleO ?_ | refine e_tupleP ?_ | refine e_slO ?_ | refine e_reverse ?_ | refine e_listO ?_)); refine ⟨_, (by assumption), ?_⟩) | ((with_reducible (first | refine e_ixO ?_ | refine e_set ?_)); refine ⟨_, (by assumption), _, rfl, ?_⟩) | ((with_reducible (first | refine r_mulI ?_ ?_)); first | exact mul_ok (Or.inr (by decide)) | exact mul_ok (Or.inl (by decide))) | ((with_reducible (first | refine r_modI ?_ ?_ | refine r_fdvI ?_ ?_ | refine r_powI ?_ ?_)); decide) | dsimp only [endP])
    refine zs_seq (z_cut (fun e s => e = [some (.tup (ns.map D.int)), some (.tup (ss.map Sp.d)), some o.due, some (.int (cnt ss : Nat)), y, some (.int (cnt ss : Nat)), some o.md, some (.int o.ix), some (.bl true), none, none]) ?_ ?_)
    · refine zs_try ?_
      repeat (first | with_reducible (first | refine zs_seq ?_ | refine zs_asg ?_ | refine zs_drop ?_ | refine zs_ret ?_ | refine zs_retN ?_ | refine zs_next ?_ | refine zs_brk ?_ | refine zs_cnt ?_ | refine zs_if ?_ | refine zs_for ?_ | refine zs_while ?_ | refine z_true ?_ | refine z_false ?_ | refine r_k ?_ | refine r_op ?_ | refine r_un ?_ | refine r_nil ?_ | refine r_cons ?_ | refine r_tup ?_ | refine r_ptp ?_ | refine r_lst ?_ | refine r_ife ?_ | refine r_if1 ?_ | refine r_if0 ?_ | refine r_and ?_ | refine r_or ?_ | refine r_not ?_ | refine r_bool ?_ | refine r_asB ?_ | refine r_tru ?_ | refine r_truB ?_ | refine r_truI ?_ | refine r_andV ?_ | refine r_orV ?_ | refine r_andV1 ?_ | refine r_andV0 ?_ | refine r_orV1 ?_ | refine r_orV0 ?_ | refine r_notV ?_ | refine r_call ?_ | refine r_meth ?_ | refine r_addI ?_ | refine r_subI ?_ | refine r_negI ?_ | refine r_andI ?_ | refine r_ltI ?_ | refine r_gtI ?_ | refine r_leI ?_ | refine r_geI ?_ | refine r_eqI ?_ | refine r_eqS ?_ | refine r_neI ?_ | refine r_neS ?_ | refine r_is0 ?_ | refine r_is1 ?_ | refine r_is2 ?_ | refine r_is3 ?_ | refine r_isn0 ?_ | refine r_isn1 ?_ | refine r_isn2 ?_ | refine r_isn3 ?_ | refine r_lenT ?_ | refine r_intI ?_ | refine r_absI ?_ | refine r_sl ?_ | refine r_no ?_ | refine r_part ?_ | refine r_asP ?_ | refine r_slT ?_ | refine r_slR ?_ | refine r_iter ?_ | refine r_asT ?_ | refine r_asPt ?_ | refine r_asRo ?_ | refine r_rng1 ?_ | refine r_gNm ?_ | refine r_gIx ?_ | refine r_comp ?_ | refine r_chain ?_ | refine r_chn1 ?_ | refine r_chn0 ?_ | refine r_isi ?_ | refine r_newL ?_ | refine r_ok ?_) | ((with_reducible (first | refine e_var ?_ | refine e_ixT ?_ | refine e_gTp ?_)); refine ⟨_, rfl, ?_⟩) | ((with_reducible (first | refine r_mkT ?_ ?_ | refine r_mkP ?_ ?_ | refine r_mkL ?_ ?_)); exact Nat.le_of_ble_eq_true rfl) | ((with_reducible (first | refine e_mth ?_ | refine e_lenO ?_ | refine e_asO ?_ | refine e_truO ?_ | refine e_tupleO ?_ | refine e_tupleP ?_ | refine e_slO ?_ | refine e_reverse ?_ | refine e_listO ?_)); refine ⟨_, (by assumption), ?_⟩) | ((with_reducible (first | refine e_ixO ?_ | refine e_set ?_)); refine ⟨_, (by assumption), _, rfl, ?_⟩) | ((with_reducible (first | refine r_mulI ?_ ?_)); first | exact mul_ok (Or.inr (by decide)) | exact mul_ok (Or.inl (by decide))) | ((with_reducible (first | refine r_modI ?_ ?_ | refine r_fdvI ?_ ?_ | refine r_powI ?_ ?_)); decide) | dsimp only [endP])
      refine RW.mono (apply_ok hn hs ho) ?_ ?_
      · rintro d s ⟨ms, rfl, rfl⟩
        repeat (first | with_reducible (first | refine zs_seq ?_ | refine zs_asg ?_ | refine zs_drop ?_ | refine zs_ret ?_ | refine zs_retN ?_ | refine zs_next ?_ | refine zs_brk ?_ | refine zs_cnt ?_ | refine zs_if ?_ | refine zs_for ?_ | refine zs_while ?_ | refine z_true ?_ | refine z_false ?_ | refine r_k ?_ | refine r_op ?_ | refine r_un ?_ | refine r_nil ?_ | refine r_cons ?_ | refine r_tup ?_ | refine r_ptp ?_ | refine r_lst ?_ | refine r_ife ?_ | refine r_if1 ?_ | refine r_if0 ?_ | refine r_and ?_ | refine r_or ?_ | refine r_not ?_ | refine r_bool ?_ | refine r_asB ?_ | refine r_tru ?_ | refine r_truB ?_ | refine r_truI ?_ | refine r_andV ?_ | refine r_orV ?_ | refine r_andV1 ?_ | refine r_andV0 ?_ | refine r_orV1 ?_ | refine r_orV0 ?_ | refine r_notV ?_ | refine r_call ?_ | refine r_meth ?_ | refine r_addI ?_ | refine r_subI ?_ | refine r_negI ?_ | refine r_andI ?_ | refine r_ltI ?_ | refine r_gtI ?_ | refine r_leI ?_ | refine r_geI ?_ | refine r_eqI ?_ | refine r_eqS ?_ | refine r_neI ?_ | refine r_neS ?_ | refine r_is0 ?_ | refine r_is1 ?_ | refine r_is2 ?_ | refine r_is3 ?_ | refine r_isn0 ?_ | refine r_isn1 ?_ | refine r_isn2 ?_ | refine r_isn3 ?_ | refine r_lenT ?_ | refine r_intI ?_ | refine r_absI ?_ | refine r_sl ?_ | refine r_no ?_ | refine r_part ?_ | refine r_asP ?_ | refine r_slT ?_ | refine r_slR ?_ | refine r_iter ?_ | refine r_asT ?_ | refine r_asPt ?_ | refine r_asRo ?_ | refine r_rng1 ?_ | refine r_gNm ?_ | refine r_gIx ?_ | refine r_comp ?_ | refine r_chain ?_ | refine r_chn1 ?_ | refine r_chn0 ?_ | refine r_isi ?_ | refine r_newL ?_ | refine r_ok ?_) | ((with_reducible (first | refine e_var ?_ | refine e_ixT ?_ | refine e_gTp ?_)); refine ⟨_, rfl, ?_⟩) | ((with_reducible (first | refine r_mkT ?_ ?_ | refine r_mkP ?_ ?_ | refine r_mkL ?_ ?_)); exact Nat.le_of_ble_eq_true rfl) | ((with_reducible (first | refine e_mth ?_ | refine e_lenO ?_ | refine e_asO ?_ | refine e_truO ?_ | refine e_tupleO ?_ | refine e_tupleP ?_ | refine e_slO ?_ | refine e_reverse ?_ | refine e_listO ?_)); refine ⟨_, (by assumption), ?_⟩) | ((with_reducible (first | refine e_ixO ?_ | refine e_set ?_)); refine ⟨_, (by assumption), _, rfl, ?_⟩) | ((with_reducible (first | refine r_mulI ?_ ?_)); first | exact mul_ok (Or.inr (by decide)) | exact mul_ok (Or.inl (by decide))) | ((with_reducible (first | refine r_modI ?_ ?_ | refine r_fdvI ?_ ?_ | refine r_powI ?_ ?_)); decide) | dsimp only [endP])
        rfl
      · rintro x s ⟨k, rfl, rfl⟩
        refine .inl ⟨rfl, .nx [some (.tup (ns.map D.int)), some (.tup (ss.map Sp.d)), some (Out.bad k).due, some (.int (cnt ss : Nat)), y, some (.int (cnt ss : Nat)), some .non, some (.int k), some (.bl true), none, none] s, fun a dx => ?_, ⟨rfl⟩⟩
        simp [bs, sSeq, sAsg, bXf, isCau, bVar, gNm, R.bind, R.z, Z.then, bCall, bCons, bNil, alone_ok, Z.un]
    · rintro _ s rfl
      cases o with
      | bad k =>
        simp only [Out.due, Out.ix, Out.md]
        repeat (first | with_reducible (first | refine zs_seq ?_ | refine zs_asg ?_ | refine zs_drop ?_ | refine zs_ret ?_ | refine zs_retN ?_ | refine zs_next ?_ | refine zs_brk ?_ | refine zs_cnt ?_ | refine zs_if ?_ | refine zs_for ?_ | refine zs_while ?_ | refine z_true ?_ | refine z_false ?_ | refine r_k ?_ | refine r_op ?_ | refine r_un ?_ | refine r_nil ?_ | refine r_cons ?_ | refine r_tup ?_ | refine r_ptp ?_ | refine r_lst ?_ | refine r_ife ?_ | refine r_if1 ?_ | refine r_if0 ?_ | refine r_and ?_ | refine r_or ?_ | refine r_not ?_ | refine r_bool ?_ | refine r_asB ?_ | refine r_tru ?_ | refine r_truB ?_ | refine r_truI ?_ | refine r_andV ?_ | refine r_orV ?_ | refine r_andV1 ?_ | refine r_andV0 ?_ | refine r_orV1 ?_ | refine r_orV0 ?_ | refine r_notV ?_ | refine r_call ?_ | refine r_meth ?_ | refine r_addI ?_ | refine r_subI ?_ | refine r_negI ?_ | refine r_andI ?_ | refine r_ltI ?_ | refine r_gtI ?_ | refine r_leI ?_ | refine r_geI ?_ | refine r_eqI ?_ | refine r_eqS ?_ | refine r_neI ?_ | refine r_neS ?_ | refine r_is0 ?_ | refine r_is1 ?_ | refine r_is2 ?_ | refine r_is3 ?_ | refine r_isn0 ?_ | refine r_isn1 ?_ | refine r_isn2 ?_ | refine r_isn3 ?_ | refine r_lenT ?_ | refine r_intI ?_ | refine r_absI ?_ | refine r_sl ?_ | refine r_no ?_ | refine r_part ?_ | refine r_asP ?_ | refine r_slT ?_ | refine r_slR ?_ | refine r_iter ?_ | refine r_asT ?_ | refine r_asPt ?_ | refine r_asRo ?_ | refine r_rng1 ?_ | refine r_gNm ?_ | refine r_gIx ?_ | refine r_comp ?_ | refine r_chain ?_ | refine r_chn1 ?_ | refine r_chn0 ?_ | refine r_isi ?_ | refine r_newL ?_ | refine r_ok ?_) | ((with_reducible (first | refine e_var ?_ | refine e_ixT ?_ | refine e_gTp ?_)); refine ⟨_, rfl, ?_⟩) | ((with_reducible (first | refine r_mkT ?_ ?_ | refine r_mkP ?_ ?_ | refine r_mkL ?_ ?_)); exact Nat.le_of_ble_eq_true rfl) | ((with_reducible (first | refine e_mth ?_ | refine e_lenO ?_ | refine e_asO ?_ | refine e_truO ?_ | refine e_tupleO ?_ | refine e_tupleP ?_ | refine e_slO ?_ | refine e_reverse ?_ | refine e_listO ?_)); refine ⟨_, (by assumption), ?_⟩) | ((with_reducible (first | refine e_ixO ?_ | refine e_set ?_)); refine ⟨_, (by assumption), _, rfl, ?_⟩) | ((with_reducible (first | refine r_mulI ?_ ?_)); first | exact mul_ok (Or.inr (by decide)) | exact mul_ok (Or.inl (by decide))) | ((with_reducible (first | refine r_modI ?_ ?_ | refine r_fdvI ?_ ?_ | refine r_powI ?_ ?_)); decide) | dsimp only [endP])
        refine rw_eq isint_ok ?_
        repeat (first | with_reducible (first | refine zs_seq ?_ | refine zs_asg ?_ | refine zs_drop ?_ | refine zs_ret ?_ | refine zs_retN ?_ | refine zs_next ?_ | refine zs_brk ?_ | refine zs_cnt ?_ | refine zs_if ?_ | refine zs_for ?_ | refine zs_while ?_ | refine z_true ?_ | refine z_false ?_ | refine r_k ?_ | refine r_op ?_ | refine r_un ?_ | refine r_nil ?_ | refine r_cons ?_ | refine r_tup ?_ | refine r_ptp ?_ | refine r_lst ?_ | refine r_ife ?_ | refine r_if1 ?_ | refine r_if0 ?_ | refine r_and ?_ | refine r_or ?_ | refine r_not ?_ | refine r_bool ?_ | refine r_asB ?_ | refine r_tru ?_ | refine r_truB ?_ | refine r_truI ?_ | refine r_andV ?_ | refine r_orV ?_ | refine r_andV1 ?_ | refine r_andV0 ?_ | refine r_orV1 ?_ | refine r_orV0 ?_ | refine r_notV ?_ | refine r_call ?_ | refine r_meth ?_ | refine r_addI ?_ | refine r_subI ?_ | refine r_negI ?_ | refine r_andI ?_ | refine r_ltI ?_ | refine r_gtI ?_ | refine r_leI ?_ | refine r_geI ?_ | refine r_eqI ?_ | refine r_eqS ?_ | refine r_neI ?_ | refine r_neS ?_ | refine r_is0 ?_ | refine r_is1 ?_ | refine r_is2 ?_ | refine r_is3 ?_ | refine r_isn0 ?_ | refine r_isn1 ?_ | refine r_isn2 ?_ | refine r_isn3 ?_ | refine r_lenT ?_ | refine r_intI ?_ | refine r_absI ?_ | refine r_sl ?_ | refine r_no ?_ | refine r_part ?_ | refine r_asP ?_ | refine r_slT ?_ | refine r_slR ?_ | refine r_iter ?_ | refine r_asT ?_ | refine r_asPt ?_ | refine r_asRo ?_ | refine r_rng1 ?_ | refine r_gNm ?_ | refine r_gIx ?_ | refine r_comp ?_ | refine r_chain ?_ | refine r_chn1 ?_ | refine r_chn0 ?_ | refine r_isi ?_ | refine r_newL ?_ | refine r_ok ?_) | ((with_reducible (first | refine e_var ?_ | refine e_ixT ?_ | refine e_gTp ?_)); refine ⟨_, rfl, ?_⟩) | ((with_reducible (first | refine r_mkT ?_ ?_ | refine r_mkP ?_ ?_ | refine r_mkL ?_ ?_)); exact Nat.le_of_ble_eq_true rfl) | ((with_reducible (first | refine e_mth ?_ | refine e_lenO ?_ | refine e_asO ?_ | refine e_truO ?_ | refine e_tupleO ?_ | refine e_tupleP ?_ | refine e_slO ?_ | refine e_reverse ?_ | refine e_listO ?_)); refine ⟨_, (by assumption), ?_⟩) | ((with_reducible (first | refine e_ixO ?_ | refine e_set ?_)); refine ⟨_, (by assumption), _, rfl, ?_⟩) | ((with_reducible (first | refine r_mulI ?_ ?_)); first | exact mul_ok (Or.inr (by decide)) | exact mul_ok (Or.inl (by decide))) | ((with_reducible (first | refine r_modI ?_ ?_ | refine r_fdvI ?_ ?_ | refine r_powI ?_ ?_)); decide) | dsimp only [endP])
        refine r_if0 ?_
        repeat (first | with_reducible (first | refine zs_seq ?_ | refine zs_asg ?_ | refine zs_drop ?_ | refine zs_ret ?_ | refine zs_retN ?_ | refine zs_next ?_ | refine zs_brk ?_ | refine zs_cnt ?_ | refine zs_if ?_ | refine zs_for ?_ | refine zs_while ?_ | refine z_true ?_ | refine z_false ?_ | refine r_k ?_ | refine r_op ?_ | refine r_un ?_ | refine r_nil ?_ | refine r_cons ?_ | refine r_tup ?_ | refine r_ptp ?_ | refine r_lst ?_ | refine r_ife ?_ | refine r_if1 ?_ | refine r_if0 ?_ | refine r_and ?_ | refine r_or ?_ | refine r_not ?_ | refine r_bool ?_ | refine r_asB ?_ | refine r_tru ?_ | refine r_truB ?_ | refine r_truI ?_ | refine r_andV ?_ | refine r_orV ?_ | refine r_andV1 ?_ | refine r_andV0 ?_ | refine r_orV1 ?_ | refine r_orV0 ?_ | refine r_notV ?_ | refine r_call ?_ | refine r_meth ?_ | refine r_addI ?_ | refine r_subI ?_ | refine r_negI ?_ | refine r_andI ?_ | refine r_ltI ?_ | refine r_gtI ?_ | refine r_leI ?_ | refine r_geI ?_ | refine r_eqI ?_ | refine r_eqS ?_ | refine r_neI ?_ | refine r_neS ?_ | refine r_is0 ?_ | refine r_is1 ?_ | refine r_is2 ?_ | refine r_is3 ?_ | refine r_isn0 ?_ | refine r_isn1 ?_ | refine r_isn2 ?_ | refine r_isn3 ?_ | refine r_lenT ?_ | refine r_intI ?_ | refine r_absI ?_ | refine r_sl ?_ | refine r_no ?_ | refine r_part ?_ | refine r_asP ?_ | refine r_slT ?_ | refine r_slR ?_ | refine r_iter ?_ | refine r_asT ?_ | refine r_asPt ?_ | refine r_asRo ?_ | refine r_rng1 ?_ | refine r_gNm ?_ | refine r_gIx ?_ | refine r_comp ?_ | refine r_chain ?_ | refine r_chn1 ?_ | refine r_chn0 ?_ | refine r_isi ?_ | refine r_newL ?_ | refine r_ok ?_) | ((with_reducible (first | refine e_var ?_ | refine e_ixT ?_ | refine e_gTp ?_)); refine ⟨_, rfl, ?_⟩) | ((with_reducible (first | refine r_mkT ?_ ?_ | refine r_mkP ?_ ?_ | refine r_mkL ?_ ?_)); exact Nat.le_of_ble_eq_true rfl) | ((with_reducible (first | refine e_mth ?_ | refine e_lenO ?_ | refine e_asO ?_ | refine e_truO ?_ | refine e_tupleO ?_ | refine e_tupleP ?_ | refine e_slO ?_ | refine e_reverse ?_ | refine e_listO ?_)); refine ⟨_, (by assumption), ?_⟩) | ((with_reducible (first | refine e_ixO ?_ | refine e_set ?_)); refine ⟨_, (by assumption), _, rfl, ?_⟩) | ((with_reducible (first | refine r_mulI ?_ ?_)); first | exact mul_ok (Or.inr (by decide)) | exact mul_ok (Or.inl (by decide))) | ((with_reducible (first | refine r_modI ?_ ?_ | refine r_fdvI ?_ ?_ | refine r_powI ?_ ?_)); decide) | dsimp only [endP])
        refine r_nno rfl ?_
        repeat (first | with_reducible (first | refine zs_seq ?_ | refine zs_asg ?_ | refine zs_drop ?_ | refine zs_ret ?_ | refine zs_retN ?_ | refine zs_next ?_ | refine zs_brk ?_ | refine zs_cnt ?_ | refine zs_if ?_ | refine zs_for ?_ | refine zs_while ?_ | refine z_true ?_ | refine z_false ?_ | refine r_k ?_ | refine r_op ?_ | refine r_un ?_ | refine r_nil ?_ | refine r_cons ?_ | refine r_tup ?_ | refine r_ptp ?_ | refine r_lst ?_ | refine r_ife ?_ | refine r_if1 ?_ | refine r_if0 ?_ | refine r_and ?_ | refine r_or ?_ | refine r_not ?_ | refine r_bool ?_ | refine r_asB ?_ | refine r_tru ?_ | refine r_truB ?_ | refine r_truI ?_ | refine r_andV ?_ | refine r_orV ?_ | refine r_andV1 ?_ | refine r_andV0 ?_ | refine r_orV1 ?_ | refine r_orV0 ?_ | refine r_notV ?_ | refine r_call ?_ | refine r_meth ?_ | refine r_addI ?_ | refine r_subI ?_ | refine r_negI ?_ | refine r_andI ?_ | refine r_ltI ?_ | refine r_gtI ?_ | refine r_leI ?_ | refine r_geI ?_ | refine r_eqI ?_ | refine r_eqS ?_ | refine r_neI ?_ | refine r_neS ?_ | refine r_is0 ?_ | refine r_is1 ?_ | refine r_is2 ?_ | refine r_is3 ?_ | refine r_isn0 ?_ | refine r_isn1 ?_ | refine r_isn2 ?_ | refine r_isn3 ?_ | refine r_lenT ?_ | refine r_intI ?_ | refine r_absI ?_ | refine r_sl ?_ | refine r_no ?_ | refine r_part ?_ | refine r_asP ?_ | refine r_slT ?_ | refine r_slR ?_ | refine r_iter ?_ | refine r_asT ?_ | refine r_asPt ?_ | refine r_asRo ?_ | refine r_rng1 ?_ | refine r_gNm ?_ | refine r_gIx ?_ | refine r_comp ?_ | refine r_chain ?_ | refine r_chn1 ?_ | refine r_chn0 ?_ | refine r_isi ?_ | refine r_newL ?_ | refine r_ok ?_) | ((with_reducible (first | refine e_var ?_ | refine e_ixT ?_ | refine e_gTp ?_)); refine ⟨_, rfl, ?_⟩) | ((with_reducible (first | refine r_mkT ?_ ?_ | refine r_mkP ?_ ?_ | refine r_mkL ?_ ?_)); exact Nat.le_of_ble_eq_true rfl) | ((with_reducible (first | refine e_mth ?_ | refine e_lenO ?_ | refine e_asO ?_ | refine e_truO ?_ | refine e_tupleO ?_ | refine e_tupleP ?_ | refine e_slO ?_ | refine e_reverse ?_ | refine e_listO ?_)); refine ⟨_, (by assumption), ?_⟩) | ((with_reducible (first | refine e_ixO ?_ | refine e_set ?_)); refine ⟨_, (by assumption), _, rfl, ?_⟩) | ((with_reducible (first | refine r_mulI ?_ ?_)); first | exact mul_ok (Or.inr (by decide)) | exact mul_ok (Or.inl (by decide))) | ((with_reducible (first | refine r_modI ?_ ?_ | refine r_fdvI ?_ ?_ | refine r_powI ?_ ?_)); decide) | dsimp only [endP])
        refine z_false ?_
        repeat (first | with_reducible (first | refine zs_seq ?_ | refine zs_asg ?_ | refine zs_drop ?_ | refine zs_ret ?_ | refine zs_retN ?_ | refine zs_next ?_ | refine zs_brk ?_ | refine zs_cnt ?_ | refine zs_if ?_ | refine zs_for ?_ | refine zs_while ?_ | refine z_true ?_ | refine z_false ?_ | refine r_k ?_ | refine r_op ?_ | refine r_un ?_ | refine r_nil ?_ | refine r_cons ?_ | refine r_tup ?_ | refine r_ptp ?_ | refine r_lst ?_ | refine r_ife ?_ | refine r_if1 ?_ | refine r_if0 ?_ | refine r_and ?_ | refine r_or ?_ | refine r_not ?_ | refine r_bool ?_ | refine r_asB ?_ | refine r_tru ?_ | refine r_truB ?_ | refine r_truI ?_ | refine r_andV ?_ | refine r_orV ?_ | refine r_andV1 ?_ | refine r_andV0 ?_ | refine r_orV1 ?_ | refine r_orV0 ?_ | refine r_notV ?_ | refine r_call ?_ | refine r_meth ?_ | refine r_addI ?_ | refine r_subI ?_ | refine r_negI ?_ | refine r_andI ?_ | refine r_ltI ?_ | refine r_gtI ?_ | refine r_leI ?_ | refine r_geI ?_ | refine r_eqI ?_ | refine r_eqS ?_ | refine r_neI ?_ | refine r_neS ?_ | refine r_is0 ?_ | refine r_is1 ?_ | refine r_is2 ?_ | refine r_is3 ?_ | refine r_isn0 ?_ | refine r_isn1 ?_ | refine r_isn2 ?_ | refine r_isn3 ?_ | refine r_lenT ?_ | refine r_intI ?_ | refine r_absI ?_ | refine r_sl ?_ | refine r_no ?_ | refine r_part ?_ | refine r_asP ?_ | refine r_slT ?_ | refine r_slR ?_ | refine r_iter ?_ | refine r_asT ?_ | refine r_asPt ?_ | refine r_asRo ?_ | refine r_rng1 ?_ | refine r_gNm ?_ | refine r_gIx ?_ | refine r_comp ?_ | refine r_chain ?_ | refine r_chn1 ?_ | refine r_chn0 ?_ | refine r_isi ?_ | refine r_newL ?_ | refine r_ok ?_) | ((with_reducible (first | refine e_var ?_ | refine e_ixT ?_ | refine e_gTp ?_)); refine ⟨_, rfl, ?_⟩) | ((with_reducible (first | refine r_mkT ?_ ?_ | refine r_mkP ?_ ?_ | refine r_mkL ?_ ?_)); exact Nat.le_of_ble_eq_true rfl) | ((with_reducible (first | refine e_mth ?_ | refine e_lenO ?_ | refine e_asO ?_ | refine e_truO ?_ | refine e_tupleO ?_ | refine e_tupleP ?_ | refine e_slO ?_ | refine e_reverse ?_ | refine e_listO ?_)); refine ⟨_, (by assumption), ?_⟩) | ((with_reducible (first | refine e_ixO ?_ | refine e_set ?_)); refine ⟨_, (by assumption), _, rfl, ?_⟩) | ((with_reducible (first | refine r_mulI ?_ ?_)); first | exact mul_ok (Or.inr (by decide)) | exact mul_ok (Or.inl (by decide))) | ((with_reducible (first | refine r_modI ?_ ?_ | refine r_fdvI ?_ ?_ | refine r_powI ?_ ?_)); decide) | dsimp only [endP])
        refine z_yes (by omega) ?_
        repeat (first | with_reducible (first | refine zs_seq ?_ | refine zs_asg ?_ | refine zs_drop ?_ | refine zs_ret ?_ | refine zs_retN ?_ | refine zs_next ?_ | refine zs_brk ?_ | refine zs_cnt ?_ | refine zs_if ?_ | refine zs_for ?_ | refine zs_while ?_ | refine z_true ?_ | refine z_false ?_ | refine r_k ?_ | refine r_op ?_ | refine r_un ?_ | refine r_nil ?_ | refine r_cons ?_ | refine r_tup ?_ | refine r_ptp ?_ | refine r_lst ?_ | refine r_ife ?_ | refine r_if1 ?_ | refine r_if0 ?_ | refine r_and ?_ | refine r_or ?_ | refine r_not ?_ | refine r_bool ?_ | refine r_asB ?_ | refine r_tru ?_ | refine r_truB ?_ | refine r_truI ?_ | refine r_andV ?_ | refine r_orV ?_ | refine r_andV1 ?_ | refine r_andV0 ?_ | refine r_orV1 ?_ | refine r_orV0 ?_ | refine r_notV ?_ | refine r_call ?_ | refine r_meth ?_ | refine r_addI ?_ | refine r_subI ?_ | refine r_negI ?_ | refine r_andI ?_ | refine r_ltI ?_ | refine r_gtI ?_ | refine r_leI ?_ | refine r_geI ?_ | refine r_eqI ?_ | refine r_eqS ?_ | refine r_neI ?_ | refine r_neS ?_ | refine r_is0 ?_ | refine r_is1 ?_ | refine r_is2 ?_ | refine r_is3 ?_ | refine r_isn0 ?_ | refine r_isn1 ?_ | refine r_isn2 ?_ | refine r_isn3 ?_ | refine r_lenT ?_ | refine r_intI ?_ | refine r_absI ?_ | refine r_sl ?_ | refine r_no ?_ | refine r_part ?_ | refine r_asP ?_ | refine r_slT ?_ | refine r_slR ?_ | refine r_iter ?_ | refine r_asT ?_ | refine r_asPt ?_ | refine r_asRo ?_ | refine r_rng1 ?_ | refine r_gNm ?_ | refine r_gIx ?_ | refine r_comp ?_ | refine r_chain ?_ | refine r_chn1 ?_ | refine r_chn0 ?_ | refine r_isi ?_ | refine r_newL ?_ | refine r_ok ?_) | ((with_reducible (first | refine e_var ?_ | refine e_ixT ?_ | refine e_gTp ?_)); refine ⟨_, rfl, ?_⟩) | ((with_reducible (first | refine r_mkT ?_ ?_ | refine r_mkP ?_ ?_ | refine r_mkL ?_ ?_)); exact Nat.le_of_ble_eq_true rfl) | ((with_reducible (first | refine e_mth ?_ | refine e_lenO ?_ | refine e_asO ?_ | refine e_truO ?_ | refine e_tupleO ?_ | refine e_tupleP ?_ | refine e_slO ?_ | refine e_reverse ?_ | refine e_listO ?_)); refine ⟨_, (by assumption), ?_⟩) | ((with_reducible (first | refine e_ixO ?_ | refine e_set ?_)); refine ⟨_, (by assumption), _, rfl, ?_⟩) | ((with_reducible (first | refine r_mulI ?_ ?_)); first | exact mul_ok (Or.inr (by decide)) | exact mul_ok (Or.inl (by decide))) | ((with_reducible (first | refine r_modI ?_ ?_ | refine r_fdvI ?_ ?_ | refine r_powI ?_ ?_)); decide) | dsimp only [endP])
        exact below_ok hn hs ho
      | made ms =>
        simp only [Out.due, Out.ix, Out.md]
        repeat (first | with_reducible (first | refine zs_seq ?_ | refine zs_asg ?_ | refine zs_drop ?_ | refine zs_ret ?_ | refine zs_retN ?_ | refine zs_next ?_ | refine zs_brk ?_ | refine zs_cnt ?_ | refine zs_if ?_ | refine zs_for ?_ | refine zs_while ?_ | refine z_true ?_ | refine z_false ?_ | refine r_k ?_ | refine r_op ?_ | refine r_un ?_ | refine r_nil ?_ | refine r_cons ?_ | refine r_tup ?_ | refine r_ptp ?_ | refine r_lst ?_ | refine r_ife ?_ | refine r_if1 ?_ | refine r_if0 ?_ | refine r_and ?_ | refine r_or ?_ | refine r_not ?_ | refine r_bool ?_ | refine r_asB ?_ | refine r_tru ?_ | refine r_truB ?_ | refine r_truI ?_ | refine r_andV ?_ | refine r_orV ?_ | refine r_andV1 ?_ | refine r_andV0 ?_ | refine r_orV1 ?_ | refine r_orV0 ?_ | refine r_notV ?_ | refine r_call ?_ | refine r_meth ?_ | refine r_addI ?_ | refine r_subI ?_ | refine r_negI ?_ | refine r_andI ?_ | refine r_ltI ?_ | refine r_gtI ?_ | refine r_leI ?_ | refine r_geI ?_ | refine r_eqI ?_ | refine r_eqS ?_ | refine r_neI ?_ | refine r_neS ?_ | refine r_is0 ?_ | refine r_is1 ?_ | refine r_is2 ?_ | refine r_is3 ?_ | refine r_isn0 ?_ | refine r_isn1 ?_ | refine r_isn2 ?_ | refine r_isn3 ?_ | refine r_lenT ?_ | refine r_intI ?_ | refine r_absI ?_ | refine r_sl ?_ | refine r_no ?_ | refine r_part ?_ | refine r_asP ?_ | refine r_slT ?_ | refine r_slR ?_ | refine r_iter ?_ | refine r_asT ?_ | refine r_asPt ?_ | refine r_asRo ?_ | refine r_rng1 ?_ | refine r_gNm ?_ | refine r_gIx ?_ | refine r_comp ?_ | refine r_chain ?_ | refine r_chn1 ?_ | refine r_chn0 ?_ | refine r_isi ?_ | refine r_newL ?_ | refine r_ok ?_) | ((with_reducible (first | refine e_var ?_ | refine e_ixT ?_ | refine e_gTp ?_)); refine ⟨_, rfl, ?_⟩) | ((with_reducible (first | refine r_mkT ?_ ?_ | refine r_mkP ?_ ?_ | refine r_mkL ?_ ?_)); exact Nat.le_of_ble_eq_true rfl) | ((with_reducible (first | refine e_mth ?_ | refine e_lenO ?_ | refine e_asO ?_ | refine e_truO ?_ | refine e_tupleO ?_ | refine e_tupleP ?_ | refine e_slO ?_ | refine e_reverse ?_ | refine e_listO ?_)); refine ⟨_, (by assumption), ?_⟩) | ((with_reducible (first | refine e_ixO ?_ | refine e_set ?_)); refine ⟨_, (by assumption), _, rfl, ?_⟩) | ((with_reducible (first | refine r_mulI ?_ ?_)); first | exact mul_ok (Or.inr (by decide)) | exact mul_ok (Or.inl (by decide))) | ((with_reducible (first | refine r_modI ?_ ?_ | refine r_fdvI ?_ ?_ | refine r_powI ?_ ?_)); decide) | dsimp only [endP])
        refine rw_eq isint_ok ?_
        repeat (first | with_reducible (first | refine zs_seq ?_ | refine zs_asg ?_ | refine zs_drop ?_ | refine zs_ret ?_ | refine zs_retN ?_ | refine zs_next ?_ | refine zs_brk ?_ | refine zs_cnt ?_ | refine zs_if ?_ | refine zs_for ?_ | refine zs_while ?_ | refine z_true ?_ | refine z_false ?_ | refine r_k ?_ | refine r_op ?_ | refine r_un ?_ | refine r_nil ?_ | refine r_cons ?_ | refine r_tup ?_ | refine r_ptp ?_ | refine r_lst ?_ | refine r_ife ?_ | refine r_if1 ?_ | refine r_if0 ?_ | refine r_and ?_ | refine r_or ?_ | refine r_not ?_ | refine r_bool ?_ | refine r_asB ?_ | refine r_tru ?_ | refine r_truB ?_ | refine r_truI ?_ | refine r_andV ?_ | refine r_orV ?_ | refine r_andV1 ?_ | refine r_andV0 ?_ | refine r_orV1 ?_ | refine r_orV0 ?_ | refine r_notV ?_ | refine r_call ?_ | refine r_meth ?_ | refine r_addI ?_ | refine r_subI ?_ | refine r_negI ?_ | refine r_andI ?_ | refine r_ltI ?_ | refine r_gtI ?_ | refine r_leI ?_ | refine r_geI ?_ | refine r_eqI ?_ | refine r_eqS ?_ | refine r_neI ?_ | refine r_neS ?_ | refine r_is0 ?_ | refine r_is1 ?_ | refine r_is2 ?_ | refine r_is3 ?_ | refine r_isn0 ?_ | refine r_isn1 ?_ | refine r_isn2 ?_ | refine r_isn3 ?_ | refine r_lenT ?_ | refine r_intI ?_ | refine r_absI ?_ | refine r_sl ?_ | refine r_no ?_ | refine r_part ?_ | refine r_asP ?_ | refine r_slT ?_ | refine r_slR ?_ | refine r_iter ?_ | refine r_asT ?_ | refine r_asPt ?_ | refine r_asRo ?_ | refine r_rng1 ?_ | refine r_gNm ?_ | refine r_gIx ?_ | refine r_comp ?_ | refine r_chain ?_ | refine r_chn1 ?_ | refine r_chn0 ?_ | refine r_isi ?_ | refine r_newL ?_ | refine r_ok ?_) | ((with_reducible (first | refine e_var ?_ | refine e_ixT ?_ | refine e_gTp ?_)); refine ⟨_, rfl, ?_⟩) | ((with_reducible (first | refine r_mkT ?_ ?_ | refine r_mkP ?_ ?_ | refine r_mkL ?_ ?_)); exact Nat.le_of_ble_eq_true rfl) | ((with_reducible (first | refine e_mth ?_ | refine e_lenO ?_ | refine e_asO ?_ | refine e_truO ?_ | refine e_tupleO ?_ | refine e_tupleP ?_ | refine e_slO ?_ | refine e_reverse ?_ | refine e_listO ?_)); refine ⟨_, (by assumption), ?_⟩) | ((with_reducible (first | refine e_ixO ?_ | refine e_set ?_)); refine ⟨_, (by assumption), _, rfl, ?_⟩) | ((with_reducible (first | refine r_mulI ?_ ?_)); first | exact mul_ok (Or.inr (by decide)) | exact mul_ok (Or.inl (by decide))) | ((with_reducible (first | refine r_modI ?_ ?_ | refine r_fdvI ?_ ?_ | refine r_powI ?_ ?_)); decide) | dsimp only [endP])
        refine r_if0 ?_
        repeat (first | with_reducible (first | refine zs_seq ?_ | refine zs_asg ?_ | refine zs_drop ?_ | refine zs_ret ?_ | refine zs_retN ?_ | refine zs_next ?_ | refine zs_brk ?_ | refine zs_cnt ?_ | refine zs_if ?_ | refine zs_for ?_ | refine zs_while ?_ | refine z_true ?_ | refine z_false ?_ | refine r_k ?_ | refine r_op ?_ | refine r_un ?_ | refine r_nil ?_ | refine r_cons ?_ | refine r_tup ?_ | refine r_ptp ?_ | refine r_lst ?_ | refine r_ife ?_ | refine r_if1 ?_ | refine r_if0 ?_ | refine r_and ?_ | refine r_or ?_ | refine r_not ?_ | refine r_bool ?_ | refine r_asB ?_ | refine r_tru ?_ | refine r_truB ?_ | refine r_truI ?_ | refine r_andV ?_ | refine r_orV ?_ | refine r_andV1 ?_ | refine r_andV0 ?_ | refine r_orV1 ?_ | refine r_orV0 ?_ | refine r_notV ?_ | refine r_call ?_ | refine r_meth ?_ | refine r_addI ?_ | refine r_subI ?_ | refine r_negI ?_ | refine r_andI ?_ | refine r_ltI ?_ | refine r_gtI ?_ | refine r_leI ?_ | refine r_geI ?_ | refine r_eqI ?_ | refine r_eqS ?_ | refine r_neI ?_ | refine r_neS ?_ | refine r_is0 ?_ | refine r_is1 ?_ | refine r_is2 ?_ | refine r_is3 ?_ | refine r_isn0 ?_ | refine r_isn1 ?_ | refine r_isn2 ?_ | refine r_isn3 ?_ | refine r_lenT ?_ | refine r_intI ?_ | refine r_absI ?_ | refine r_sl ?_ | refine r_no ?_ | refine r_part ?_ | refine r_asP ?_ | refine r_slT ?_ | refine r_slR ?_ | refine r_iter ?_ | refine r_asT ?_ | refine r_asPt ?_ | refine r_asRo ?_ | refine r_rng1 ?_ | refine r_gNm ?_ | refine r_gIx ?_ | refine r_comp ?_ | refine r_chain ?_ | refine r_chn1 ?_ | refine r_chn0 ?_ | refine r_isi ?_ | refine r_newL ?_ | refine r_ok ?_) | ((with_reducible (first | refine e_var ?_ | refine e_ixT ?_ | refine e_gTp ?_)); refine ⟨_, rfl, ?_⟩) | ((with_reducible (first | refine r_mkT ?_ ?_ | refine r_mkP ?_ ?_ | refine r_mkL ?_ ?_)); exact Nat.le_of_ble_eq_true rfl) | ((with_reducible (first | refine e_mth ?_ | refine e_lenO ?_ | refine e_asO ?_ | refine e_truO ?_ | refine e_tupleO ?_ | refine e_tupleP ?_ | refine e_slO ?_ | refine e_reverse ?_ | refine e_listO ?_)); refine ⟨_, (by assumption), ?_⟩) | ((with_reducible (first | refine e_ixO ?_ | refine e_set ?_)); refine ⟨_, (by assumption), _, rfl, ?_⟩) | ((with_reducible (first | refine r_mulI ?_ ?_)); first | exact mul_ok (Or.inr (by decide)) | exact mul_ok (Or.inl (by decide))) | ((with_reducible (first | refine r_modI ?_ ?_ | refine r_fdvI ?_ ?_ | refine r_powI ?_ ?_)); decide) | dsimp only [endP])
        refine r_nno rfl ?_
        repeat (first | with_reducible (first | refine zs_seq ?_ | refine zs_asg ?_ | refine zs_drop ?_ | refine zs_ret ?_ | refine zs_retN ?_ | refine zs_next ?_ | refine zs_brk ?_ | refine zs_cnt ?_ | refine zs_if ?_ | refine zs_for ?_ | refine zs_while ?_ | refine z_true ?_ | refine z_false ?_ | refine r_k ?_ | refine r_op ?_ | refine r_un ?_ | refine r_nil ?_ | refine r_cons ?_ | refine r_tup ?_ | refine r_ptp ?_ | refine r_lst ?_ | refine r_ife ?_ | refine r_if1 ?_ | refine r_if0 ?_ | refine r_and ?_ | refine r_or ?_ | refine r_not ?_ | refine r_bool ?_ | refine r_asB ?_ | refine r_tru ?_ | refine r_truB ?_ | refine r_truI ?_ | refine r_andV ?_ | refine r_orV ?_ | refine r_andV1 ?_ | refine r_andV0 ?_ | refine r_orV1 ?_ | refine r_orV0 ?_ | refine r_notV ?_ | refine r_call ?_ | refine r_meth ?_ | refine r_addI ?_ | refine r_subI ?_ | refine r_negI ?_ | refine r_andI ?_ | refine r_ltI ?_ | refine r_gtI ?_ | refine r_leI ?_ | refine r_geI ?_ | refine r_eqI ?_ | refine r_eqS ?_ | refine r_neI ?_ | refine r_neS ?_ | refine r_is0 ?_ | refine r_is1 ?_ | refine r_is2 ?_ | refine r_is3 ?_ | refine r_isn0 ?_ | refine r_isn1 ?_ | refine r_isn2 ?_ | refine r_isn3 ?_ | refine r_lenT ?_ | refine r_intI ?_ | refine r_absI ?_ | refine r_sl ?_ | refine r_no ?_ | refine r_part ?_ | refine r_asP ?_ | refine r_slT ?_ | refine r_slR ?_ | refine r_iter ?_ | refine r_asT ?_ | refine r_asPt ?_ | refine r_asRo ?_ | refine r_rng1 ?_ | refine r_gNm ?_ | refine r_gIx ?_ | refine r_comp ?_ | refine r_chain ?_ | refine r_chn1 ?_ | refine r_chn0 ?_ | refine r_isi ?_ | refine r_newL ?_ | refine r_ok ?_) | ((with_reducible (first | refine e_var ?_ | refine e_ixT ?_ | refine e_gTp ?_)); refine ⟨_, rfl, ?_⟩) | ((with_reducible (first | refine r_mkT ?_ ?_ | refine r_mkP ?_ ?_ | refine r_mkL ?_ ?_)); exact Nat.le_of_ble_eq_true rfl) | ((with_reducible (first | refine e_mth ?_ | refine e_lenO ?_ | refine e_asO ?_ | refine e_truO ?_ | refine e_tupleO ?_ | refine e_tupleP ?_ | refine e_slO ?_ | refine e_reverse ?_ | refine e_listO ?_)); refine ⟨_, (by assumption), ?_⟩) | ((with_reducible (first | refine e_ixO ?_ | refine e_set ?_)); refine ⟨_, (by assumption), _, rfl, ?_⟩) | ((with_reducible (first | refine r_mulI ?_ ?_)); first | exact mul_ok (Or.inr (by decide)) | exact mul_ok (Or.inl (by decide))) | ((with_reducible (first | refine r_modI ?_ ?_ | refine r_fdvI ?_ ?_ | refine r_powI ?_ ?_)); decide) | dsimp only [endP])
        refine z_false ?_
        repeat (first | with_reducible (first | refine zs_seq ?_ | refine zs_asg ?_ | refine zs_drop ?_ | refine zs_ret ?_ | refine zs_retN ?_ | refine zs_next ?_ | refine zs_brk ?_ | refine zs_cnt ?_ | refine zs_if ?_ | refine zs_for ?_ | refine zs_while ?_ | refine z_true ?_ | refine z_false ?_ | refine r_k ?_ | refine r_op ?_ | refine r_un ?_ | refine r_nil ?_ | refine r_cons ?_ | refine r_tup ?_ | refine r_ptp ?_ | refine r_lst ?_ | refine r_ife ?_ | refine r_if1 ?_ | refine r_if0 ?_ | refine r_and ?_ | refine r_or ?_ | refine r_not ?_ | refine r_bool ?_ | refine r_asB ?_ | refine r_tru ?_ | refine r_truB ?_ | refine r_truI ?_ | refine r_andV ?_ | refine r_orV ?_ | refine r_andV1 ?_ | refine r_andV0 ?_ | refine r_orV1 ?_ | refine r_orV0 ?_ | refine r_notV ?_ | refine r_call ?_ | refine r_meth ?_ | refine r_addI ?_ | refine r_subI ?_ | refine r_negI ?_ | refine r_andI ?_ | refine r_ltI ?_ | refine r_gtI ?_ | refine r_leI ?_ | refine r_geI ?_ | refine r_eqI ?_ | refine r_eqS ?_ | refine r_neI ?_ | refine r_neS ?_ | refine r_is0 ?_ | refine r_is1 ?_ | refine r_is2 ?_ | refine r_is3 ?_ | refine r_isn0 ?_ | refine r_isn1 ?_ | refine r_isn2 ?_ | refine r_isn3 ?_ | refine r_lenT ?_ | refine r_intI ?_ | refine r_absI ?_ | refine r_sl ?_ | refine r_no ?_ | refine r_part ?_ | refine r_asP ?_ | refine r_slT ?_ | refine r_slR ?_ | refine r_iter ?_ | refine r_asT ?_ | refine r_asPt ?_ | refine r_asRo ?_ | refine r_rng1 ?_ | refine r_gNm ?_ | refine r_gIx ?_ | refine r_comp ?_ | refine r_chain ?_ | refine r_chn1 ?_ | refine r_chn0 ?_ | refine r_isi ?_ | refine r_newL ?_ | refine r_ok ?_) | ((with_reducible (first | refine e_var ?_ | refine e_ixT ?_ | refine e_gTp ?_)); refine ⟨_, rfl, ?_⟩) | ((with_reducible (first | refine r_mkT ?_ ?_ | refine r_mkP ?_ ?_ | refine r_mkL ?_ ?_)); exact Nat.le_of_ble_eq_true rfl) | ((with_reducible (first | refine e_mth ?_ | refine e_lenO ?_ | refine e_asO ?_ | refine e_truO ?_ | refine e_tupleO ?_ | refine e_tupleP ?_ | refine e_slO ?_ | refine e_reverse ?_ | refine e_listO ?_)); refine ⟨_, (by assumption), ?_⟩) | ((with_reducible (first | refine e_ixO ?_ | refine e_set ?_)); refine ⟨_, (by assumption), _, rfl, ?_⟩) | ((with_reducible (first | refine r_mulI ?_ ?_)); first | exact mul_ok (Or.inr (by decide)) | exact mul_ok (Or.inl (by decide))) | ((with_reducible (first | refine r_modI ?_ ?_ | refine r_fdvI ?_ ?_ | refine r_powI ?_ ?_)); decide) | dsimp only [endP])
        refine z_no (by omega) ?_
        repeat (first | with_reducible (first | refine zs_seq ?_ | refine zs_asg ?_ | refine zs_drop ?_ | refine zs_ret ?_ | refine zs_retN ?_ | refine zs_next ?_ | refine zs_brk ?_ | refine zs_cnt ?_ | refine zs_if ?_ | refine zs_for ?_ | refine zs_while ?_ | refine z_true ?_ | refine z_false ?_ | refine r_k ?_ | refine r_op ?_ | refine r_un ?_ | refine r_nil ?_ | refine r_cons ?_ | refine r_tup ?_ | refine r_ptp ?_ | refine r_lst ?_ | refine r_ife ?_ | refine r_if1 ?_ | refine r_if0 ?_ | refine r_and ?_ | refine r_or ?_ | refine r_not ?_ | refine r_bool ?_ | refine r_asB ?_ | refine r_tru ?_ | refine r_truB ?_ | refine r_truI ?_ | refine r_andV ?_ | refine r_orV ?_ | refine r_andV1 ?_ | refine r_andV0 ?_ | refine r_orV1 ?_ | refine r_orV0 ?_ | refine r_notV ?_ | refine r_call ?_ | refine r_meth ?_ | refine r_addI ?_ | refine r_subI ?_ | refine r_negI ?_ | refine r_andI ?_ | refine r_ltI ?_ | refine r_gtI ?_ | refine r_leI ?_ | refine r_geI ?_ | refine r_eqI ?_ | refine r_eqS ?_ | refine r_neI ?_ | refine r_neS ?_ | refine r_is0 ?_ | refine r_is1 ?_ | refine r_is2 ?_ | refine r_is3 ?_ | refine r_isn0 ?_ | refine r_isn1 ?_ | refine r_isn2 ?_ | refine r_isn3 ?_ | refine r_lenT ?_ | refine r_intI ?_ | refine r_absI ?_ | refine r_sl ?_ | refine r_no ?_ | refine r_part ?_ | refine r_asP ?_ | refine r_slT ?_ | refine r_slR ?_ | refine r_iter ?_ | refine r_asT ?_ | refine r_asPt ?_ | refine r_asRo ?_ | refine r_rng1 ?_ | refine r_gNm ?_ | refine r_gIx ?_ | refine r_comp ?_ | refine r_chain ?_ | refine r_chn1 ?_ | refine r_chn0 ?_ | refine r_isi ?_ | refine r_newL ?_ | refine r_ok ?_) | ((with_reducible (first | refine e_var ?_ | refine e_ixT ?_ | refine e_gTp ?_)); refine ⟨_, rfl, ?_⟩) | ((with_reducible (first | refine r_mkT ?_ ?_ | refine r_mkP ?_ ?_ | refine r_mkL ?_ ?_)); exact Nat.le_of_ble_eq_true rfl) | ((with_reducible (first | refine e_mth ?_ | refine e_lenO ?_ | refine e_asO ?_ | refine e_truO ?_ | refine e_tupleO ?_ | refine e_tupleP ?_ | refine e_slO ?_ | refine e_reverse ?_ | refine e_listO ?_)); refine ⟨_, (by assumption), ?_⟩) | ((with_reducible (first | refine e_ixO ?_ | refine e_set ?_)); refine ⟨_, (by assumption), _, rfl, ?_⟩) | ((with_reducible (first | refine r_mulI ?_ ?_)); first | exact mul_ok (Or.inr (by decide)) | exact mul_ok (Or.inl (by decide))) | ((with_reducible (first | refine r_modI ?_ ?_ | refine r_fdvI ?_ ?_ | refine r_powI ?_ ?_)); decide) | dsimp only [endP])
        refine r_asIsi rfl rfl ?_
        repeat (first | with_reducible (first | refine zs_seq ?_ | refine zs_asg ?_ | refine zs_drop ?_ | refine zs_ret ?_ | refine zs_retN ?_ | refine zs_next ?_ | refine zs_brk ?_ | refine zs_cnt ?_ | refine zs_if ?_ | refine zs_for ?_ | refine zs_while ?_ | refine z_true ?_ | refine z_false ?_ | refine r_k ?_ | refine r_op ?_ | refine r_un ?_ | refine r_nil ?_ | refine r_cons ?_ | refine r_tup ?_ | refine r_ptp ?_ | refine r_lst ?_ | refine r_ife ?_ | refine r_if1 ?_ | refine r_if0 ?_ | refine r_and ?_ | refine r_or ?_ | refine r_not ?_ | refine r_bool ?_ | refine r_asB ?_ | refine r_tru ?_ | refine r_truB ?_ | refine r_truI ?_ | refine r_andV ?_ | refine r_orV ?_ | refine r_andV1 ?_ | refine r_andV0 ?_ | refine r_orV1 ?_ | refine r_orV0 ?_ | refine r_notV ?_ | refine r_call ?_ | refine r_meth ?_ | refine r_addI ?_ | refine r_subI ?_ | refine r_negI ?_ | refine r_andI ?_ | refine r_ltI ?_ | refine r_gtI ?_ | refine r_leI ?_ | refine r_geI ?_ | refine r_eqI ?_ | refine r_eqS ?_ | refine r_neI ?_ | refine r_neS ?_ | refine r_is0 ?_ | refine r_is1 ?_ | refine r_is2 ?_ | refine r_is3 ?_ | refine r_isn0 ?_ | refine r_isn1 ?_ | refine r_isn2 ?_ | refine r_isn3 ?_ | refine r_lenT ?_ | refine r_intI ?_ | refine r_absI ?_ | refine r_sl ?_ | refine r_no ?_ | refine r_part ?_ | refine r_asP ?_ | refine r_slT ?_ | refine r_slR ?_ | refine r_iter ?_ | refine r_asT ?_ | refine r_asPt ?_ | refine r_asRo ?_ | refine r_rng1 ?_ | refine r_gNm ?_ | refine r_gIx ?_ | refine r_comp ?_ | refine r_chain ?_ | refine r_chn1 ?_ | refine r_chn0 ?_ | refine r_isi ?_ | refine r_newL ?_ | refine r_ok ?_) | ((with_reducible (first | refine e_var ?_ | refine e_ixT ?_ | refine e_gTp ?_)); refine ⟨_, rfl, ?_⟩) | ((with_reducible (first | refine r_mkT ?_ ?_ | refine r_mkP ?_ ?_ | refine r_mkL ?_ ?_)); exact Nat.le_of_ble_eq_true rfl) | ((with_reducible (first | refine e_mth ?_ | refine e_lenO ?_ | refine e_asO ?_ | refine e_truO ?_ | refine e_tupleO ?_ | refine e_tupleP ?_ | refine e_slO ?_ | refine e_reverse ?_ | refine e_listO ?_)); refine ⟨_, (by assumption), ?_⟩) | ((with_reducible (first | refine e_ixO ?_ | refine e_set ?_)); refine ⟨_, (by assumption), _, rfl, ?_⟩) | ((with_reducible (first | refine r_mulI ?_ ?_)); first | exact mul_ok (Or.inr (by decide)) | exact mul_ok (Or.inl (by decide))) | ((with_reducible (first | refine r_modI ?_ ?_ | refine r_fdvI ?_ ?_ | refine r_powI ?_ ?_)); decide) | dsimp only [endP])
        refine r_if0 ?_
        repeat (first | with_reducible (first | refine zs_seq ?_ | refine zs_asg ?_ | refine zs_drop ?_ | refine zs_ret ?_ | refine zs_retN ?_ | refine zs_next ?_ | refine zs_brk ?_ | refine zs_cnt ?_ | refine zs_if ?_ | refine zs_for ?_ | refine zs_while ?_ | refine z_true ?_ | refine z_false ?_ | refine r_k ?_ | refine r_op ?_ | refine r_un ?_ | refine r_nil ?_ | refine r_cons ?_ | refine r_tup ?_ | refine r_ptp ?_ | refine r_lst ?_ | refine r_ife ?_ | refine r_if1 ?_ | refine r_if0 ?_ | refine r_and ?_ | refine r_or ?_ | refine r_not ?_ | refine r_bool ?_ | refine r_asB ?_ | refine r_tru ?_ | refine r_truB ?_ | refine r_truI ?_ | refine r_andV ?_ | refine r_orV ?_ | refine r_andV1 ?_ | refine r_andV0 ?_ | refine r_orV1 ?_ | refine r_orV0 ?_ | refine r_notV ?_ | refine r_call ?_ | refine r_meth ?_ | refine r_addI ?_ | refine r_subI ?_ | refine r_negI ?_ | refine r_andI ?_ | refine r_ltI ?_ | refine r_gtI ?_ | refine r_leI ?_ | refine r_geI ?_ | refine r_eqI ?_ | refine r_eqS ?_ | refine r_neI ?_ | refine r_neS ?_ | refine r_is0 ?_ | refine r_is1 ?_ | refine r_is2 ?_ | refine r_is3 ?_ | refine r_isn0 ?_ | refine r_isn1 ?_ | refine r_isn2 ?_ | refine r_isn3 ?_ | refine r_lenT ?_ | refine r_intI ?_ | refine r_absI ?_ | refine r_sl ?_ | refine r_no ?_ | refine r_part ?_ | refine r_asP ?_ | refine r_slT ?_ | refine r_slR ?_ | refine r_iter ?_ | refine r_asT ?_ | refine r_asPt ?_ | refine r_asRo ?_ | refine r_rng1 ?_ | refine r_gNm ?_ | refine r_gIx ?_ | refine r_comp ?_ | refine r_chain ?_ | refine r_chn1 ?_ | refine r_chn0 ?_ | refine r_isi ?_ | refine r_newL ?_ | refine r_ok ?_) | ((with_reducible (first | refine e_var ?_ | refine e_ixT ?_ | refine e_gTp ?_)); refine ⟨_, rfl, ?_⟩) | ((with_reducible (first | refine r_mkT ?_ ?_ | refine r_mkP ?_ ?_ | refine r_mkL ?_ ?_)); exact Nat.le_of_ble_eq_true rfl) | ((with_reducible (first | refine e_mth ?_ | refine e_lenO ?_ | refine e_asO ?_ | refine e_truO ?_ | refine e_tupleO ?_ | refine e_tupleP ?_ | refine e_slO ?_ | refine e_reverse ?_ | refine e_listO ?_)); refine ⟨_, (by assumption), ?_⟩) | ((with_reducible (first | refine e_ixO ?_ | refine e_set ?_)); refine ⟨_, (by assumption), _, rfl, ?_⟩) | ((with_reducible (first | refine r_mulI ?_ ?_)); first | exact mul_ok (Or.inr (by decide)) | exact mul_ok (Or.inl (by decide))) | ((with_reducible (first | refine r_modI ?_ ?_ | refine r_fdvI ?_ ?_ | refine r_powI ?_ ?_)); decide) | dsimp only [endP])
        refine r_neD (eq_tups _ _) ?_
        repeat (first | with_reducible (first | refine zs_seq ?_ | refine zs_asg ?_ | refine zs_drop ?_ | refine zs_ret ?_ | refine zs_retN ?_ | refine zs_next ?_ | refine zs_brk ?_ | refine zs_cnt ?_ | refine zs_if ?_ | refine zs_for ?_ | refine zs_while ?_ | refine z_true ?_ | refine z_false ?_ | refine r_k ?_ | refine r_op ?_ | refine r_un ?_ | refine r_nil ?_ | refine r_cons ?_ | refine r_tup ?_ | refine r_ptp ?_ | refine r_lst ?_ | refine r_ife ?_ | refine r_if1 ?_ | refine r_if0 ?_ | refine r_and ?_ | refine r_or ?_ | refine r_not ?_ | refine r_bool ?_ | refine r_asB ?_ | refine r_tru ?_ | refine r_truB ?_ | refine r_truI ?_ | refine r_andV ?_ | refine r_orV ?_ | refine r_andV1 ?_ | refine r_andV0 ?_ | refine r_orV1 ?_ | refine r_orV0 ?_ | refine r_notV ?_ | refine r_call ?_ | refine r_meth ?_ | refine r_addI ?_ | refine r_subI ?_ | refine r_negI ?_ | refine r_andI ?_ | refine r_ltI ?_ | refine r_gtI ?_ | refine r_leI ?_ | refine r_geI ?_ | refine r_eqI ?_ | refine r_eqS ?_ | refine r_neI ?_ | refine r_neS ?_ | refine r_is0 ?_ | refine r_is1 ?_ | refine r_is2 ?_ | refine r_is3 ?_ | refine r_isn0 ?_ | refine r_isn1 ?_ | refine r_isn2 ?_ | refine r_isn3 ?_ | refine r_lenT ?_ | refine r_intI ?_ | refine r_absI ?_ | refine r_sl ?_ | refine r_no ?_ | refine r_part ?_ | refine r_asP ?_ | refine r_slT ?_ | refine r_slR ?_ | refine r_iter ?_ | refine r_asT ?_ | refine r_asPt ?_ | refine r_asRo ?_ | refine r_rng1 ?_ | refine r_gNm ?_ | refine r_gIx ?_ | refine r_comp ?_ | refine r_chain ?_ | refine r_chn1 ?_ | refine r_chn0 ?_ | refine r_isi ?_ | refine r_newL ?_ | refine r_ok ?_) | ((with_reducible (first | refine e_var ?_ | refine e_ixT ?_ | refine e_gTp ?_)); refine ⟨_, rfl, ?_⟩) | ((with_reducible (first | refine r_mkT ?_ ?_ | refine r_mkP ?_ ?_ | refine r_mkL ?_ ?_)); exact Nat.le_of_ble_eq_true rfl) | ((with_reducible (first | refine e_mth ?_ | refine e_lenO ?_ | refine e_asO ?_ | refine e_truO ?_ | refine e_tupleO ?_ | refine e_tupleP ?_ | refine e_slO ?_ | refine e_reverse ?_ | refine e_listO ?_)); refine ⟨_, (by assumption), ?_⟩) | ((with_reducible (first | refine e_ixO ?_ | refine e_set ?_)); refine ⟨_, (by assumption), _, rfl, ?_⟩) | ((with_reducible (first | refine r_mulI ?_ ?_)); first | exact mul_ok (Or.inr (by decide)) | exact mul_ok (Or.inl (by decide))) | ((with_reducible (first | refine r_modI ?_ ?_ | refine r_fdvI ?_ ?_ | refine r_powI ?_ ?_)); decide) | dsimp only [endP])
        refine z_nno rfl ?_
        repeat (first | with_reducible (first | refine zs_seq ?_ | refine zs_asg ?_ | refine zs_drop ?_ | refine zs_ret ?_ | refine zs_retN ?_ | refine zs_next ?_ | refine zs_brk ?_ | refine zs_cnt ?_ | refine zs_if ?_ | refine zs_for ?_ | refine zs_while ?_ | refine z_true ?_ | refine z_false ?_ | refine r_k ?_ | refine r_op ?_ | refine r_un ?_ | refine r_nil ?_ | refine r_cons ?_ | refine r_tup ?_ | refine r_ptp ?_ | refine r_lst ?_ | refine r_ife ?_ | refine r_if1 ?_ | refine r_if0 ?_ | refine r_and ?_ | refine r_or ?_ | refine r_not ?_ | refine r_bool ?_ | refine r_asB ?_ | refine r_tru ?_ | refine r_truB ?_ | refine r_truI ?_ | refine r_andV ?_ | refine r_orV ?_ | refine r_andV1 ?_ | refine r_andV0 ?_ | refine r_orV1 ?_ | refine r_orV0 ?_ | refine r_notV ?_ | refine r_call ?_ | refine r_meth ?_ | refine r_addI ?_ | refine r_subI ?_ | refine r_negI ?_ | refine r_andI ?_ | refine r_ltI ?_ | refine r_gtI ?_ | refine r_leI ?_ | refine r_geI ?_ | refine r_eqI ?_ | refine r_eqS ?_ | refine r_neI ?_ | refine r_neS ?_ | refine r_is0 ?_ | refine r_is1 ?_ | refine r_is2 ?_ | refine r_is3 ?_ | refine r_isn0 ?_ | refine r_isn1 ?_ | refine r_isn2 ?_ | refine r_isn3 ?_ | refine r_lenT ?_ | refine r_intI ?_ | refine r_absI ?_ | refine r_sl ?_ | refine r_no ?_ | refine r_part ?_ | refine r_asP ?_ | refine r_slT ?_ | refine r_slR ?_ | refine r_iter ?_ | refine r_asT ?_ | refine r_asPt ?_ | refine r_asRo ?_ | refine r_rng1 ?_ | refine r_gNm ?_ | refine r_gIx ?_ | refine r_comp ?_ | refine r_chain ?_ | refine r_chn1 ?_ | refine r_chn0 ?_ | refine r_isi ?_ | refine r_newL ?_ | refine r_ok ?_) | ((with_reducible (first | refine e_var ?_ | refine e_ixT ?_ | refine e_gTp ?_)); refine ⟨_, rfl, ?_⟩) | ((with_reducible (first | refine r_mkT ?_ ?_ | refine r_mkP ?_ ?_ | refine r_mkL ?_ ?_)); exact Nat.le_of_ble_eq_true rfl) | ((with_reducible (first | refine e_mth ?_ | refine e_lenO ?_ | refine e_asO ?_ | refine e_truO ?_ | refine e_tupleO ?_ | refine e_tupleP ?_ | refine e_slO ?_ | refine e_reverse ?_ | refine e_listO ?_)); refine ⟨_, (by assumption), ?_⟩) | ((with_reducible (first | refine e_ixO ?_ | refine e_set ?_)); refine ⟨_, (by assumption), _, rfl, ?_⟩) | ((with_reducible (first | refine r_mulI ?_ ?_)); first | exact mul_ok (Or.inr (by decide)) | exact mul_ok (Or.inl (by decide))) | ((with_reducible (first | refine r_modI ?_ ?_ | refine r_fdvI ?_ ?_ | refine r_powI ?_ ?_)); decide) | dsimp only [endP])
        have hml := go_len _ _ _ _ ho
        simp at hml
        refine zw_for ms.length (fun i e s => ∃ z : Option D, e = [some (.tup (ns.map D.int)), some (.tup (ss.map Sp.d)), some (D.tup [D.int (-1), D.tup (ms.map D.int)]), some (.int (cnt ss : Nat)), y, some (.int (cnt ss : Nat)), some (.tup (ms.map D.int)), some (.int (-1)), some (.bl true), none, z]) (lt_fuel (by omega)) ⟨_, rfl⟩ ?_ ?_
        · rintro i _ s hi ⟨z, rfl⟩
          refine ⟨_, itT_map hi, ?_⟩
          repeat (first | with_reducible (first | refine zs_seq ?_ | refine zs_asg ?_ | refine zs_drop ?_ | refine zs_ret ?_ | refine zs_retN ?_ | refine zs_next ?_ | refine zs_brk ?_ | refine zs_cnt ?_ | refine zs_if ?_ | refine zs_for ?_ | refine zs_while ?_ | refine z_true ?_ | refine z_false ?_ | refine r_k ?_ | refine r_op ?_ | refine r_un ?_ | refine r_nil ?_ | refine r_cons ?_ | refine r_tup ?_ | refine r_ptp ?_ | refine r_lst ?_ | refine r_ife ?_ | refine r_if1 ?_ | refine r_if0 ?_ | refine r_and ?_ | refine r_or ?_ | refine r_not ?_ | refine r_bool ?_ | refine r_asB ?_ | refine r_tru ?_ | refine r_truB ?_ | refine r_truI ?_ | refine r_andV ?_ | refine r_orV ?_ | refine r_andV1 ?_ | refine r_andV0 ?_ | refine r_orV1 ?_ | refine r_orV0 ?_ | refine r_notV ?_ | refine r_call ?_ | refine r_meth ?_ | refine r_addI ?_ | refine r_subI ?_ | refine r_negI ?_ | refine r_andI ?_ | refine r_ltI ?_ | refine r_gtI ?_ | refine r_leI ?_ | refine r_geI ?_ | refine r_eqI ?_ | refine r_eqS ?_ | refine r_neI ?_ | refine r_neS ?_ | refine r_is0 ?_ | refine r_is1 ?_ | refine r_is2 ?_ | refine r_is3 ?_ | refine r_isn0 ?_ | refine r_isn1 ?_ | refine r_isn2 ?_ | refine r_isn3 ?_ | refine r_lenT ?_ | refine r_intI ?_ | refine r_absI ?_ | refine r_sl ?_ | refine r_no ?_ | refine r_part ?_ | refine r_asP ?_ | refine r_slT ?_ | refine r_slR ?_ | refine r_iter ?_ | refine r_asT ?_ | refine r_asPt ?_ | refine r_asRo ?_ | refine r_rng1 ?_ | refine r_gNm ?_ | refine r_gIx ?_ | refine r_comp ?_ | refine r_chain ?_ | refine r_chn1 ?_ | refine r_chn0 ?_ | refine r_isi ?_ | refine r_newL ?_ | refine r_ok ?_) | ((with_reducible (first | refine e_var ?_ | refine e_ixT ?_ | refine e_gTp ?_)); refine ⟨_, rfl, ?_⟩) | ((with_reducible (first | refine r_mkT ?_ ?_ | refine r_mkP ?_ ?_ | refine r_mkL ?_ ?_)); exact Nat.le_of_ble_eq_true rfl) | ((with_reducible (first | refine e_mth ?_ | refine e_lenO ?_ | refine e_asO ?_ | refine e_truO ?_ | refine e_tupleO ?_ | refine e_tupleP ?_ | refine e_slO ?_ | refine e_reverse ?_ | refine e_listO ?_)); refine ⟨_, (by assumption), ?_⟩) | ((with_reducible (first | refine e_ixO ?_ | refine e_set ?_)); refine ⟨_, (by assumption), _, rfl, ?_⟩) | ((with_reducible (first | refine r_mulI ?_ ?_)); first | exact mul_ok (Or.inr (by decide)) | exact mul_ok (Or.inl (by decide))) | ((with_reducible (first | refine r_modI ?_ ?_ | refine r_fdvI ?_ ?_ | refine r_powI ?_ ?_)); decide) | dsimp only [endP])
          refine rw_eq isint_ok ?_
          repeat (first | with_reducible (first | refine zs_seq ?_ | refine zs_asg ?_ | refine zs_drop ?_ | refine zs_ret ?_ | refine zs_retN ?_ | refine zs_next ?_ | refine zs_brk ?_ | refine zs_cnt ?_ | refine zs_if ?_ | refine zs_for ?_ | refine zs_while ?_ | refine z_true ?_ | refine z_false ?_ | refine r_k ?_ | refine r_op ?_ | refine r_un ?_ | refine r_nil ?_ | refine r_cons ?_ | refine r_tup ?_ | refine r_ptp ?_ | refine r_lst ?_ | refine r_ife ?_ | refine r_if1 ?_ | refine r_if0 ?_ | refine r_and ?_ | refine r_or ?_ | refine r_not ?_ | refine r_bool ?_ | refine r_asB ?_ | refine r_tru ?_ | refine r_truB ?_ | refine r_truI ?_ | refine r_andV ?_ | refine r_orV ?_ | refine r_andV1 ?_ | refine r_andV0 ?_ | refine r_orV1 ?_ | refine r_orV0 ?_ | refine r_notV ?_ | refine r_call ?_ | refine r_meth ?_ | refine r_addI ?_ | refine r_subI ?_ | refine r_negI ?_ | refine r_andI ?_ | refine r_ltI ?_ | refine r_gtI ?_ | refine r_leI ?_ | refine r_geI ?_ | refine r_eqI ?_ | refine r_eqS ?_ | refine r_neI ?_ | refine r_neS ?_ | refine r_is0 ?_ | refine r_is1 ?_ | refine r_is2 ?_ | refine r_is3 ?_ | refine r_isn0 ?_ | refine r_isn1 ?_ | refine r_isn2 ?_ | refine r_isn3 ?_ | refine r_lenT ?_ | refine r_intI ?_ | refine r_absI ?_ | refine r_sl ?_ | refine r_no ?_ | refine r_part ?_ | refine r_asP ?_ | refine r_slT ?_ | refine r_slR ?_ | refine r_iter ?_ | refine r_asT ?_ | refine r_asPt ?_ | refine r_asRo ?_ | refine r_rng1 ?_ | refine r_gNm ?_ | refine r_gIx ?_ | refine r_comp ?_ | refine r_chain ?_ | refine r_chn1 ?_ | refine r_chn0 ?_ | refine r_isi ?_ | refine r_newL ?_ | refine r_ok ?_) | ((with_reducible (first | refine e_var ?_ | refine e_ixT ?_ | refine e_gTp ?_)); refine ⟨_, rfl, ?_⟩) | ((with_reducible (first | refine r_mkT ?_ ?_ | refine r_mkP ?_ ?_ | refine r_mkL ?_ ?_)); exact Nat.le_of_ble_eq_true rfl) | ((with_reducible (first | refine e_mth ?_ | refine e_lenO ?_ | refine e_asO ?_ | refine e_truO ?_ | refine e_tupleO ?_ | refine e_tupleP ?_ | refine e_slO ?_ | refine e_reverse ?_ | refine e_listO ?_)); refine ⟨_, (by assumption), ?_⟩) | ((with_reducible (first | refine e_ixO ?_ | refine e_set ?_)); refine ⟨_, (by assumption), _, rfl, ?_⟩) | ((with_reducible (first | refine r_mulI ?_ ?_)); first | exact mul_ok (Or.inr (by decide)) | exact mul_ok (Or.inl (by decide))) | ((with_reducible (first | refine r_modI ?_ ?_ | refine r_fdvI ?_ ?_ | refine r_powI ?_ ?_)); decide) | dsimp only [endP])
          refine z_false ?_
          repeat (first | with_reducible (first | refine zs_seq ?_ | refine zs_asg ?_ | refine zs_drop ?_ | refine zs_ret ?_ | refine zs_retN ?_ | refine zs_next ?_ | refine zs_brk ?_ | refine zs_cnt ?_ | refine zs_if ?_ | refine zs_for ?_ | refine zs_while ?_ | refine z_true ?_ | refine z_false ?_ | refine r_k ?_ | refine r_op ?_ | refine r_un ?_ | refine r_nil ?_ | refine r_cons ?_ | refine r_tup ?_ | refine r_ptp ?_ | refine r_lst ?_ | refine r_ife ?_ | refine r_if1 ?_ | refine r_if0 ?_ | refine r_and ?_ | refine r_or ?_ | refine r_not ?_ | refine r_bool ?_ | refine r_asB ?_ | refine r_tru ?_ | refine r_truB ?_ | refine r_truI ?_ | refine r_andV ?_ | refine r_orV ?_ | refine r_andV1 ?_ | refine r_andV0 ?_ | refine r_orV1 ?_ | refine r_orV0 ?_ | refine r_notV ?_ | refine r_call ?_ | refine r_meth ?_ | refine r_addI ?_ | refine r_subI ?_ | refine r_negI ?_ | refine r_andI ?_ | refine r_ltI ?_ | refine r_gtI ?_ | refine r_leI ?_ | refine r_geI ?_ | refine r_eqI ?_ | refine r_eqS ?_ | refine r_neI ?_ | refine r_neS ?_ | refine r_is0 ?_ | refine r_is1 ?_ | refine r_is2 ?_ | refine r_is3 ?_ | refine r_isn0 ?_ | refine r_isn1 ?_ | refine r_isn2 ?_ | refine r_isn3 ?_ | refine r_lenT ?_ | refine r_intI ?_ | refine r_absI ?_ | refine r_sl ?_ | refine r_no ?_ | refine r_part ?_ | refine r_asP ?_ | refine r_slT ?_ | refine r_slR ?_ | refine r_iter ?_ | refine r_asT ?_ | refine r_asPt ?_ | refine r_asRo ?_ | refine r_rng1 ?_ | refine r_gNm ?_ | refine r_gIx ?_ | refine r_comp ?_ | refine r_chain ?_ | refine r_chn1 ?_ | refine r_chn0 ?_ | refine r_isi ?_ | refine r_newL ?_ | refine r_ok ?_) | ((with_reducible (first | refine e_var ?_ | refine e_ixT ?_ | refine e_gTp ?_)); refine ⟨_, rfl, ?_⟩) | ((with_reducible (first | refine r_mkT ?_ ?_ | refine r_mkP ?_ ?_ | refine r_mkL ?_ ?_)); exact Nat.le_of_ble_eq_true rfl) | ((with_reducible (first | refine e_mth ?_ | refine e_lenO ?_ | refine e_asO ?_ | refine e_truO ?_ | refine e_tupleO ?_ | refine e_tupleP ?_ | refine e_slO ?_ | refine e_reverse ?_ | refine e_listO ?_)); refine ⟨_, (by assumption), ?_⟩) | ((with_reducible (first | refine e_ixO ?_ | refine e_set ?_)); refine ⟨_, (by assumption), _, rfl, ?_⟩) | ((with_reducible (first | refine r_mulI ?_ ?_)); first | exact mul_ok (Or.inr (by decide)) | exact mul_ok (Or.inl (by decide))) | ((with_reducible (first | refine r_modI ?_ ?_ | refine r_fdvI ?_ ?_ | refine r_powI ?_ ?_)); decide) | dsimp only [endP])
          exact ⟨_, rfl⟩
        · rintro _ s ⟨z, rfl⟩
          refine ⟨itT_fin, ?_⟩
          repeat (first | with_reducible (first | refine zs_seq ?_ | refine zs_asg ?_ | refine zs_drop ?_ | refine zs_ret ?_ | refine zs_retN ?_ | refine zs_next ?_ | refine zs_brk ?_ | refine zs_cnt ?_ | refine zs_if ?_ | refine zs_for ?_ | refine zs_while ?_ | refine z_true ?_ | refine z_false ?_ | refine r_k ?_ | refine r_op ?_ | refine r_un ?_ | refine r_nil ?_ | refine r_cons ?_ | refine r_tup ?_ | refine r_ptp ?_ | refine r_lst ?_ | refine r_ife ?_ | refine r_if1 ?_ | refine r_if0 ?_ | refine r_and ?_ | refine r_or ?_ | refine r_not ?_ | refine r_bool ?_ | refine r_asB ?_ | refine r_tru ?_ | refine r_truB ?_ | refine r_truI ?_ | refine r_andV ?_ | refine r_orV ?_ | refine r_andV1 ?_ | refine r_andV0 ?_ | refine r_orV1 ?_ | refine r_orV0 ?_ | refine r_notV ?_ | refine r_call ?_ | refine r_meth ?_ | refine r_addI ?_ | refine r_subI ?_ | refine r_negI ?_ | refine r_andI ?_ | refine r_ltI ?_ | refine r_gtI ?_ | refine r_leI ?_ | refine r_geI ?_ | refine r_eqI ?_ | refine r_eqS ?_ | refine r_neI ?_ | refine r_neS ?_ | refine r_is0 ?_ | refine r_is1 ?_ | refine r_is2 ?_ | refine r_is3 ?_ | refine r_isn0 ?_ | refine r_isn1 ?_ | refine r_isn2 ?_ | refine r_isn3 ?_ | refine r_lenT ?_ | refine r_intI ?_ | refine r_absI ?_ | refine r_sl ?_ | refine r_no ?_ | refine r_part ?_ | refine r_asP ?_ | refine r_slT ?_ | refine r_slR ?_ | refine r_iter ?_ | refine r_asT ?_ | refine r_asPt ?_ | refine r_asRo ?_ | refine r_rng1 ?_ | refine r_gNm ?_ | refine r_gIx ?_ | refine r_comp ?_ | refine r_chain ?_ | refine r_chn1 ?_ | refine r_chn0 ?_ | refine r_isi ?_ | refine r_newL ?_ | refine r_ok ?_) | ((with_reducible (first | refine e_var ?_ | refine e_ixT ?_ | refine e_gTp ?_)); refine ⟨_, rfl, ?_⟩) | ((with_reducible (first | refine r_mkT ?_ ?_ | refine r_mkP ?_ ?_ | refine r_mkL ?_ ?_)); exact Nat.le_of_ble_eq_true rfl) | ((with_reducible (first | refine e_mth ?_ | refine e_lenO ?_ | refine e_asO ?_ | refine e_truO ?_ | refine e_tupleO ?_ | refine e_tupleP ?_ | refine e_slO ?_ | refine e_reverse ?_ | refine e_listO ?_)); refine ⟨_, (by assumption), ?_⟩) | ((with_reducible (first | refine e_ixO ?_ | refine e_set ?_)); refine ⟨_, (by assumption), _, rfl, ?_⟩) | ((with_reducible (first | refine r_mulI ?_ ?_)); first | exact mul_ok (Or.inr (by decide)) | exact mul_ok (Or.inl (by decide))) | ((with_reducible (first | refine r_modI ?_ ?_ | refine r_fdvI ?_ ?_ | refine r_powI ?_ ?_)); decide) | dsimp only [endP])
end Kw

namespace Kw
open Kc PySem
theorem law_ok {ns : List Int} : RW (F_law [.rol (ns.map D.int)] []) (fun d st => d = .bl true) noX := by
  refine rw_run rfl ?_
  unfold B_law
  simp only [List.map_cons, List.map_nil, List.cons_append, List.nil_append, List.replicate_succ, List.replicate_zero, Nat.reduceSub]
  repeat (first | with_reducible (first | refine zs_seq ?_ | refine zs_asg ?_ | refine zs_drop ?_ | refine zs_ret ?_ | refine zs_retN ?_ | refine zs_next ?_ | refine zs_brk ?_ | refine zs_cnt ?_ | refine zs_if ?_ | refine zs_for ?_ | refine zs_while ?_ | refine z_true ?_ | refine z_false ?_ | refine r_k ?_ | refine r_op ?_ | refine r_un ?_ | refine r_nil ?_ | refine r_cons ?_ | refine r_tup ?_ | refine r_ptp ?_ | refine r_lst ?_ | refine r_ife ?_ | refine r_if1 ?_ | refine r_if0 ?_ | refine r_and ?_ | refine r_or ?_ | refine r_not ?_ | refine r_bool ?_ | refine r_asB ?_ | refine r_tru ?_ | refine r_truB ?_ | refine r_truI ?_ | refine r_andV ?_ | refine r_orV ?_ | refine r_andV1 ?_ | refine r_andV0 ?_ | refine r_orV1 ?_ | refine r_orV0 ?_ | refine r_notV ?_ | refine r_call ?_ | refine r_meth ?_ | refine r_addI ?_ | refine r_subI ?_ | refine r_negI ?_ | refine r_andI ?_ | refine r_ltI ?_ | refine r_gtI ?_ | refine r_leI ?_ | refine r_geI ?_ | refine r_eqI ?_ | refine r_eqS ?_ | refine r_neI ?_ | refine r_neS ?_ | refine r_is0 ?_ | refine r_is1 ?_ | refine r_is2 ?_ | refine r_is3 ?_ | refine r_isn0 ?_ | refine r_isn1 ?_ | refine r_isn2 ?_ | refine r_isn3 ?_ | refine r_lenT ?_ | refine r_intI ?_ | refine r_absI ?_ | refine r_sl ?_ | refine r_no ?_ | refine r_part ?_ | refine r_asP ?_ | refine r_slT ?_ | refine r_slR ?_ | refine r_iter ?_ | refine r_asT ?_ | refine r_asPt ?_ | refine r_asRo ?_ | refine r_rng1 ?_ | refine r_gNm ?_ | refine r_gIx ?_ | refine r_comp ?_ | refine r_chain ?_ | refine r_chn1 ?_ | refine r_chn0 ?_ | refine r_isi ?_ | refine r_newL ?_ | refine r_ok ?_) | ((with_reducible (first | refine e_var ?_ | refine e_ixT ?_ | refine e_gTp ?_)); refine ⟨_, rfl, ?_⟩) | ((with_reducible (first | refine r_mkT ?_ ?_ | refine r_mkP ?_ ?_ | refine r_mkL ?_ ?_)); exact Nat.le_of_ble_eq_true rfl) | ((with_reducible (first | refine e_mth ?_ | refine e_lenO ?_ | refine e_asO ?_ | refine e_truO ?_ | refine e_tupleO ?_ | refine e_tupleP ?_ | refine e_slO ?_ | refine e_reverse ?_ | refine e_listO ?_)); refine ⟨_, (by assumption), ?_⟩) | ((with_reducible (first | refine e_ixO ?_ | refine e_set ?_)); refine ⟨_, (by assumption), _, rfl, ?_⟩) | ((with_reducible (first | refine r_mulI ?_ ?_)); first | exact mul_ok (Or.inr (by decide)) | exact mul_ok (Or.inl (by decide))) | ((with_reducible (first | refine r_modI ?_ ?_ | refine r_fdvI ?_ ?_ | refine r_powI ?_ ?_)); decide) | dsimp only [endP])
  refine (box_ok (ns := ns)).to ?_
  rintro _ s1 ⟨p, c, rfl, P1⟩
  repeat (first | with_reducible (first | refine zs_seq ?_ | refine zs_asg ?_ | refine zs_drop ?_ | refine zs_ret ?_ | refine zs_retN ?_ | refine zs_next ?_ | refine zs_brk ?_ | refine zs_cnt ?_ | refine zs_if ?_ | refine zs_for ?_ | refine zs_while ?_ | refine z_true ?_ | refine z_false ?_ | refine r_k ?_ | refine r_op ?_ | refine r_un ?_ | refine r_nil ?_ | refine r_cons ?_ | refine r_tup ?_ | refine r_ptp ?_ | refine r_lst ?_ | refine r_ife ?_ | refine r_if1 ?_ | refine r_if0 ?_ | refine r_and ?_ | refine r_or ?_ | refine r_not ?_ | refine r_bool ?_ | refine r_asB ?_ | refine r_tru ?_ | refine r_truB ?_ | refine r_truI ?_ | refine r_andV ?_ | refine r_orV ?_ | refine r_andV1 ?_ | refine r_andV0 ?_ | refine r_orV1 ?_ | refine r_orV0 ?_ | refine r_notV ?_ | refine r_call ?_ | refine r_meth ?_ | refine r_addI ?_ | refine r_subI ?_ | refine r_negI ?_ | refine r_andI ?_ | refine r_ltI ?_ | refine r_gtI ?_ | refine r_leI ?_ | refine r_geI ?_ | refine r_eqI ?_ | refine r_eqS ?_ | refine r_neI ?_ | refine r_neS ?_ | refine r_is0 ?_ | refine r_is1 ?_ | refine r_is2 ?_ | refine r_is3 ?_ | refine r_isn0 ?_ | refine r_isn1 ?_ | refine r_isn2 ?_ | refine r_isn3 ?_ | refine r_lenT ?_ | refine r_intI ?_ | refine r_absI ?_ | refine r_sl ?_ | refine r_no ?_ | refine r_part ?_ | refine r_asP ?_ | refine r_slT ?_ | refine r_slR ?_ | refine r_iter ?_ | refine r_asT ?_ | refine r_asPt ?_ | refine r_asRo ?_ | refine r_rng1 ?_ | refine r_gNm ?_ | refine r_gIx ?_ | refine r_comp ?_ | refine r_chain ?_ | refine r_chn1 ?_ | refine r_chn0 ?_ | refine r_isi ?_ | refine r_newL ?_ | refine r_ok ?_) | ((with_reducible (first | refine e_var ?_ | refine e_ixT ?_ | refine e_gTp ?_)); refine ⟨_, rfl, ?_⟩) | ((with_reducible (first | refine r_mkT ?_ ?_ | refine r_mkP ?_ ?_ | refine r_mkL ?_ ?_)); exact Nat.le_of_ble_eq_true rfl) | ((with_reducible (first | refine e_mth ?_ | refine e_lenO ?_ | refine e_asO ?_ | refine e_truO ?_ | refine e_tupleO ?_ | refine e_tupleP ?_ | refine e_slO ?_ | refine e_reverse ?_ | refine e_listO ?_)); refine ⟨_, (by assumption), ?_⟩) | ((with_reducible (first | refine e_ixO ?_ | refine e_set ?_)); refine ⟨_, (by assumption), _, rfl, ?_⟩) | ((with_reducible (first | refine r_mulI ?_ ?_)); first | exact mul_ok (Or.inr (by decide)) | exact mul_ok (Or.inl (by decide))) | ((with_reducible (first | refine r_modI ?_ ?_ | refine r_fdvI ?_ ?_ | refine r_powI ?_ ?_)); decide) | dsimp only [endP])
  refine (pair_ok P1).to ?_
  rintro _ s2 ⟨ms, ss, rfl, hm, hs, P2, x2⟩
  repeat (first | with_reducible (first | refine zs_seq ?_ | refine zs_asg ?_ | refine zs_drop ?_ | refine zs_ret ?_ | refine zs_retN ?_ | refine zs_next ?_ | refine zs_brk ?_ | refine zs_cnt ?_ | refine zs_if ?_ | refine zs_for ?_ | refine zs_while ?_ | refine z_true ?_ | refine z_false ?_ | refine r_k ?_ | refine r_op ?_ | refine r_un ?_ | refine r_nil ?_ | refine r_cons ?_ | refine r_tup ?_ | refine r_ptp ?_ | refine r_lst ?_ | refine r_ife ?_ | refine r_if1 ?_ | refine r_if0 ?_ | refine r_and ?_ | refine r_or ?_ | refine r_not ?_ | refine r_bool ?_ | refine r_asB ?_ | refine r_tru ?_ | refine r_truB ?_ | refine r_truI ?_ | refine r_andV ?_ | refine r_orV ?_ | refine r_andV1 ?_ | refine r_andV0 ?_ | refine r_orV1 ?_ | refine r_orV0 ?_ | refine r_notV ?_ | refine r_call ?_ | refine r_meth ?_ | refine r_addI ?_ | refine r_subI ?_ | refine r_negI ?_ | refine r_andI ?_ | refine r_ltI ?_ | refine r_gtI ?_ | refine r_leI ?_ | refine r_geI ?_ | refine r_eqI ?_ | refine r_eqS ?_ | refine r_neI ?_ | refine r_neS ?_ | refine r_is0 ?_ | refine r_is1 ?_ | refine r_is2 ?_ | refine r_is3 ?_ | refine r_isn0 ?_ | refine r_isn1 ?_ | refine r_isn2 ?_ | refine r_isn3 ?_ | refine r_lenT ?_ | refine r_intI ?_ | refine r_absI ?_ | refine r_sl ?_ | refine r_no ?_ | refine r_part ?_ | refine r_asP ?_ | refine r_slT ?_ | refine r_slR ?_ | refine r_iter ?_ | refine r_asT ?_ | refine r_asPt ?_ | refine r_asRo ?_ | refine r_rng1 ?_ | refine r_gNm ?_ | refine r_gIx ?_ | refine r_comp ?_ | refine r_chain ?_ | refine r_chn1 ?_ | refine r_chn0 ?_ | refine r_isi ?_ | refine r_newL ?_ | refine r_ok ?_) | ((with_reducible (first | refine e_var ?_ | refine e_ixT ?_ | refine e_gTp ?_)); refine ⟨_, rfl, ?_⟩) | ((with_reducible (first | refine r_mkT ?_ ?_ | refine r_mkP ?_ ?_ | refine r_mkL ?_ ?_)); exact Nat.le_of_ble_eq_true rfl) | ((with_reducible (first | refine e_mth ?_ | refine e_lenO ?_ | refine e_asO ?_ | refine e_truO ?_ | refine e_tupleO ?_ | refine e_tupleP ?_ | refine e_slO ?_ | refine e_reverse ?_ | refine e_listO ?_)); refine ⟨_, (by assumption), ?_⟩) | ((with_reducible (first | refine e_ixO ?_ | refine e_set ?_)); refine ⟨_, (by assumption), _, rfl, ?_⟩) | ((with_reducible (first | refine r_mulI ?_ ?_)); first | exact mul_ok (Or.inr (by decide)) | exact mul_ok (Or.inl (by decide))) | ((with_reducible (first | refine r_modI ?_ ?_ | refine r_fdvI ?_ ?_ | refine r_powI ?_ ?_)); decide) | dsimp only [endP])
  refine (pair_ok P2).to ?_
  rintro _ s3 ⟨ms2, ss2, rfl, hm2, hs2, P3, x3⟩
  repeat (first | with_reducible (first | refine zs_seq ?_ | refine zs_asg ?_ | refine zs_drop ?_ | refine zs_ret ?_ | refine zs_retN ?_ | refine zs_next ?_ | refine zs_brk ?_ | refine zs_cnt ?_ | refine zs_if ?_ | refine zs_for ?_ | refine zs_while ?_ | refine z_true ?_ | refine z_false ?_ | refine r_k ?_ | refine r_op ?_ | refine r_un ?_ | refine r_nil ?_ | refine r_cons ?_ | refine r_tup ?_ | refine r_ptp ?_ | refine r_lst ?_ | refine r_ife ?_ | refine r_if1 ?_ | refine r_if0 ?_ | refine r_and ?_ | refine r_or ?_ | refine r_not ?_ | refine r_bool ?_ | refine r_asB ?_ | refine r_tru ?_ | refine r_truB ?_ | refine r_truI ?_ | refine r_andV ?_ | refine r_orV ?_ | refine r_andV1 ?_ | refine r_andV0 ?_ | refine r_orV1 ?_ | refine r_orV0 ?_ | refine r_notV ?_ | refine r_call ?_ | refine r_meth ?_ | refine r_addI ?_ | refine r_subI ?_ | refine r_negI ?_ | refine r_andI ?_ | refine r_ltI ?_ | refine r_gtI ?_ | refine r_leI ?_ | refine r_geI ?_ | refine r_eqI ?_ | refine r_eqS ?_ | refine r_neI ?_ | refine r_neS ?_ | refine r_is0 ?_ | refine r_is1 ?_ | refine r_is2 ?_ | refine r_is3 ?_ | refine r_isn0 ?_ | refine r_isn1 ?_ | refine r_isn2 ?_ | refine r_isn3 ?_ | refine r_lenT ?_ | refine r_intI ?_ | refine r_absI ?_ | refine r_sl ?_ | refine r_no ?_ | refine r_part ?_ | refine r_asP ?_ | refine r_slT ?_ | refine r_slR ?_ | refine r_iter ?_ | refine r_asT ?_ | refine r_asPt ?_ | refine r_asRo ?_ | refine r_rng1 ?_ | refine r_gNm ?_ | refine r_gIx ?_ | refine r_comp ?_ | refine r_chain ?_ | refine r_chn1 ?_ | refine r_chn0 ?_ | refine r_isi ?_ | refine r_newL ?_ | refine r_ok ?_) | ((with_reducible (first | refine e_var ?_ | refine e_ixT ?_ | refine e_gTp ?_)); refine ⟨_, rfl, ?_⟩) | ((with_reducible (first | refine r_mkT ?_ ?_ | refine r_mkP ?_ ?_ | refine r_mkL ?_ ?_)); exact Nat.le_of_ble_eq_true rfl) | ((with_reducible (first | refine e_mth ?_ | refine e_lenO ?_ | refine e_asO ?_ | refine e_truO ?_ | refine e_tupleO ?_ | refine e_tupleP ?_ | refine e_slO ?_ | refine e_reverse ?_ | refine e_listO ?_)); refine ⟨_, (by assumption), ?_⟩) | ((with_reducible (first | refine e_ixO ?_ | refine e_set ?_)); refine ⟨_, (by assumption), _, rfl, ?_⟩) | ((with_reducible (first | refine r_mulI ?_ ?_)); first | exact mul_ok (Or.inr (by decide)) | exact mul_ok (Or.inl (by decide))) | ((with_reducible (first | refine r_modI ?_ ?_ | refine r_fdvI ?_ ?_ | refine r_powI ?_ ?_)); decide) | dsimp only [endP])
  refine (same_ok hm hs).to ?_
  rintro _ s4 rfl
  repeat (first | with_reducible (first | refine zs_seq ?_ | refine zs_asg ?_ | refine zs_drop ?_ | refine zs_ret ?_ | refine zs_retN ?_ | refine zs_next ?_ | refine zs_brk ?_ | refine zs_cnt ?_ | refine zs_if ?_ | refine zs_for ?_ | refine zs_while ?_ | refine z_true ?_ | refine z_false ?_ | refine r_k ?_ | refine r_op ?_ | refine r_un ?_ | refine r_nil ?_ | refine r_cons ?_ | refine r_tup ?_ | refine r_ptp ?_ | refine r_lst ?_ | refine r_ife ?_ | refine r_if1 ?_ | refine r_if0 ?_ | refine r_and ?_ | refine r_or ?_ | refine r_not ?_ | refine r_bool ?_ | refine r_asB ?_ | refine r_tru ?_ | refine r_truB ?_ | refine r_truI ?_ | refine r_andV ?_ | refine r_orV ?_ | refine r_andV1 ?_ | refine r_andV0 ?_ | refine r_orV1 ?_ | refine r_orV0 ?_ | refine r_notV ?_ | refine r_call ?_ | refine r_meth ?_ | refine r_addI ?_ | refine r_subI ?_ | refine r_negI ?_ | refine r_andI ?_ | refine r_ltI ?_ | refine r_gtI ?_ | refine r_leI ?_ | refine r_geI ?_ | refine r_eqI ?_ | refine r_eqS ?_ | refine r_neI ?_ | refine r_neS ?_ | refine r_is0 ?_ | refine r_is1 ?_ | refine r_is2 ?_ | refine r_is3 ?_ | refine r_isn0 ?_ | refine r_isn1 ?_ | refine r_isn2 ?_ | refine r_isn3 ?_ | refine r_lenT ?_ | refine r_intI ?_ | refine r_absI ?_ | refine r_sl ?_ | refine r_no ?_ | refine r_part ?_ | refine r_asP ?_ | refine r_slT ?_ | refine r_slR ?_ | refine r_iter ?_ | refine r_asT ?_ | refine r_asPt ?_ | refine r_asRo ?_ | refine r_rng1 ?_ | refine r_gNm ?_ | refine r_gIx ?_ | refine r_comp ?_ | refine r_chain ?_ | refine r_chn1 ?_ | refine r_chn0 ?_ | refine r_isi ?_ | refine r_newL ?_ | refine r_ok ?_) | ((with_reducible (first | refine e_var ?_ | refine e_ixT ?_ | refine e_gTp ?_)); refine ⟨_, rfl, ?_⟩) | ((with_reducible (first | refine r_mkT ?_ ?_ | refine r_mkP ?_ ?_ | refine r_mkL ?_ ?_)); exact Nat.le_of_ble_eq_true rfl) | ((with_reducible (first | refine e_mth ?_ | refine e_lenO ?_ | refine e_asO ?_ | refine e_truO ?_ | refine e_tupleO ?_ | refine e_tupleP ?_ | refine e_slO ?_ | refine e_reverse ?_ | refine e_listO ?_)); refine ⟨_, (by assumption), ?_⟩) | ((with_reducible (first | refine e_ixO ?_ | refine e_set ?_)); refine ⟨_, (by assumption), _, rfl, ?_⟩) | ((with_reducible (first | refine r_mulI ?_ ?_)); first | exact mul_ok (Or.inr (by decide)) | exact mul_ok (Or.inl (by decide))) | ((with_reducible (first | refine r_modI ?_ ?_ | refine r_fdvI ?_ ?_ | refine r_powI ?_ ?_)); decide) | dsimp only [endP])
  refine r_if0 ?_
  repeat (first | with_reducible (first | refine zs_seq ?_ | refine zs_asg ?_ | refine zs_drop ?_ | refine zs_ret ?_ | refine zs_retN ?_ | refine zs_next ?_ | refine zs_brk ?_ | refine zs_cnt ?_ | refine zs_if ?_ | refine zs_for ?_ | refine zs_while ?_ | refine z_true ?_ | refine z_false ?_ | refine r_k ?_ | refine r_op ?_ | refine r_un ?_ | refine r_nil ?_ | refine r_cons ?_ | refine r_tup ?_ | refine r_ptp ?_ | refine r_lst ?_ | refine r_ife ?_ | refine r_if1 ?_ | refine r_if0 ?_ | refine r_and ?_ | refine r_or ?_ | refine r_not ?_ | refine r_bool ?_ | refine r_asB ?_ | refine r_tru ?_ | refine r_truB ?_ | refine r_truI ?_ | refine r_andV ?_ | refine r_orV ?_ | refine r_andV1 ?_ | refine r_andV0 ?_ | refine r_orV1 ?_ | refine r_orV0 ?_ | refine r_notV ?_ | refine r_call ?_ | refine r_meth ?_ | refine r_addI ?_ | refine r_subI ?_ | refine r_negI ?_ | refine r_andI ?_ | refine r_ltI ?_ | refine r_gtI ?_ | refine r_leI ?_ | refine r_geI ?_ | refine r_eqI ?_ | refine r_eqS ?_ | refine r_neI ?_ | refine r_neS ?_ | refine r_is0 ?_ | refine r_is1 ?_ | refine r_is2 ?_ | refine r_is3 ?_ | refine r_isn0 ?_ | refine r_isn1 ?_ | refine r_isn2 ?_ | refine r_isn3 ?_ | refine r_lenT ?_ | refine r_intI ?_ | refine r_absI ?_ | refine r_sl ?_ | refine r_no ?_ | refine r_part ?_ | refine r_asP ?_ | refine r_slT ?_ | refine r_slR ?_ | refine r_iter ?_ | refine r_asT ?_ | refine r_asPt ?_ | refine r_asRo ?_ | refine r_rng1 ?_ | refine r_gNm ?_ | refine r_gIx ?_ | refine r_comp ?_ | refine r_chain ?_ | refine r_chn1 ?_ | refine r_chn0 ?_ | refine r_isi ?_ | refine r_newL ?_ | refine r_ok ?_) | ((with_reducible (first | refine e_var ?_ | refine e_ixT ?_ | refine e_gTp ?_)); refine ⟨_, rfl, ?_⟩) | ((with_reducible (first | refine r_mkT ?_ ?_ | refine r_mkP ?_ ?_ | refine r_mkL ?_ ?_)); exact Nat.le_of_ble_eq_true rfl) | ((with_reducible (first | refine e_mth ?_ | refine e_lenO ?_ | refine e_asO ?_ | refine e_truO ?_ | refine e_tupleO ?_ | refine e_tupleP ?_ | refine e_slO ?_ | refine e_reverse ?_ | refine e_listO ?_)); refine ⟨_, (by assumption), ?_⟩) | ((with_reducible (first | refine e_ixO ?_ | refine e_set ?_)); refine ⟨_, (by assumption), _, rfl, ?_⟩) | ((with_reducible (first | refine r_mulI ?_ ?_)); first | exact mul_ok (Or.inr (by decide)) | exact mul_ok (Or.inl (by decide))) | ((with_reducible (first | refine r_modI ?_ ?_ | refine r_fdvI ?_ ?_ | refine r_powI ?_ ?_)); decide) | dsimp only [endP])
  refine (same_ok hm2 hs2).to ?_
  rintro _ s5 rfl
  repeat (first | with_reducible (first | refine zs_seq ?_ | refine zs_asg ?_ | refine zs_drop ?_ | refine zs_ret ?_ | refine zs_retN ?_ | refine zs_next ?_ | refine zs_brk ?_ | refine zs_cnt ?_ | refine zs_if ?_ | refine zs_for ?_ | refine zs_while ?_ | refine z_true ?_ | refine z_false ?_ | refine r_k ?_ | refine r_op ?_ | refine r_un ?_ | refine r_nil ?_ | refine r_cons ?_ | refine r_tup ?_ | refine r_ptp ?_ | refine r_lst ?_ | refine r_ife ?_ | refine r_if1 ?_ | refine r_if0 ?_ | refine r_and ?_ | refine r_or ?_ | refine r_not ?_ | refine r_bool ?_ | refine r_asB ?_ | refine r_tru ?_ | refine r_truB ?_ | refine r_truI ?_ | refine r_andV ?_ | refine r_orV ?_ | refine r_andV1 ?_ | refine r_andV0 ?_ | refine r_orV1 ?_ | refine r_orV0 ?_ | refine r_notV ?_ | refine r_call ?_ | refine r_meth ?_ | refine r_addI ?_ | refine r_subI ?_ | refine r_negI ?_ | refine r_andI ?_ | refine r_ltI ?_ | refine r_gtI ?_ | refine r_leI ?_ | refine r_geI ?_ | refine r_eqI ?_ | refine r_eqS ?_ | refine r_neI ?_ | refine r_neS ?_ | refine r_is0 ?_ | refine r_is1 ?_ | refine r_is2 ?_ | refine r_is3 ?_ | refine r_isn0 ?_ | refine r_isn1 ?_ | refine r_isn2 ?_ | refine r_isn3 ?_ | refine r_lenT ?_ | refine r_intI ?_ | refine r_absI ?_ | refine r_sl ?_ | refine r_no ?_ | refine r_part ?_ | refine r_asP ?_ | refine r_slT ?_ | refine r_slR ?_ | refine r_iter ?_ | refine r_asT ?_ | refine r_asPt ?_ | refine r_asRo ?_ | refine r_rng1 ?_ | refine r_gNm ?_ | refine r_gIx ?_ | refine r_comp ?_ | refine r_chain ?_ | refine r_chn1 ?_ | refine r_chn0 ?_ | refine r_isi ?_ | refine r_newL ?_ | refine r_ok ?_) | ((with_reducible (first | refine e_var ?_ | refine e_ixT ?_ | refine e_gTp ?_)); refine ⟨_, rfl, ?_⟩) | ((with_reducible (first | refine r_mkT ?_ ?_ | refine r_mkP ?_ ?_ | refine r_mkL ?_ ?_)); exact Nat.le_of_ble_eq_true rfl) | ((with_reducible (first | refine e_mth ?_ | refine e_lenO ?_ | refine e_asO ?_ | refine e_truO ?_ | refine e_tupleO ?_ | refine e_tupleP ?_ | refine e_slO ?_ | refine e_reverse ?_ | refine e_listO ?_)); refine ⟨_, (by assumption), ?_⟩) | ((with_reducible (first | refine e_ixO ?_ | refine e_set ?_)); refine ⟨_, (by assumption), _, rfl, ?_⟩) | ((with_reducible (first | refine r_mulI ?_ ?_)); first | exact mul_ok (Or.inr (by decide)) | exact mul_ok (Or.inl (by decide))) | ((with_reducible (first | refine r_modI ?_ ?_ | refine r_fdvI ?_ ?_ | refine r_powI ?_ ?_)); decide) | dsimp only [endP])
  refine z_false ?_
  repeat (first | with_reducible (first | refine zs_seq ?_ | refine zs_asg ?_ | refine zs_drop ?_ | refine zs_ret ?_ | refine zs_retN ?_ | refine zs_next ?_ | refine zs_brk ?_ | refine zs_cnt ?_ | refine zs_if ?_ | refine zs_for ?_ | refine zs_while ?_ | refine z_true ?_ | refine z_false ?_ | refine r_k ?_ | refine r_op ?_ | refine r_un ?_ | refine r_nil ?_ | refine r_cons ?_ | refine r_tup ?_ | refine r_ptp ?_ | refine r_lst ?_ | refine r_ife ?_ | refine r_if1 ?_ | refine r_if0 ?_ | refine r_and ?_ | refine r_or ?_ | refine r_not ?_ | refine r_bool ?_ | refine r_asB ?_ | refine r_tru ?_ | refine r_truB ?_ | refine r_truI ?_ | refine r_andV ?_ | refine r_orV ?_ | refine r_andV1 ?_ | refine r_andV0 ?_ | refine r_orV1 ?_ | refine r_orV0 ?_ | refine r_notV ?_ | refine r_call ?_ | refine r_meth ?_ | refine r_addI ?_ | refine r_subI ?_ | refine r_negI ?_ | refine r_andI ?_ | refine r_ltI ?_ | refine r_gtI ?_ | refine r_leI ?_ | refine r_geI ?_ | refine r_eqI ?_ | refine r_eqS ?_ | refine r_neI ?_ | refine r_neS ?_ | refine r_is0 ?_ | refine r_is1 ?_ | refine r_is2 ?_ | refine r_is3 ?_ | refine r_isn0 ?_ | refine r_isn1 ?_ | refine r_isn2 ?_ | refine r_isn3 ?_ | refine r_lenT ?_ | refine r_intI ?_ | refine r_absI ?_ | refine r_sl ?_ | refine r_no ?_ | refine r_part ?_ | refine r_asP ?_ | refine r_slT ?_ | refine r_slR ?_ | refine r_iter ?_ | refine r_asT ?_ | refine r_asPt ?_ | refine r_asRo ?_ | refine r_rng1 ?_ | refine r_gNm ?_ | refine r_gIx ?_ | refine r_comp ?_ | refine r_chain ?_ | refine r_chn1 ?_ | refine r_chn0 ?_ | refine r_isi ?_ | refine r_newL ?_ | refine r_ok ?_) | ((with_reducible (first | refine e_var ?_ | refine e_ixT ?_ | refine e_gTp ?_)); refine ⟨_, rfl, ?_⟩) | ((with_reducible (first | refine r_mkT ?_ ?_ | refine r_mkP ?_ ?_ | refine r_mkL ?_ ?_)); exact Nat.le_of_ble_eq_true rfl) | ((with_reducible (first | refine e_mth ?_ | refine e_lenO ?_ | refine e_asO ?_ | refine e_truO ?_ | refine e_tupleO ?_ | refine e_tupleP ?_ | refine e_slO ?_ | refine e_reverse ?_ | refine e_listO ?_)); refine ⟨_, (by assumption), ?_⟩) | ((with_reducible (first | refine e_ixO ?_ | refine e_set ?_)); refine ⟨_, (by assumption), _, rfl, ?_⟩) | ((with_reducible (first | refine r_mulI ?_ ?_)); first | exact mul_ok (Or.inr (by decide)) | exact mul_ok (Or.inl (by decide))) | ((with_reducible (first | refine r_modI ?_ ?_ | refine r_fdvI ?_ ?_ | refine r_powI ?_ ?_)); decide) | dsimp only [endP])
  refine (same_ok hm hs).to ?_
  rintro _ s6 rfl
  rfl
theorem law_true (ns : List Int) (h : ns.length ≤ 63) : ∃ st, F_law [.rol (ns.map D.int)] [] = .ok (.bl true) st := by
  obtain ⟨d, s, e, rfl⟩ := rw_iff.mp (law_ok (ns := ns))
  exact ⟨s, e⟩
end Kw

open PySem PySem.W PyProof.Rows in
set_option maxRecDepth 100000 in
set_option maxHeartbeats 0 in
theorem PySem.Challenge.cw_bytescribe_k21_steps_applied_holds : PySem.Challenge.rw_bytescribe_k21_steps_applied.Holds := by
  w_on; o_law; k_head; (case hw => w_witness2)
  k_fill
  refine L2.walk_of (l := PySem.Challenge.rw_bytescribe_k21_steps_applied) (n := 63) (k := 7) (x := "script") (CX := fun w => L2.CX PySem.Challenge.rw_bytescribe_k21_steps_applied.prog w) (sp := fun w => Kc.spL Kw.F_law _) rfl (by decide) rfl ⟨rfl, by decide, by decide⟩ (fun w h Y => PySem.W.kIn_of Y) ?F (fun w H a ns hl hO hS => Kc.head_sp hO hS (Kw.law_true ns hl)) (fun _ _ _ _ _ c => Kc.no_exc c)
  case F =>
    intro w mg fa h KX G hmg
    refine' Kw.all_mk KX G hmg ?a0 ?l0 ?c0 ?k0 ?a1 ?l1 ?c1 ?k1 ?a2 ?l2 ?c2 ?k2 ?a3 ?l3 ?c3 ?k3 ?a4 ?l4 ?c4 ?k4 ?a5 ?l5 ?c5 ?k5 ?a6 ?l6 ?c6 ?k6 ?a7 ?l7 ?c7 ?k7 ?a8 ?l8 ?c8 ?k8 ?a9 ?l9 ?c9 ?k9 ?a10 ?l10 ?c10 ?k10 ?a11 ?l11 ?c11 ?k11 ?a12 ?l12 ?c12 ?k12 ?a13 ?l13 ?c13 ?k13 ?a14 ?l14 ?c14 ?k14 ?a15 ?l15 ?c15 ?k15 ?z_len ?z_list ?z_range ?z_tuple ?z_isinstance ?z_int ?z_bool ?z_ValueError ?z_enumerate ?z_super ?hnG ?htG ?aC0 ?bx0 ?dx0 ?tx0 ?aC1 ?bx1 ?dx1 ?tx1 ?aC2 ?bx2 ?dx2 ?tx2 ?aC3 ?bx3 ?dx3 ?tx3 ?aC4 ?bx4 ?dx4 ?tx4 ?aC5 ?bx5 ?dx5 ?tx5 ?xL3 ?xb3 ?xs3 ?xk3 ?xg3 ?xh3 ?xc3 ?xo3 ?xi3 ?xt3 ?xl3 ?xd3 ?xe3 ?xf3 ?xv3 ?xw3 ?xy3 ?xz3 ?xm3 ?xn3_index ?kt3_ScribeError ?sb3_ScribeError ?kt3_ValueError ?kt3_Refused ?sb3_Refused ?kt3_NoText ?sb3_NoText ?kt3_TooFar ?sb3_TooFar ?kt3_BadNotation ?sb3_BadNotation ?kt3_BadSteps ?sb3_BadSteps ?tpG ?topG
    (case a0 => k_is); (case l0 => k_is); (case c0 => k_is); (case k0 => k_is); (case a1 => k_is); (case l1 => k_is); (case c1 => k_is); (case k1 => k_is)
    (case a2 => k_is); (case l2 => k_is); (case c2 => k_is); (case k2 => k_is); (case a3 => k_is); (case l3 => k_is); (case c3 => k_is); (case k3 => k_is)
    (case a4 => k_is); (case l4 => k_is); (case c4 => k_is); (case k4 => k_is); (case a5 => k_is); (case l5 => k_is); (case c5 => k_is); (case k5 => k_is)
    (case a6 => k_is); (case l6 => k_is); (case c6 => k_is); (case k6 => k_is); (case a7 => k_is); (case l7 => k_is); (case c7 => k_is); (case k7 => k_is)
    (case a8 => k_is); (case l8 => k_is); (case c8 => k_is); (case k8 => k_is); (case a9 => k_is); (case l9 => k_is); (case c9 => k_is); (case k9 => k_is)
    (case a10 => k_is); (case l10 => k_is); (case c10 => k_is); (case k10 => k_is); (case a11 => k_is); (case l11 => k_is); (case c11 => k_is); (case k11 => k_is)
    (case a12 => k_is); (case l12 => k_is); (case c12 => k_is); (case k12 => k_is); (case a13 => k_is); (case l13 => k_is); (case c13 => k_is); (case k13 => k_is)
    (case a14 => k_is); (case l14 => k_is); (case c14 => k_is); (case k14 => k_is); (case a15 => k_is); (case l15 => k_is); (case c15 => k_is); (case k15 => k_is)
    (case z_len => k_is); (case z_list => k_is); (case z_range => k_is); (case z_tuple => k_is); (case z_isinstance => k_is); (case z_int => k_is); (case z_bool => k_is); (case z_ValueError => k_is)
    (case z_enumerate => k_is); (case z_super => k_is); (case hnG => k_is); (case htG => k_is); (case aC0 => k_is); (case bx0 => k_is); (case dx0 => k_is); (case tx0 => k_is)
    (case aC1 => k_is); (case bx1 => k_is); (case dx1 => k_is); (case tx1 => k_is); (case aC2 => k_is); (case bx2 => k_is); (case dx2 => k_is); (case tx2 => k_is)
    (case aC3 => k_is); (case bx3 => k_is); (case dx3 => k_is); (case tx3 => k_is); (case aC4 => k_is); (case bx4 => k_is); (case dx4 => k_is); (case tx4 => k_is)
    (case aC5 => k_is); (case bx5 => k_is); (case dx5 => k_is); (case tx5 => k_is); (case xL3 => k_is); (case xb3 => first | rfl | decide +kernel | k_is); (case xs3 => k_is); (case xk3 => k_is)
    (case xg3 => k_is); (case xh3 => k_is); (case xc3 => k_is); (case xo3 => k_is); (case xi3 => k_is); (case xt3 => k_is); (case xl3 => k_is); (case xd3 => k_is)
    (case xe3 => k_is); (case xf3 => k_is); (case xv3 => first | rfl | decide +kernel | k_is); (case xw3 => first | rfl | decide +kernel | k_is); (case xy3 => ks_is); (case xz3 => k_is); (case xm3 => k_is); (case xn3_index => k_is)
    (case kt3_ScribeError => first | k_is | kit_is); (case sb3_ScribeError => k_is); (case kt3_ValueError => first | k_is | kit_is); (case kt3_Refused => first | k_is | kit_is); (case sb3_Refused => k_is); (case kt3_NoText => first | k_is | kit_is); (case sb3_NoText => k_is); (case kt3_TooFar => first | k_is | kit_is)
    (case sb3_TooFar => k_is); (case kt3_BadNotation => first | k_is | kit_is); (case sb3_BadNotation => k_is); (case kt3_BadSteps => first | k_is | kit_is); (case sb3_BadSteps => k_is); (case tpG => k_is); (case topG => first | rfl | decide +kernel | k_is)
