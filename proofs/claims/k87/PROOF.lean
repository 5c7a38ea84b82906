import PyProof.Rows.All
import Wide.All
import OpenK.AllK
import Wide.FinOn
import HandS.ForMost
import HandS.Exc
import HandS.TryOnly
import HandS.ExcOwn
import HandS.ExcInit
import HandS.ExcField
import HandS.ExcIs
import HandS.TryMany
import HandS.WordsExc
import HandS.CallSlots
import HandS.IsInst
import HandS.Codes
import HandS.Flow
import HandS.Defaults
import HandS.Deep
import HandS.HeadHook1
import HandS.HeadHook2
import HandS.HeadHook3
import HandS.HeadHook4
import HandS.Head0
import HandS.Head1
import HandS.Head2
import HandS.HeadEnd
import HandS.TupAny
import HandS.TupMul
import HandS.TupLe
import HandS.Style
import HandS.SortInts
import HandS.Remove
import HandS.SetFor
import HandS.More
import HandS.Small
import HandS.SuiteRaise
import HandS.Iter
import HandS.Walk
import KE.GoesEnum
import KE.GoesMore
import PyProof.Draws
import PyProof.EnumMake
import PySem.Challenge.RW_narrowahead_k87_benches_refuse
set_option Elab.async false
set_option linter.all false
set_option maxRecDepth 100000
/-! DN: values as trees, a memory of cells, what a def does as a plain function. -/
namespace DN
open PySem PySem.Spec L2

/-- a value: tuples are trees; ob n is the n-th cell of the memory -/
inductive T where
  | non | bl (b : Bool) | int (i : Int) | str (x : Str) | tup (ts : List T) | ob (n : Nat)
mutual
def T.beq : T → T → Bool
  | .non, .non => true
  | .bl a, .bl b => a == b
  | .int a, .int b => decide (a = b)
  | .str a, .str b => decide (a = b)
  | .tup a, .tup b => T.beqs a b
  | .ob a, .ob b => Nat.beq a b
  | _, _ => false
def T.beqs : List T → List T → Bool
  | [], [] => true
  | a :: r, b :: s => T.beq a b && T.beqs r s
  | _, _ => false
end
mutual
theorem T.beq_eq : ∀ {a b : T}, T.beq a b = true → a = b
  | .non, b, h => by cases b <;> first | rfl | (simp [T.beq] at h)
  | .bl x, b, h => by cases b <;> simp [T.beq] at h; rw [h]
  | .int x, b, h => by cases b <;> simp [T.beq] at h; rw [h]
  | .str x, b, h => by cases b <;> simp [T.beq] at h; rw [h]
  | .tup x, b, h => by
    cases b with
    | tup y =>
      rw [T.beq] at h
      rw [T.beqs_eq h]
    | _ => simp [T.beq] at h
  | .ob x, b, h => by
    cases b with
    | ob y =>
      rw [T.beq] at h
      rw [Nat.eq_of_beq_eq_true h]
    | _ => simp [T.beq] at h
theorem T.beqs_eq : ∀ {a b : List T}, T.beqs a b = true → a = b
  | [], b, h => by cases b <;> first | rfl | (simp [T.beqs] at h)
  | x :: r, b, h => by
    cases b with
    | nil => simp [T.beqs] at h
    | cons y s =>
      rw [T.beqs, Bool.and_eq_true] at h
      rw [T.beq_eq h.1, T.beqs_eq h.2]
end
mutual
theorem T.beq_refl : ∀ a : T, T.beq a a = true
  | .non => rfl
  | .bl x => by simp [T.beq]
  | .int x => by simp [T.beq]
  | .str x => by simp [T.beq]
  | .tup x => by rw [T.beq]; exact T.beqs_refl x
  | .ob x => by rw [T.beq]; exact Nat.beq_refl x
theorem T.beqs_refl : ∀ a : List T, T.beqs a a = true
  | [] => rfl
  | x :: r => by rw [T.beqs, T.beq_refl x, T.beqs_refl r]; rfl
end
instance : DecidableEq T := fun a b => match h : T.beq a b with
  | true => .isTrue (T.beq_eq h)
  | false => .isFalse fun e => by rw [e, T.beq_refl] at h; cases h

/-- a cell: a list; a list that is only read; an instance of an own class (by its name); a dict (0: keys ints and texts, 1: tuples of them) -/
inductive C where
  | lst (ts : List T) | ro (ts : List T) | ins (c : Str) (fs : List (Str × T)) | dic (k : Nat) (kvs : List (T × T))
abbrev Mem := List C
abbrev Ev := List (Option T)
/-- an error: its class's name, its fields -/
abbrev Er := Str × List (Str × T)
inductive R (α : Type) where
  | ok (a : α) (M : Mem) | ex (e : Er) (M : Mem) | no
def R.bind {α β : Type} (r : R α) (f : α → Mem → R β) : R β := match r with
  | .ok a M => f a M
  | .ex e M => .ex e M
  | .no => .no
inductive RS where
  | nx (e : Ev) (M : Mem) | rt (t : T) (M : Mem) | bk (e : Ev) (M : Mem) | ct (e : Ev) (M : Mem) | ex (x : Er) (e : Ev) (M : Mem) | no
abbrev DE := Ev → Mem → R T
abbrev DB := Ev → Mem → R Bool
abbrev DA := Ev → Mem → R (List T)
abbrev DS := Ev → Mem → RS
/-- what a def does -/
abbrev FD := List T → Mem → R T

/-! ### what stands for what -/
section
variable (K : PySem.W.Frag) (cA : Str → Addr) (μ : List Addr) (H : Hp)
mutual
def RV : T → V → Prop
  | .non, v => v = .non
  | .bl b, v => v = .bl b
  | .int i, v => v = .int i
  | .str x, v => v = .str x
  | .tup ts, v => ∃ a xs, v = .ref a ∧ SqT K H a xs ∧ RVs ts xs
  | .ob n, v => ∃ a, v = .ref a ∧ μ[n]? = some a
def RVs : List T → List V → Prop
  | [], xs => xs = []
  | t :: ts, xs => ∃ v vs, xs = v :: vs ∧ RV t v ∧ RVs ts vs
end
def RF : List (Str × T) → List (Str × V) → Prop
  | [], xs => xs = []
  | p :: ps, xs => ∃ v vs, xs = (p.1, v) :: vs ∧ RV K μ H p.2 v ∧ RF ps vs
/-- a key -/
def keyT : T → Option Key
  | .int i => some (.inl i)
  | .str x => some (.inr x)
  | _ => none
def keysT : List T → Option (List Key)
  | [] => some []
  | t :: ts => match keyT t, keysT ts with
    | some k, some ks => some (k :: ks)
    | _, _ => none
def RK : List (T × T) → List (Key × V) → Prop
  | [], xs => xs = []
  | p :: ps, xs => ∃ k v vs, xs = (k, v) :: vs ∧ keyT p.1 = some k ∧ RV K μ H p.2 v ∧ RK ps vs
def RT : List (T × T) → List (List Key × V) → Prop
  | [], xs => xs = []
  | p :: ps, xs => ∃ ts k v vs, xs = (k, v) :: vs ∧ p.1 = .tup ts ∧ keysT ts = some k ∧ RV K μ H p.2 v ∧ RT ps vs
/-- a list that is only read -/
def RoL (a : Addr) (xs : List V) : Prop := (∃ o, H a = some (.frz o (.lst xs))) ∨
  ∃ (o : Obj) (its : Array Value) (n : Nat), K.lookup a = some o ∧ o.cls = .type "list" ∧ o.dict = none ∧ o.data = .seq its n ∧ its.size ≤ sizeLine ∧ Vals xs its.toList
def RC (a : Addr) : C → Prop
  | .lst ts => ∃ xs, H a = some (.lst xs) ∧ RVs K μ H ts xs
  | .ro ts => ∃ xs, RoL K H a xs ∧ RVs K μ H ts xs
  | .ins c fs => ∃ dx vs, H a = some (.ins (cA c) dx vs) ∧ RF K μ H fs vs
  | .dic 0 kvs => ∃ xs, H a = some (.dK xs) ∧ RK K μ H kvs xs
  | .dic _ kvs => ∃ xs, H a = some (.dT xs) ∧ RT K μ H kvs xs
end
def C.isRo : C → Bool
  | .ro _ => true
  | _ => false
structure RM (K : PySem.W.Frag) (cA : Str → Addr) (μ : List Addr) (M : Mem) (H : Hp) : Prop where
  len : μ.length = M.length
  inj : ∀ (n m : Nat) (a : Addr) (c d : C), μ[n]? = some a → μ[m]? = some a → M[n]? = some c → M[m]? = some d → c.isRo = false → d.isRo = false → n = m
  at_ : ∀ (n : Nat) (a : Addr) (c : C), μ[n]? = some a → M[n]? = some c → RC K cA μ H a c
/-- what may not be written stays -/
def Ext (H H' : Hp) : Prop := ∀ a o, H a = some o → ¬ Mut (some o) → H' a = some o
def RX (K : PySem.W.Frag) (cA : Str → Addr) (μ : List Addr) (H : Hp) (e : Er) (cls : Value) (d : Option Addr) : Prop :=
  cls = .ref (cA e.1) ∧ ((e.2 = [] ∧ d = none) ∨ (e.2 ≠ [] ∧ ∃ dd vs, d = some dd ∧ H dd = some (.xd vs) ∧ RF K μ H e.2 vs))
/-- within an except suite: the slot of the error's name, where it lies, its class, its dict, what it is -/
structure EA where
  i : Nat
  a : Addr
  cls : Value
  d : Option Addr
  e : Er
structure RE (K : PySem.W.Frag) (cA : Str → Addr) (ea : Option EA) (μ : List Addr) (H : Hp) (ρ : Ev) (σ : L2.St) : Prop where
  len : ρ.length = σ.length
  at_ : ∀ (i : Nat) (t : T), ρ[i]? = some (some t) → ∃ x, σ[i]? = some (some x) ∧ RV K μ H t x
  exc : ∀ q : EA, ea = some q → σ[q.i]? = some (some (.ref q.a)) ∧ RX K cA μ H q.e q.cls q.d

/-! ### staying -/
section
variable {K : PySem.W.Frag} {cA : Str → Addr} {μ μ' : List Addr} {H H' H'' : Hp}
theorem Ext.refl (H : Hp) : Ext H H := fun _ _ e _ => e
theorem Ext.trans (a : Ext H H') (b : Ext H' H'') : Ext H H'' := fun c o e m => b c o (a c o e m) m
theorem Ext.new {p : Addr} {o : HO} (hp : H p = none) : Ext H (upd H p o) := fun a u e _ => by
  rw [upd_ne (ne_of_none e hp)]; exact e
theorem Ext.write {p : Addr} {o : HO} (hm : Mut (H p)) : Ext H (upd H p o) := fun a u e m => by
  have : a ≠ p := fun q => by rw [q] at e; rw [e] at hm; exact m hm
  rw [upd_ne this]; exact e
theorem Ext.rd {a : Addr} {xs : List V} (e : Ext H H') (h : Rd H a (.tup xs)) : Rd H' a (.tup xs) := by
  rcases h with h | ⟨o, h⟩
  · exact .inl (e _ _ h (by intro z; exact z))
  · exact .inr ⟨o, e _ _ h (by intro z; exact z)⟩
theorem Ext.tup {a : Addr} {xs : List V} (e : Ext H H') (h : SqT K H a xs) : SqT K H' a xs := by
  rcases h with h | h
  · exact .inl (e.rd h)
  · exact .inr h
theorem pre_get {α : Type} {l l' : List α} (h : l <+: l') {i : Nat} {a : α} (e : l[i]? = some a) : l'[i]? = some a := by
  obtain ⟨t, rfl⟩ := h
  have hi : i < l.length := (List.getElem?_eq_some_iff.mp e).1
  rw [List.getElem?_append_left hi]; exact e
mutual
theorem RV.mono (hp : μ <+: μ') (hx : Ext H H') : ∀ {t : T} {v : V}, RV K μ H t v → RV K μ' H' t v
  | .non, v, h => by rw [RV] at h ⊢; exact h
  | .bl b, v, h => by rw [RV] at h ⊢; exact h
  | .int i, v, h => by rw [RV] at h ⊢; exact h
  | .str x, v, h => by rw [RV] at h ⊢; exact h
  | .tup ts, v, h => by
    rw [RV] at h ⊢
    obtain ⟨a, xs, e, s, r⟩ := h
    exact ⟨a, xs, e, hx.tup s, RVs.mono hp hx r⟩
  | .ob n, v, h => by
    rw [RV] at h ⊢
    obtain ⟨a, e, m⟩ := h
    exact ⟨a, e, pre_get hp m⟩
theorem RVs.mono (hp : μ <+: μ') (hx : Ext H H') : ∀ {ts : List T} {vs : List V}, RVs K μ H ts vs → RVs K μ' H' ts vs
  | [], vs, h => by rw [RVs] at h ⊢; exact h
  | t :: ts, vs, h => by
    rw [RVs] at h ⊢
    obtain ⟨v, r, e, h1, h2⟩ := h
    exact ⟨v, r, e, RV.mono hp hx h1, RVs.mono hp hx h2⟩
end
theorem RF.mono (hp : μ <+: μ') (hx : Ext H H') : ∀ {fs : List (Str × T)} {vs : List (Str × V)}, RF K μ H fs vs → RF K μ' H' fs vs
  | [], vs, h => h
  | p :: ps, vs, ⟨v, r, e, h1, h2⟩ => ⟨v, r, e, RV.mono hp hx h1, RF.mono hp hx h2⟩
theorem RK.mono (hp : μ <+: μ') (hx : Ext H H') : ∀ {fs : List (T × T)} {vs : List (Key × V)}, RK K μ H fs vs → RK K μ' H' fs vs
  | [], vs, h => h
  | p :: ps, vs, ⟨k, v, r, e, h0, h1, h2⟩ => ⟨k, v, r, e, h0, RV.mono hp hx h1, RK.mono hp hx h2⟩
theorem RT.mono (hp : μ <+: μ') (hx : Ext H H') : ∀ {fs : List (T × T)} {vs : List (List Key × V)}, RT K μ H fs vs → RT K μ' H' fs vs
  | [], vs, h => h
  | p :: ps, vs, ⟨ts, k, v, r, e, h0, h1, h2, h3⟩ => ⟨ts, k, v, r, e, h0, h1, RV.mono hp hx h2, RT.mono hp hx h3⟩
theorem RoL.mono {a : Addr} {xs : List V} (hx : Ext H H') (h : RoL K H a xs) : RoL K H' a xs := by
  rcases h with ⟨o, h⟩ | h
  · exact .inl ⟨o, hx _ _ h (by intro z; exact z)⟩
  · exact .inr h
theorem RoL.sq {a : Addr} {xs : List V} (h : RoL K H a xs) : SqL K H a xs := by
  rcases h with ⟨o, h⟩ | h
  · exact .inl (.inr ⟨o, h⟩)
  · exact .inr h
theorem RX.mono (hp : μ <+: μ') (hx : Ext H H') {e : Er} {cls : Value} {d : Option Addr} (h : RX K cA μ H e cls d) : RX K cA μ' H' e cls d := by
  obtain ⟨e1, h⟩ := h
  refine ⟨e1, ?_⟩
  rcases h with h | ⟨hn, dd, vs, e2, h1, h2⟩
  · exact .inl h
  · exact .inr ⟨hn, dd, vs, e2, hx _ _ h1 (by intro z; exact z), RF.mono hp hx h2⟩
theorem RE.mono (hp : μ <+: μ') (hx : Ext H H') {ea : Option EA} {ρ : Ev} {σ : L2.St} (h : RE K cA ea μ H ρ σ) : RE K cA ea μ' H' ρ σ :=
  ⟨h.len, fun i t e => let ⟨x, e1, r⟩ := h.at_ i t e; ⟨x, e1, r.mono hp hx⟩, fun q e => ⟨(h.exc q e).1, (h.exc q e).2.mono hp hx⟩⟩
theorem RVs.length : ∀ {ts : List T} {vs : List V}, RVs K μ H ts vs → ts.length = vs.length
  | [], vs, h => by rw [RVs] at h; rw [h]; rfl
  | t :: ts, vs, h => by
    rw [RVs] at h
    obtain ⟨v, r, rfl, _, h2⟩ := h
    simp [RVs.length h2]
theorem RVs.get : ∀ {ts : List T} {vs : List V} {i : Nat} {t : T}, RVs K μ H ts vs → ts[i]? = some t → ∃ v, vs[i]? = some v ∧ RV K μ H t v
  | [], vs, i, t, h, e => by simp at e
  | t' :: ts, vs, 0, t, h, e => by
    rw [RVs] at h
    obtain ⟨v, r, rfl, h1, h2⟩ := h
    simp at e; subst e
    exact ⟨v, rfl, h1⟩
  | t' :: ts, vs, i + 1, t, h, e => by
    rw [RVs] at h
    obtain ⟨v, r, rfl, h1, h2⟩ := h
    obtain ⟨w, e1, h3⟩ := RVs.get (i := i) h2 (by simpa using e)
    exact ⟨w, by simpa using e1, h3⟩
theorem RVs.get' : ∀ {ts : List T} {vs : List V} {i : Nat} {v : V}, RVs K μ H ts vs → vs[i]? = some v → ∃ t, ts[i]? = some t ∧ RV K μ H t v
  | [], vs, i, v, h, e => by rw [RVs] at h; rw [h] at e; simp at e
  | t' :: ts, vs, 0, v, h, e => by
    rw [RVs] at h
    obtain ⟨v', r, rfl, h1, h2⟩ := h
    simp at e; subst e
    exact ⟨t', rfl, h1⟩
  | t' :: ts, vs, i + 1, v, h, e => by
    rw [RVs] at h
    obtain ⟨v', r, rfl, h1, h2⟩ := h
    obtain ⟨w, e1, h3⟩ := RVs.get' (i := i) h2 (by simpa using e)
    exact ⟨w, by simpa using e1, h3⟩
theorem RVs.nil : RVs K μ H [] [] := by rw [RVs]
theorem RVs.cons {t : T} {v : V} {ts : List T} {vs : List V} (h : RV K μ H t v) (r : RVs K μ H ts vs) : RVs K μ H (t :: ts) (v :: vs) := by
  rw [RVs]; exact ⟨v, vs, rfl, h, r⟩
theorem RVs.append : ∀ {ts us : List T} {vs ws : List V}, RVs K μ H ts vs → RVs K μ H us ws → RVs K μ H (ts ++ us) (vs ++ ws)
  | [], us, vs, ws, h, g => by rw [RVs] at h; subst h; exact g
  | t :: ts, us, vs, ws, h, g => by
    rw [RVs] at h
    obtain ⟨v, r, rfl, h1, h2⟩ := h
    exact .cons h1 (RVs.append h2 g)
theorem RVs.take : ∀ {ts : List T} {vs : List V} (n : Nat), RVs K μ H ts vs → RVs K μ H (ts.take n) (vs.take n)
  | ts, vs, 0, h => by simpa using RVs.nil
  | [], vs, n + 1, h => by rw [RVs] at h; subst h; exact .nil
  | t :: ts, vs, n + 1, h => by
    rw [RVs] at h
    obtain ⟨v, r, rfl, h1, h2⟩ := h
    exact .cons h1 (RVs.take n h2)
theorem RVs.drop : ∀ {ts : List T} {vs : List V} (n : Nat), RVs K μ H ts vs → RVs K μ H (ts.drop n) (vs.drop n)
  | ts, vs, 0, h => h
  | [], vs, n + 1, h => by rw [RVs] at h; subst h; exact .nil
  | t :: ts, vs, n + 1, h => by
    rw [RVs] at h
    obtain ⟨v, r, rfl, h1, h2⟩ := h
    exact RVs.drop n h2
theorem RVs.set : ∀ {ts : List T} {vs : List V} {t : T} {v : V} (n : Nat), RVs K μ H ts vs → RV K μ H t v → RVs K μ H (ts.set n t) (vs.set n v)
  | [], vs, t, v, n, h, g => by rw [RVs] at h; subst h; exact .nil
  | t' :: ts, vs, t, v, 0, h, g => by
    rw [RVs] at h
    obtain ⟨v', r, rfl, h1, h2⟩ := h
    exact .cons g h2
  | t' :: ts, vs, t, v, n + 1, h, g => by
    rw [RVs] at h
    obtain ⟨v', r, rfl, h1, h2⟩ := h
    exact .cons h1 (RVs.set n h2 g)
theorem RVs.reverse : ∀ {ts : List T} {vs : List V}, RVs K μ H ts vs → RVs K μ H ts.reverse vs.reverse
  | [], vs, h => by rw [RVs] at h; subst h; exact .nil
  | t :: ts, vs, h => by
    rw [RVs] at h
    obtain ⟨v, r, rfl, h1, h2⟩ := h
    simp only [List.reverse_cons]
    exact .append (RVs.reverse h2) (.cons h1 .nil)
theorem RVs.dropLast {ts : List T} {vs : List V} (h : RVs K μ H ts vs) : RVs K μ H ts.dropLast vs.dropLast := by
  rw [List.dropLast_eq_take, List.dropLast_eq_take, h.length]; exact h.take _
theorem RVs.eraseIdx : ∀ {ts : List T} {vs : List V} (n : Nat), RVs K μ H ts vs → RVs K μ H (ts.eraseIdx n) (vs.eraseIdx n)
  | [], vs, n, h => by rw [RVs] at h; subst h; exact .nil
  | t :: ts, vs, 0, h => by
    rw [RVs] at h
    obtain ⟨v, r, rfl, h1, h2⟩ := h
    exact h2
  | t :: ts, vs, n + 1, h => by
    rw [RVs] at h
    obtain ⟨v, r, rfl, h1, h2⟩ := h
    exact .cons h1 (RVs.eraseIdx n h2)
theorem RF.lookup : ∀ {fs : List (Str × T)} {vs : List (Str × V)} {f : Str} {t : T}, RF K μ H fs vs → fs.lookup f = some t → ∃ v, vs.lookup f = some v ∧ RV K μ H t v
  | p :: ps, vs, f, t, ⟨v, r, e, h1, h2⟩, h => by
    subst e
    obtain ⟨k, u⟩ := p
    rw [List.lookup_cons] at h ⊢
    cases q : (f == k) with
    | true =>
      simp only [q] at h ⊢
      cases h
      exact ⟨v, rfl, h1⟩
    | false =>
      simp only [q] at h ⊢
      exact RF.lookup h2 h
theorem RF.lookup_none : ∀ {fs : List (Str × T)} {vs : List (Str × V)} {f : Str}, RF K μ H fs vs → fs.lookup f = none → vs.lookup f = none
  | [], vs, f, e, _ => by rw [show vs = [] from e]; rfl
  | p :: ps, vs, f, ⟨v, r, e, h1, h2⟩, h => by
    subst e
    obtain ⟨k, u⟩ := p
    rw [List.lookup_cons] at h ⊢
    cases q : (f == k) with
    | true =>
      simp only [q] at h
      cases h
    | false =>
      simp only [q] at h ⊢
      exact RF.lookup_none h2 h
theorem RF.length : ∀ {fs : List (Str × T)} {vs : List (Str × V)}, RF K μ H fs vs → fs.length = vs.length
  | [], vs, e => by rw [show vs = [] from e]; rfl
  | p :: ps, vs, ⟨v, r, e, h1, h2⟩ => by subst e; simp [RF.length h2]
/-- a field stored -/
def putT (f : Str) (v : T) : List (Str × T) → List (Str × T)
  | [] => [(f, v)]
  | (g, u) :: r => if g = f then (g, v) :: r else (g, u) :: putT f v r
theorem RF.put {f : Str} {t : T} {v : V} (h : RV K μ H t v) : ∀ {fs : List (Str × T)} {vs : List (Str × V)}, RF K μ H fs vs → RF K μ H (putT f t fs) (putF f v vs)
  | [], vs, e => by
    rw [show vs = [] from e]
    exact ⟨v, [], rfl, h, rfl⟩
  | (g, u) :: ps, vs, ⟨v', r, e, h1, h2⟩ => by
    subst e
    show RF K μ H (if g = f then (g, t) :: ps else (g, u) :: putT f t ps) (if g = f then (g, v) :: r else (g, v') :: putF f v r)
    by_cases q : g = f
    · rw [if_pos q, if_pos q]
      exact ⟨v, r, rfl, h, h2⟩
    · rw [if_neg q, if_neg q]
      exact ⟨v', _, rfl, h1, RF.put h h2⟩
theorem RC.mono (hp : μ <+: μ') (hx : Ext H H') {a : Addr} {c : C} (hk : c.isRo = false → H' a = H a) (h : RC K cA μ H a c) : RC K cA μ' H' a c := by
  cases c with
  | lst ts =>
    obtain ⟨xs, e, r⟩ := h
    exact ⟨xs, (hk rfl).trans e, r.mono hp hx⟩
  | ro ts =>
    obtain ⟨xs, e, r⟩ := h
    exact ⟨xs, e.mono hx, r.mono hp hx⟩
  | ins c fs =>
    obtain ⟨dx, vs, e, r⟩ := h
    exact ⟨dx, vs, (hk rfl).trans e, r.mono hp hx⟩
  | dic k kvs =>
    cases k with
    | zero =>
      obtain ⟨xs, e, r⟩ := h
      exact ⟨xs, (hk rfl).trans e, r.mono hp hx⟩
    | succ k =>
      obtain ⟨xs, e, r⟩ := h
      exact ⟨xs, (hk rfl).trans e, r.mono hp hx⟩
theorem RC.some {a : Addr} {c : C} (hr : c.isRo = false) (h : RC K cA μ H a c) : ∃ o, H a = some o ∧ Mut (some o) := by
  cases c with
  | lst ts => obtain ⟨xs, e, r⟩ := h; exact ⟨_, e, trivial⟩
  | ro ts => cases hr
  | ins c fs => obtain ⟨dx, vs, e, r⟩ := h; exact ⟨_, e, trivial⟩
  | dic k kvs =>
    cases k with
    | zero => obtain ⟨xs, e, r⟩ := h; exact ⟨_, e, trivial⟩
    | succ k => obtain ⟨xs, e, r⟩ := h; exact ⟨_, e, trivial⟩
variable {M : Mem} {p : Addr} {o : HO}
theorem RM.get (h : RM K cA μ M H) {n : Nat} {c : C} (e : M[n]? = some c) : ∃ a, μ[n]? = some a ∧ RC K cA μ H a c := by
  have hn : n < μ.length := by rw [h.len]; exact (List.getElem?_eq_some_iff.mp e).1
  exact ⟨μ[n], List.getElem?_eq_getElem hn, h.at_ n _ c (List.getElem?_eq_getElem hn) e⟩
/-- only cells that stay, nothing else asked: H' agrees at the cells -/
theorem RM.same (h : RM K cA μ M H) (hx : Ext H H') (hk : ∀ a o, H a = some o → Mut (some o) → H' a = some o) : RM K cA μ M H' :=
  ⟨h.len, h.inj, fun n a c e1 e2 => (h.at_ n a c e1 e2).mono (List.prefix_refl _) hx fun hr => by
    obtain ⟨o, e, m⟩ := (h.at_ n a c e1 e2).some hr
    rw [e]; exact hk a o e m⟩
theorem RM.fresh (h : RM K cA μ M H) (hp : H p = none) : RM K cA μ M (upd H p o) :=
  h.same (Ext.new hp) fun a u e _ => by rw [upd_ne (ne_of_none e hp)]; exact e
theorem RM.new {c : C} (h : RM K cA μ M H) (hx : Ext H H') (hk : ∀ a o, H a = some o → Mut (some o) → H' a = some o) (hp : H p = none) (hr : c.isRo = false) (hc : RC K cA (μ ++ [p]) H' p c) : RM K cA (μ ++ [p]) (M ++ [c]) H' := by
  have pre : μ <+: μ ++ [p] := List.prefix_append _ _
  have old : ∀ {n : Nat} {a : Addr} {d : C}, μ[n]? = some a → M[n]? = some d → d.isRo = false → a ≠ p := fun {n a d} e1 e2 hd q => by
    obtain ⟨u, e, _⟩ := (h.at_ n a d e1 e2).some hd
    rw [q, hp] at e; cases e
  have cut : ∀ {n : Nat} {a : Addr} {d : C}, (μ ++ [p])[n]? = some a → (M ++ [c])[n]? = some d → (μ[n]? = some a ∧ M[n]? = some d) ∨ (n = M.length ∧ a = p ∧ d = c) := fun {n a d} e1 e2 => by
    by_cases hn : n < M.length
    · rw [List.getElem?_append_left (by rw [h.len]; exact hn)] at e1
      rw [List.getElem?_append_left hn] at e2
      exact .inl ⟨e1, e2⟩
    · have hn' : n < (M ++ [c]).length := (List.getElem?_eq_some_iff.mp e2).1
      rw [List.length_append, List.length_singleton] at hn'
      have : n = M.length := by omega
      subst this
      rw [List.getElem?_append_right (Nat.le_refl _), Nat.sub_self] at e2
      rw [← h.len, List.getElem?_append_right (Nat.le_refl _), Nat.sub_self] at e1
      simp at e1 e2
      exact .inr ⟨rfl, e1.symm, e2.symm⟩
  refine ⟨by rw [List.length_append, List.length_append, h.len]; rfl, fun n m a x y e1 e2 e3 e4 hx hy => ?_, fun n a x e1 e2 => ?_⟩
  · rcases cut e1 e3 with ⟨a1, a3⟩ | ⟨q1, q2, q3⟩ <;> rcases cut e2 e4 with ⟨b1, b3⟩ | ⟨r1, r2, r3⟩
    · exact h.inj n m a x y a1 b1 a3 b3 hx hy
    · exact absurd r2 (old a1 a3 hx)
    · exact absurd q2 (old b1 b3 hy)
    · rw [q1, r1]
  · rcases cut e1 e2 with ⟨a1, a3⟩ | ⟨q1, q2, q3⟩
    · refine (h.at_ n a x a1 a3).mono pre hx fun hr => ?_
      obtain ⟨u, e, m⟩ := (h.at_ n a x a1 a3).some hr
      rw [e]; exact hk a u e m
    · subst q2 q3; exact hc
/-- the n-th cell is written -/
theorem RM.set {n : Nat} {a : Addr} {c c' : C} (h : RM K cA μ M H) (e1 : μ[n]? = some a) (e2 : M[n]? = some c) (hr : c.isRo = false) (hr' : c'.isRo = false) (hc : RC K cA μ (upd H a o) a c') : RM K cA μ (M.set n c') (upd H a o) := by
  obtain ⟨u, eu, mu⟩ := (h.at_ n a c e1 e2).some hr
  have hx : Ext H (upd H a o) := Ext.write (by rw [eu]; exact mu)
  have hn : n < M.length := (List.getElem?_eq_some_iff.mp e2).1
  have cut : ∀ {m : Nat} {d : C}, (M.set n c')[m]? = some d → (m = n ∧ d = c') ∨ (m ≠ n ∧ M[m]? = some d) := fun {m d} e => by
    by_cases q : n = m
    · subst q
      rw [List.getElem?_set_self hn] at e
      exact .inl ⟨rfl, (Option.some.inj e).symm⟩
    · rw [List.getElem?_set_ne q] at e
      exact .inr ⟨fun z => q z.symm, e⟩
  refine ⟨by rw [List.length_set]; exact h.len, fun k m b x y f1 f2 f3 f4 hx hy => ?_, fun m b x f1 f2 => ?_⟩
  · rcases cut f3 with ⟨q1, q2⟩ | ⟨q1, q2⟩ <;> rcases cut f4 with ⟨r1, r2⟩ | ⟨r1, r2⟩
    · rw [q1, r1]
    · rw [q1] at f1 ⊢
      exact h.inj n m b c y f1 f2 e2 r2 hr hy
    · rw [r1] at f2 ⊢
      exact h.inj k n b x c f1 f2 q2 e2 hx hr
    · exact h.inj k m b x y f1 f2 q2 r2 hx hy
  · rcases cut f2 with ⟨q1, q2⟩ | ⟨q1, q2⟩
    · subst q1 q2
      rw [e1] at f1; cases f1
      exact hc
    · refine (h.at_ m b x f1 q2).mono (List.prefix_refl _) hx fun hrx => ?_
      exact upd_ne fun z => q1 (h.inj m n b x c f1 (by rw [z]; exact e1) q2 e2 hrx hr)
end

/-! ### a run's result, and what is wanted behind it -/
section
variable {K : PySem.W.Frag} {cA : Str → Addr} {W : WX} {σ : L2.St} {μ μ' : List Addr} {H H' : Hp} {α β : Type}
def Run (K : PySem.W.Frag) (cA : Str → Addr) (W : WX) (σ : L2.St) (μ : List Addr) (H : Hp) (r : R α) (Q : α → Mem → List Addr → Hp → Prop) : Prop := match r with
  | .ok a M => ∀ μ' H', μ <+: μ' → Ext H H' → RM K cA μ' M H' → Q a M μ' H'
  | .ex e M => ∀ μ' H' cls d, μ <+: μ' → Ext H H' → RM K cA μ' M H' → RX K cA μ' H' e cls d → W cls d σ H'
  | .no => False
theorem Run.mono {r : R α} {Q : α → Mem → List Addr → Hp → Prop} (hp : μ <+: μ') (hx : Ext H H') (h : Run K cA W σ μ H r Q) : Run K cA W σ μ' H' r Q := by
  cases r with
  | ok a M => exact fun μ2 H2 h1 h2 h3 => h μ2 H2 (hp.trans h1) (hx.trans h2) h3
  | ex e M => exact fun μ2 H2 cls d h1 h2 h3 => h μ2 H2 cls d (hp.trans h1) (hx.trans h2) h3
  | no => exact h
theorem Run.imp {r : R α} {Q Q' : α → Mem → List Addr → Hp → Prop} (h : Run K cA W σ μ H r Q) (hq : ∀ a M μ' H', μ <+: μ' → Ext H H' → RM K cA μ' M H' → Q a M μ' H' → Q' a M μ' H') : Run K cA W σ μ H r Q' := by
  cases r with
  | ok a M => exact fun μ2 H2 h1 h2 h3 => hq a M μ2 H2 h1 h2 h3 (h μ2 H2 h1 h2 h3)
  | ex e M => exact h
  | no => exact h
theorem Run.bind {r : R α} {f : α → Mem → R β} {Q : β → Mem → List Addr → Hp → Prop} (h : Run K cA W σ μ H (r.bind f) Q) : Run K cA W σ μ H r fun a M μ1 H1 => Run K cA W σ μ1 H1 (f a M) Q := by
  cases r with
  | ok a M => exact fun μ2 H2 h1 h2 _ => Run.mono h1 h2 h
  | ex e M => exact h
  | no => exact h
theorem Run.ok {a : α} {M : Mem} {Q : α → Mem → List Addr → Hp → Prop} (h : Run K cA W σ μ H (.ok a M) Q) (hp : μ <+: μ') (hx : Ext H H') (hm : RM K cA μ' M H') : Q a M μ' H' := h μ' H' hp hx hm
theorem Run.ok0 {a : α} {M : Mem} {Q : α → Mem → List Addr → Hp → Prop} (h : Run K cA W σ μ H (.ok a M) Q) (hm : RM K cA μ M H) : Q a M μ H := h μ H (List.prefix_refl _) (Ext.refl _) hm
end
/-- what is wanted of a value -/
abbrev QV (K : PySem.W.Frag) (Q : VK) : T → Mem → List Addr → Hp → Prop := fun t _ μ H => ∀ x, RV K μ H t x → Q x H
abbrev QB (Q : Bool → Hp → Prop) : Bool → Mem → List Addr → Hp → Prop := fun b _ _ H => Q b H
abbrev QA (K : PySem.W.Frag) (Q : List V → Hp → Prop) : List T → Mem → List Addr → Hp → Prop := fun ts _ μ H => ∀ xs, RVs K μ H ts xs → Q xs H
/-! ### readings -/
section
variable (K : PySem.W.Frag) (cA : Str → Addr) (ea : Option EA) (W : WX)
def tD (d : DE) : TE := fun σ H Q => ∃ ρ μ M, RE K cA ea μ H ρ σ ∧ RM K cA μ M H ∧ Run K cA W σ μ H (d ρ M) (QV K Q)
def tDB (d : DB) : TT := fun σ H Q => ∃ ρ μ M, RE K cA ea μ H ρ σ ∧ RM K cA μ M H ∧ Run K cA W σ μ H (d ρ M) (QB Q)
def tDA (d : DA) : TA := fun σ H Q => ∃ ρ μ M, RE K cA ea μ H ρ σ ∧ RM K cA μ M H ∧ Run K cA W σ μ H (d ρ M) (QA K Q)
def RunS (K : PySem.W.Frag) (cA : Str → Addr) (ea : Option EA) (W : WX) (μ : List Addr) (H : Hp) (r : RS) (D : Ends) : Prop := match r with
  | .nx ρ M => ∀ σ' μ' H', μ <+: μ' → Ext H H' → RM K cA μ' M H' → RE K cA ea μ' H' ρ σ' → D.nx σ' H'
  | .rt t M => ∀ μ' H' x, μ <+: μ' → Ext H H' → RM K cA μ' M H' → RV K μ' H' t x → D.rt x H'
  | .bk ρ M => ∀ σ' μ' H', μ <+: μ' → Ext H H' → RM K cA μ' M H' → RE K cA ea μ' H' ρ σ' → D.bk σ' H'
  | .ct ρ M => ∀ σ' μ' H', μ <+: μ' → Ext H H' → RM K cA μ' M H' → RE K cA ea μ' H' ρ σ' → D.ct σ' H'
  | .ex e ρ M => ∀ σ' μ' H' cls d, μ <+: μ' → Ext H H' → RM K cA μ' M H' → RE K cA ea μ' H' ρ σ' → RX K cA μ' H' e cls d → W cls d σ' H'
  | .no => False
def tDS (d : DS) : TS := fun D σ H => ∃ ρ μ M, RE K cA ea μ H ρ σ ∧ RM K cA μ M H ∧ RunS K cA ea W μ H (d ρ M) D
/-- a def's promise -/
def spD (f : FD) : Sp := fun vs H Q E => ∃ ts μ M, RVs K μ H ts vs ∧ RM K cA μ M H ∧ Run K cA (fun cls d _ H' => E cls d H') [] μ H (f ts M) (QV K Q)
end
section
variable {K : PySem.W.Frag} {cA : Str → Addr} {ea : Option EA} {W : WX} {μ μ' : List Addr} {H H' : Hp} {D : Ends}
theorem RunS.mono {r : RS} (hp : μ <+: μ') (hx : Ext H H') (h : RunS K cA ea W μ H r D) : RunS K cA ea W μ' H' r D := by
  cases r with
  | nx ρ M => exact fun σ2 μ2 H2 h1 h2 h3 => h σ2 μ2 H2 (hp.trans h1) (hx.trans h2) h3
  | rt t M => exact fun μ2 H2 x h1 h2 h3 => h μ2 H2 x (hp.trans h1) (hx.trans h2) h3
  | bk ρ M => exact fun σ2 μ2 H2 h1 h2 h3 => h σ2 μ2 H2 (hp.trans h1) (hx.trans h2) h3
  | ct ρ M => exact fun σ2 μ2 H2 h1 h2 h3 => h σ2 μ2 H2 (hp.trans h1) (hx.trans h2) h3
  | ex e ρ M => exact fun σ2 μ2 H2 cls d h1 h2 h3 => h σ2 μ2 H2 cls d (hp.trans h1) (hx.trans h2) h3
  | no => exact h
theorem RE.set {ρ : Ev} {σ : L2.St} {j : Nat} {t : T} {x : V} (h : RE K cA ea μ H ρ σ) (r : RV K μ H t x) (hne : ∀ q : EA, ea = some q → q.i ≠ j) : RE K cA ea μ H (ρ.set j (some t)) (σ.set j (some x)) := by
  refine ⟨by rw [List.length_set, List.length_set]; exact h.len, fun i u e => ?_, fun q e => ⟨?_, (h.exc q e).2⟩⟩
  · by_cases q : j = i
    · subst q
      have hj : j < ρ.length := by
        have := (List.getElem?_eq_some_iff.mp e).1
        rwa [List.length_set] at this
      rw [List.getElem?_set_self hj] at e
      cases e
      exact ⟨x, List.getElem?_set_self (by rw [← h.len]; exact hj), r⟩
    · rw [List.getElem?_set_ne q] at e ⊢
      exact h.at_ i u e
  · rw [List.getElem?_set_ne (Ne.symm (hne q e))]
    exact (h.exc q e).1
end
end DN

namespace DN
open PySem PySem.Spec L2

/-! ### the context of a body -/
structure Cn (X : Cx) (W : WX) (k : Nat) : Prop where
  tk : Takes X W
  po : PassesOwn (model X.prog X.w) X.A X.env X.xe
  hr : Room k X.A
  nd : X.N.Nodup
  calm : X.calm = true
section
variable {X : Cx}
theorem PE.weak {e : Expr} {t t' : TE} (h : PE X e t) (w : ∀ σ H Q, t' σ H Q → t σ H Q) : PE X e t' := ⟨fun pins s σ H Q I q => h.run pins s σ H Q I (w σ H Q q)⟩
theorem PT.weak {e : Expr} {t t' : TT} (h : PT X e t) (w : ∀ σ H Q, t' σ H Q → t σ H Q) : PT X e t' := ⟨fun pins s σ H Q I q => h.run pins s σ H Q I (w σ H Q q)⟩
theorem PW.weak {e : Expr} {t t' : TT} (h : PW X e t) (w : ∀ σ H Q, t' σ H Q → t σ H Q) : PW X e t' := ⟨fun wh pins s σ H Q I q => h.run wh pins s σ H Q I (w σ H Q q)⟩
theorem PA.weak {e : List Expr} {t t' : TA} (h : PA X e t) (w : ∀ σ H Q, t' σ H Q → t σ H Q) : PA X e t' := ⟨fun pos pins s σ H Q I q => h.run pos pins s σ H Q I (w σ H Q q)⟩
theorem PS.weak {e : Stmt} {t t' : TS} (h : PS X e t) (w : ∀ D σ H, t' D σ H → t D σ H) : PS X e t' := ⟨fun pins s σ H D I q => h.run pins s σ H D I (w D σ H q)⟩
theorem PSs.weak {e : List Stmt} {t t' : TS} (h : PSs X e t) (w : ∀ D σ H, t' D σ H → t D σ H) : PSs X e t' := ⟨fun pins s σ H D I q => h.run pins s σ H D I (w D σ H q)⟩
end

/-! ### denotations of expressions -/
def dV (i : Nat) : DE := fun ρ M => match ρ[i]? with
  | some (some t) => .ok t M
  | _ => .no
def dC (t : T) : DE := fun _ M => .ok t M
def dBin (f : T → T → Mem → R T) (a b : DE) : DE := fun ρ M => (a ρ M).bind fun x M1 => (b ρ M1).bind fun y M2 => f x y M2
def dUn (f : T → Mem → R T) (a : DE) : DE := fun ρ M => (a ρ M).bind f
def dNilA : DA := fun _ M => .ok [] M
def dConsA (a : DE) (r : DA) : DA := fun ρ M => (a ρ M).bind fun x M1 => (r ρ M1).bind fun xs M2 => .ok (x :: xs) M2
def dTup (a : DA) : DE := fun ρ M => (a ρ M).bind fun xs M1 => if xs.length ≤ sizeLine then .ok (.tup xs) M1 else .no
def dLst (a : DA) : DE := fun ρ M => (a ρ M).bind fun xs M1 => if xs.length ≤ sizeLine then .ok (.ob M1.length) (M1 ++ [.lst xs]) else .no
/-- a value that must be a flag, as a test -/
def dB (a : DE) : DB := fun ρ M => (a ρ M).bind fun x M1 => match x with
  | .bl b => .ok b M1
  | _ => .no
def dAndB (a b : DB) : DB := fun ρ M => (a ρ M).bind fun x M1 => if x = true then b ρ M1 else .ok false M1
def dOrB (a b : DB) : DB := fun ρ M => (a ρ M).bind fun x M1 => if x = true then .ok true M1 else b ρ M1
def dNotB (a : DB) : DB := fun ρ M => (a ρ M).bind fun x M1 => .ok (!x) M1
def dAnd (a b : DE) : DE := fun ρ M => (a ρ M).bind fun x M1 => match x with
  | .bl c => if c = true then b ρ M1 else .ok (.bl false) M1
  | _ => .no
def dOr (a b : DE) : DE := fun ρ M => (a ρ M).bind fun x M1 => match x with
  | .bl c => if c = true then .ok (.bl true) M1 else b ρ M1
  | _ => .no
def dNot (a : DE) : DE := fun ρ M => (a ρ M).bind fun x M1 => match x with
  | .bl c => .ok (.bl (!c)) M1
  | _ => .no
def dIf (c : DB) (a b : DE) : DE := fun ρ M => (c ρ M).bind fun x M1 => if x = true then a ρ M1 else b ρ M1

section
variable {K : PySem.W.Frag} {cA : Str → Addr} {ea : Option EA} {W : WX} {σ : L2.St} {μ : List Addr} {H : Hp}
/-- a value and the wish behind it -/
theorem Run.val {t : T} {M : Mem} {Q : VK} {x : V} (h : Run K cA W σ μ H (.ok t M) (QV K Q)) (hm : RM K cA μ M H) (r : RV K μ H t x) : Q x H := h.ok0 hm x r
/-- a new tuple -/
theorem Run.tup {ts : List T} {xs : List V} {M : Mem} {Q : VK} (h : Run K cA W σ μ H (.ok (.tup ts) M) (QV K Q)) (hm : RM K cA μ M H) (r : RVs K μ H ts xs) {p : Addr} (hp : H p = none) : Q (.ref p) (upd H p (.tup xs)) := by
  refine h.ok (List.prefix_refl _) (Ext.new hp) (hm.fresh hp) _ ?_
  rw [RV]
  exact ⟨p, xs, rfl, SqT.of upd_same, r.mono (List.prefix_refl _) (Ext.new hp)⟩
theorem keep_new {p : Addr} {o : HO} (hp : H p = none) : ∀ a u, H a = some u → Mut (some u) → upd H p o a = some u := fun a u e _ => by rw [upd_ne (ne_of_none e hp)]; exact e
/-- a new cell -/
theorem Run.new {c : C} {o : HO} {M : Mem} {Q : VK} (h : Run K cA W σ μ H (.ok (.ob M.length) (M ++ [c])) (QV K Q)) (hm : RM K cA μ M H) {p : Addr} (hp : H p = none) (hr : c.isRo = false)
    (hc : RC K cA (μ ++ [p]) (upd H p o) p c) : Q (.ref p) (upd H p o) := by
  refine h.ok (List.prefix_append _ _) (Ext.new hp) (hm.new (Ext.new hp) (keep_new hp) hp hr hc) _ ?_
  rw [RV]
  exact ⟨p, rfl, by rw [← hm.len, List.getElem?_append_right (Nat.le_refl _), Nat.sub_self]; rfl⟩
theorem Run.newL {ts : List T} {xs : List V} {M : Mem} {Q : VK} (h : Run K cA W σ μ H (.ok (.ob M.length) (M ++ [.lst ts])) (QV K Q)) (hm : RM K cA μ M H) (r : RVs K μ H ts xs) {p : Addr} (hp : H p = none) : Q (.ref p) (upd H p (.lst xs)) :=
  h.new hm hp rfl ⟨xs, upd_same, r.mono (List.prefix_append _ _) (Ext.new hp)⟩
end

/-! ### operators by values -/
/-- a binary operator, by its rule -/
def OpD (X : Cx) (cA : Str → Addr) (W : WX) (f : Value → Value → Sem Value) (g : T → T → Mem → R T) : Prop :=
  ∀ (pins : List (Addr × Obj)) (s : Shared) (σ : L2.St) (H : Hp) (μ : List Addr) (M : Mem) (t u : T) (x y : V) (v w : Value) (Q : VK), Inv X pins σ H s → RelV x v → RelV y w →
    RV X.K μ H t x → RV X.K μ H u y → RM X.K cA μ M H → Run X.K cA W σ μ H (g t u M) (QV X.K Q) → wpAny (model X.prog X.w) X.A (f v w) (EP X pins σ Q) X.xe s
section
variable {X : Cx} {cA : Str → Addr} {ea : Option EA} {W : WX}
theorem opD {f : Value → Value → Sem Value} {r : R2} {g : T → T → Mem → R T} (ho : OpR X f r)
    (h : ∀ (σ : L2.St) (H : Hp) (μ : List Addr) (M : Mem) (t u : T) (x y : V) (Q : VK), RV X.K μ H t x → RV X.K μ H u y → RM X.K cA μ M H → Run X.K cA W σ μ H (g t u M) (QV X.K Q) → r x y H Q) : OpD X cA W f g :=
  fun pins s σ H μ M t u x y v w Q I r1 r2 h1 h2 hm hr => ho pins s σ H x y v w Q I r1 r2 (h σ H μ M t u x y Q h1 h2 hm hr)
theorem s_bin {op : Operator} {g : T → T → Mem → R T} {a b : Expr} {da db : DE} {pos : Pos} (ho : OpD X cA W (binaryOp op) g) (ha : PE X a (tD X.K cA ea W da)) (hb : PE X b (tD X.K cA ea W db)) : PE X (.BinOp a op b pos) (tD X.K cA ea W (dBin g da db)) := by
  refine ⟨fun pins s σ H Q I h => ?_⟩
  obtain ⟨ρ, μ, M, he, hm, hr⟩ := h
  refine wpAny_BinOp (bin (R := fun x y H2 => ∃ μ M t u, RV X.K μ H2 t x ∧ RV X.K μ H2 u y ∧ RM X.K cA μ M H2 ∧ Run X.K cA W σ μ H2 (g t u M) (QV X.K Q)) ha hb I ?_ fun v u s2 x y H2 I2 rx ry q => ?_)
  · refine ⟨ρ, μ, M, he, hm, hr.bind.imp fun t M1 μ1 H1 hp hx hm1 hr1 x hx1 => ?_⟩
    refine ⟨ρ, μ1, M1, he.mono hp hx, hm1, hr1.bind.imp fun u M2 μ2 H2 hp2 hx2 hm2 hr2 y hy => ?_⟩
    exact ⟨μ2, M2, t, u, hx1.mono hp2 hx2, hy, hm2, hr2⟩
  · obtain ⟨μ, M, t, u', h1, h2, h3, h4⟩ := q
    exact ho pins s2 σ H2 μ M t u' x y v u Q I2 rx ry h1 h2 h3 h4
theorem s_cmp {op : CmpOp} {g : T → T → Mem → R T} {a b : Expr} {da db : DE} {pos : Pos} (ho : OpD X cA W (compareOp op) g) (ha : PE X a (tD X.K cA ea W da)) (hb : PE X b (tD X.K cA ea W db)) (hm : behindInMarks op b = false := by first | exact nomark _ (by decide) (by decide) | rfl) :
    PE X (.Compare a [op] [b] pos) (tD X.K cA ea W (dBin g da db)) := by
  refine ⟨fun pins s σ H Q I h => ?_⟩
  obtain ⟨ρ, μ, M, he, hmm, hr⟩ := h
  refine wpAny_Compare1 (bin (R := fun x y H2 => ∃ μ M t u, RV X.K μ H2 t x ∧ RV X.K μ H2 u y ∧ RM X.K cA μ M H2 ∧ Run X.K cA W σ μ H2 (g t u M) (QV X.K Q)) ha hb I ?_ fun v u s2 x y H2 I2 rx ry q => ?_) hm
  · refine ⟨ρ, μ, M, he, hmm, hr.bind.imp fun t M1 μ1 H1 hp hx hm1 hr1 x hx1 => ?_⟩
    refine ⟨ρ, μ1, M1, he.mono hp hx, hm1, hr1.bind.imp fun u M2 μ2 H2 hp2 hx2 hm2 hr2 y hy => ?_⟩
    exact ⟨μ2, M2, t, u, hx1.mono hp2 hx2, hy, hm2, hr2⟩
  · obtain ⟨μ, M, t, u', h1, h2, h3, h4⟩ := q
    exact ho pins s2 σ H2 μ M t u' x y v u Q I2 rx ry h1 h2 h3 h4
/-! ### names, constants -/
theorem s_v (i : Nat) {x : Str} {pos : Pos} (hN : X.N[i]? = some x := by rfl) (hv : Vis X.env.scope x := by first | exact Or.inl rfl | exact Or.inr (Or.inl rfl) | exact Or.inr (Or.inr rfl)) (hd : (x == ("__debug__" : Str)) = false := by decide)
    (hcd : (x == ("__classdict__" : Str)) = false := by decide) : PE X (.Name x pos) (tD X.K cA ea W (dV i)) := by
  refine PE.weak (pe_var hN hv hd hcd) fun σ H Q h => ?_
  obtain ⟨ρ, μ, M, he, hm, hr⟩ := h
  show ∃ v, σ[i]? = some (some v) ∧ Q v H
  unfold dV at hr
  cases e : ρ[i]? with
  | none => rw [e] at hr; exact hr.elim
  | some o =>
    cases o with
    | none => rw [e] at hr; exact hr.elim
    | some t =>
      rw [e] at hr
      obtain ⟨x, e1, r⟩ := he.at_ i t e
      exact ⟨x, e1, hr.val hm r⟩
theorem s_const {e : Expr} {v : V} (t : T) (h : PE X e (tC v)) (r : ∀ μ H, RV X.K μ H t v) : PE X e (tD X.K cA ea W (dC t)) :=
  PE.weak h fun σ H Q ⟨ρ, μ, M, he, hm, hr⟩ => hr.val hm (r μ H)
theorem s_int {i j pos} : PE X (.Constant (.int i) j pos) (tD X.K cA ea W (dC (.int i))) := s_const _ pe_int fun _ _ => by rw [RV]
theorem s_bl {b j pos} : PE X (.Constant (.bool b) j pos) (tD X.K cA ea W (dC (.bl b))) := s_const _ pe_bl fun _ _ => by rw [RV]
theorem s_non {j pos} : PE X (.Constant .none j pos) (tD X.K cA ea W (dC .non)) := s_const _ pe_non fun _ _ => by rw [RV]
theorem s_str {x j pos} : PE X (.Constant (.str x) j pos) (tD X.K cA ea W (dC (.str x))) := s_const _ pe_str fun _ _ => by rw [RV]
/-- a constant of the module -/
theorem s_gint {x : Str} {i : Int} {pos : Pos} (hm : ∃ t, X.mg x = some (.int i t)) (hg : Gl X x := by rfl) (hd : (x == ("__debug__" : Str)) = false := by decide) : PE X (.Name x pos) (tD X.K cA ea W (dC (.int i))) :=
  let ⟨t, e⟩ := hm
  s_const _ (pe_glob hg e (v := .int i) ⟨t, rfl⟩ hd) fun _ _ => by rw [RV]
theorem s_gstr {x : Str} {i : Str} {pos : Pos} (hm : ∃ t, X.mg x = some (.str i t)) (hg : Gl X x := by rfl) (hd : (x == ("__debug__" : Str)) = false := by decide) : PE X (.Name x pos) (tD X.K cA ea W (dC (.str i))) :=
  let ⟨t, e⟩ := hm
  s_const _ (pe_glob hg e (v := .str i) ⟨t, rfl⟩ hd) fun _ _ => by rw [RV]
/-! ### arguments, displays -/
theorem s_nilA : PA X [] (tDA X.K cA ea W dNilA) := PA.weak pa_nil fun σ H Q ⟨ρ, μ, M, he, hm, hr⟩ => hr.ok0 hm _ RVs.nil
theorem s_consA {e : Expr} {es : List Expr} {d : DE} {r : DA} (ha : PE X e (tD X.K cA ea W d)) (hr : PA X es (tDA X.K cA ea W r)) (hs : starEach (e :: es) X.env = (false, eval e X.env) :: starEach es X.env := by rfl) : PA X (e :: es) (tDA X.K cA ea W (dConsA d r)) := by
  refine PA.weak (pa_cons ha hr hs) fun σ H Q ⟨ρ, μ, M, he, hm, h⟩ => ?_
  refine ⟨ρ, μ, M, he, hm, h.bind.imp fun t M1 μ1 H1 hp hx hm1 h1 x rx => ?_⟩
  refine ⟨ρ, μ1, M1, he.mono hp hx, hm1, h1.bind.imp fun ts M2 μ2 H2 hp2 hx2 hm2 h2 xs rxs => ?_⟩
  exact h2.ok0 hm2 _ (RVs.cons (rx.mono hp2 hx2) rxs)
theorem s_tup {es : List Expr} {x1 : Nat} {pos : Pos} {d : DA} (h : PA X es (tDA X.K cA ea W d)) : PE X (.Tuple es x1 pos) (tD X.K cA ea W (dTup d)) := by
  refine PE.weak (pe_tup h) fun σ H Q ⟨ρ, μ, M, he, hm, hr⟩ => ?_
  refine ⟨ρ, μ, M, he, hm, hr.bind.imp fun ts M1 μ1 H1 hp hx hm1 h1 xs rx => ?_⟩
  by_cases hl : ts.length ≤ sizeLine
  · rw [if_pos hl] at h1
    exact ⟨by rw [← rx.length]; exact hl, fun p hp' => h1.tup hm1 rx hp'⟩
  · rw [if_neg hl] at h1; exact h1.elim
theorem s_lst {es : List Expr} {pos : Pos} {d : DA} (h : PA X es (tDA X.K cA ea W d)) : PE X (.List es pos) (tD X.K cA ea W (dLst d)) := by
  refine PE.weak (pe_lst h) fun σ H Q ⟨ρ, μ, M, he, hm, hr⟩ => ?_
  refine ⟨ρ, μ, M, he, hm, hr.bind.imp fun ts M1 μ1 H1 hp hx hm1 h1 xs rx => ?_⟩
  by_cases hl : ts.length ≤ sizeLine
  · rw [if_pos hl] at h1
    exact ⟨by rw [← rx.length]; exact hl, fun p hp' => h1.newL hm1 rx hp'⟩
  · rw [if_neg hl] at h1; exact h1.elim
/-! ### tests -/
theorem s_test {e : Expr} {d : DE} (h : PE X e (tD X.K cA ea W d)) (he : ∀ whole, isTrue e X.env whole = (do let v ← whole; standAt e.pos; holding [v] (truthy v)) := by intro _; rfl) : PT X e (tDB X.K cA ea W (dB d)) := by
  refine PT.weak (pt_val h he) fun σ H Q ⟨ρ, μ, M, hee, hm, hr⟩ => ?_
  refine ⟨ρ, μ, M, hee, hm, hr.bind.imp fun t M1 μ1 H1 hp hx hm1 h1 x rx => ?_⟩
  cases t with
  | bl b =>
    rw [RV] at rx
    exact ⟨b, rx, h1.ok0 hm1⟩
  | _ => exact h1.elim
/-- a comparison as a test -/
theorem s_testC {a b : Expr} {op : CmpOp} {pos : Pos} {d : DE} (h : PE X (.Compare a [op] [b] pos) (tD X.K cA ea W d)) : True := trivial
theorem s_cmpT {op : CmpOp} {g : T → T → Mem → R T} {a b : Expr} {da db : DE} {pos : Pos} (ho : OpD X cA W (compareOp op) g) (ha : PE X a (tD X.K cA ea W da)) (hb : PE X b (tD X.K cA ea W db)) (hm : behindInMarks op b = false := by first | exact nomark _ (by decide) (by decide) | rfl) :
    PT X (.Compare a [op] [b] pos) (tDB X.K cA ea W (dB (dBin g da db))) := by
  refine ⟨fun pins s σ H Q I h => ?_⟩
  obtain ⟨ρ, μ, M, he, hmm, hr⟩ := h
  refine wpAny_isTrue_Compare1 (bin (R := fun x y H2 => ∃ μ M t u, RV X.K μ H2 t x ∧ RV X.K μ H2 u y ∧ RM X.K cA μ M H2 ∧ Run X.K cA W σ μ H2 (g t u M) (fun t M1 μ1 H1 => ∃ b, t = .bl b ∧ Q b H1)) ha hb I ?_ fun v u s2 x y H2 I2 rx ry q => ?_) hm
  · refine ⟨ρ, μ, M, he, hmm, hr.bind.bind.imp fun t M1 μ1 H1 hp hx hm1 hr1 x hx1 => ?_⟩
    refine ⟨ρ, μ1, M1, he.mono hp hx, hm1, hr1.bind.imp fun u M2 μ2 H2 hp2 hx2 hm2 hr2 y hy => ?_⟩
    refine ⟨μ2, M2, t, u, hx1.mono hp2 hx2, hy, hm2, hr2.imp fun z M3 μ3 H3 _ _ hm3 hr3 => ?_⟩
    cases z with
    | bl b => exact ⟨b, rfl, hr3.ok0 hm3⟩
    | _ => exact hr3.elim
  · obtain ⟨μ, M, t, u', h1, h2, h3, h4⟩ := q
    refine thn (ho pins s2 σ H2 μ M t u' x y v u (fun x H' => ∃ b, x = .bl b ∧ Q b H') I2 rx ry h1 h2 h3 (h4.imp fun z M3 μ3 H3 _ _ _ hz x' rx' => ?_)) fun c s3 ⟨x', H', I', r', q'⟩ => ?_
    · obtain ⟨b, rfl, q⟩ := hz
      rw [RV] at rx'
      exact ⟨b, rx', q⟩
    · obtain ⟨b, rfl, q⟩ := q'
      cases r'
      exact wpAny_truthy_bool ⟨H', I', q⟩
variable {a b : Expr} {rest : List Expr} {pos : Pos}
theorem s_notT {d : DB} (h : PT X a (tDB X.K cA ea W d)) : PT X (.UnaryOp .Not a pos) (tDB X.K cA ea W (dNotB d)) := by
  refine PT.weak (pt_not h) fun σ H Q ⟨ρ, μ, M, he, hm, hr⟩ => ?_
  exact ⟨ρ, μ, M, he, hm, hr.bind.imp fun t M1 μ1 H1 hp hx hm1 h1 => h1.ok0 hm1⟩
theorem s_and1 {d : DB} (h : PT X a (tDB X.K cA ea W d)) : PW X (.BoolOp .And [a] pos) (tDB X.K cA ea W d) := pw_and1 h
theorem s_or1 {d : DB} (h : PT X a (tDB X.K cA ea W d)) : PW X (.BoolOp .Or [a] pos) (tDB X.K cA ea W d) := pw_or1 h
theorem s_andW {d d' : DB} (ha : PT X a (tDB X.K cA ea W d)) (hb : PW X (.BoolOp .And (b :: rest) pos) (tDB X.K cA ea W d')) : PW X (.BoolOp .And (a :: b :: rest) pos) (tDB X.K cA ea W (dAndB d d')) := by
  refine PW.weak (pw_and ha hb) fun σ H Q ⟨ρ, μ, M, he, hm, hr⟩ => ?_
  refine ⟨ρ, μ, M, he, hm, hr.bind.imp fun t M1 μ1 H1 hp hx hm1 h1 => ?_⟩
  show if t = true then _ else _
  cases t with
  | true => exact ⟨ρ, μ1, M1, he.mono hp hx, hm1, h1⟩
  | false => exact h1.ok0 hm1
theorem s_orW {d d' : DB} (ha : PT X a (tDB X.K cA ea W d)) (hb : PW X (.BoolOp .Or (b :: rest) pos) (tDB X.K cA ea W d')) : PW X (.BoolOp .Or (a :: b :: rest) pos) (tDB X.K cA ea W (dOrB d d')) := by
  refine PW.weak (pw_or ha hb) fun σ H Q ⟨ρ, μ, M, he, hm, hr⟩ => ?_
  refine ⟨ρ, μ, M, he, hm, hr.bind.imp fun t M1 μ1 H1 hp hx hm1 h1 => ?_⟩
  show if t = true then _ else _
  cases t with
  | false => exact ⟨ρ, μ1, M1, he.mono hp hx, hm1, h1⟩
  | true => exact h1.ok0 hm1
/-! .. as values -/
theorem s_one {op} {d : DE} (h : PE X a (tD X.K cA ea W d)) : PE X (.BoolOp op [a] pos) (tD X.K cA ea W d) := pe_one h
theorem s_and {d d' : DE} (ha : PE X a (tD X.K cA ea W d)) (hb : PE X (.BoolOp .And (b :: rest) pos) (tD X.K cA ea W d')) : PE X (.BoolOp .And (a :: b :: rest) pos) (tD X.K cA ea W (dAnd d d')) := by
  refine PE.weak (pe_and ha hb) fun σ H Q ⟨ρ, μ, M, he, hm, hr⟩ => ?_
  refine ⟨ρ, μ, M, he, hm, hr.bind.imp fun t M1 μ1 H1 hp hx hm1 h1 x rx => ?_⟩
  cases t with
  | bl c =>
    rw [RV] at rx
    refine ⟨c, rx, ?_⟩
    cases c with
    | true => exact ⟨ρ, μ1, M1, he.mono hp hx, hm1, h1⟩
    | false => exact h1.val hm1 (by rw [RV])
  | _ => exact h1.elim
theorem s_or {d d' : DE} (ha : PE X a (tD X.K cA ea W d)) (hb : PE X (.BoolOp .Or (b :: rest) pos) (tD X.K cA ea W d')) : PE X (.BoolOp .Or (a :: b :: rest) pos) (tD X.K cA ea W (dOr d d')) := by
  refine PE.weak (pe_or ha hb) fun σ H Q ⟨ρ, μ, M, he, hm, hr⟩ => ?_
  refine ⟨ρ, μ, M, he, hm, hr.bind.imp fun t M1 μ1 H1 hp hx hm1 h1 x rx => ?_⟩
  cases t with
  | bl c =>
    rw [RV] at rx
    refine ⟨c, rx, ?_⟩
    cases c with
    | false => exact ⟨ρ, μ1, M1, he.mono hp hx, hm1, h1⟩
    | true => exact h1.val hm1 (by rw [RV])
  | _ => exact h1.elim
theorem s_not {d : DE} (ha : PE X a (tD X.K cA ea W d)) : PE X (.UnaryOp .Not a pos) (tD X.K cA ea W (dNot d)) := by
  refine PE.weak (pe_not ha) fun σ H Q ⟨ρ, μ, M, he, hm, hr⟩ => ?_
  refine ⟨ρ, μ, M, he, hm, hr.bind.imp fun t M1 μ1 H1 hp hx hm1 h1 x rx => ?_⟩
  cases t with
  | bl c =>
    rw [RV] at rx
    exact ⟨c, rx, h1.val hm1 (by rw [RV])⟩
  | _ => exact h1.elim
theorem s_if {c : Expr} {dc : DB} {d d' : DE} (hc : PT X c (tDB X.K cA ea W dc)) (ha : PE X a (tD X.K cA ea W d)) (hb : PE X b (tD X.K cA ea W d')) : PE X (.IfExp c a b pos) (tD X.K cA ea W (dIf dc d d')) := by
  refine PE.weak (pe_ifExp hc ha hb) fun σ H Q ⟨ρ, μ, M, he, hm, hr⟩ => ?_
  refine ⟨ρ, μ, M, he, hm, hr.bind.imp fun t M1 μ1 H1 hp hx hm1 h1 => ?_⟩
  show if t = true then _ else _
  cases t with
  | true => exact ⟨ρ, μ1, M1, he.mono hp hx, hm1, h1⟩
  | false => exact ⟨ρ, μ1, M1, he.mono hp hx, hm1, h1⟩
end
end DN

namespace DN
open PySem PySem.Spec L2

/-! ### operators on values -/
def addT : T → T → Mem → R T
  | .int i, .int j, M => .ok (.int (i + j)) M
  | .str x, .str y, M => if x.length + y.length ≤ sizeLine then .ok (.str (x ++ y)) M else .no
  | .tup a, .tup b, M => if a.length + b.length ≤ sizeLine then .ok (.tup (a ++ b)) M else .no
  | .ob n, .ob m, M => match M[n]?, M[m]? with
    | some (.lst a), some (.lst b) => if a.length + b.length ≤ sizeLine then .ok (.ob M.length) (M ++ [.lst (a ++ b)]) else .no
    | _, _ => .no
  | _, _, _ => .no
def subT : T → T → Mem → R T
  | .int i, .int j, M => .ok (.int (i - j)) M
  | _, _, _ => .no
def mulT : T → T → Mem → R T
  | .int i, .int j, M => if (-(2 ^ 64) < i ∧ i < 2 ^ 64) ∨ (-(2 ^ 64) < j ∧ j < 2 ^ 64) then .ok (.int (i * j)) M else .no
  | _, _, _ => .no
def divT : T → T → Mem → R T
  | .int i, .int j, M => if 0 < j ∧ j < 1073741824 then .ok (.int (i / j)) M else .no
  | _, _, _ => .no
def modT : T → T → Mem → R T
  | .int i, .int j, M => if 0 < j then .ok (.int (i % j)) M else .no
  | _, _, _ => .no
def powT : T → T → Mem → R T
  | .int i, .int j, M => if 0 ≤ j ∧ j ≤ 1000000 ∧ i.natAbs < 2 ^ 64 then .ok (.int (i ^ j.toNat)) M else .no
  | _, _, _ => .no
def negT : T → Mem → R T
  | .int i, M => .ok (.int (-i)) M
  | _, _ => .no
/-- comparisons of ints and of texts -/
def ltT : T → T → Mem → R T
  | .int i, .int j, M => .ok (.bl (decide (i < j))) M
  | .str x, .str y, M => .ok (.bl (decide (x.cps.toList < y.cps.toList))) M
  | _, _, _ => .no
def leT : T → T → Mem → R T
  | .int i, .int j, M => .ok (.bl (decide (i ≤ j))) M
  | _, _, _ => .no
def gtT : T → T → Mem → R T
  | .int i, .int j, M => .ok (.bl (decide (j < i))) M
  | .str x, .str y, M => .ok (.bl (decide (y.cps.toList < x.cps.toList))) M
  | _, _, _ => .no
def geT : T → T → Mem → R T
  | .int i, .int j, M => .ok (.bl (decide (j ≤ i))) M
  | _, _, _ => .no

/-! ### data at any depth -/
mutual
def datF (g : Nat → Option PyData) : T → Option PyData
  | .non => some .none
  | .bl b => some (.bool b)
  | .int i => some (.int i)
  | .str x => some (.str x)
  | .tup ts => match datFs g ts with
    | some ds => some (.tuple ds)
    | none => none
  | .ob n => g n
def datFs (g : Nat → Option PyData) : List T → Option (List PyData)
  | [] => some []
  | t :: ts => match datF g t, datFs g ts with
    | some d, some ds => some (d :: ds)
    | _, _ => none
end
def datG : Nat → Mem → Nat → Option PyData
  | 0, _, _ => none
  | n + 1, M, k => match M[k]? with
    | some (.lst ts) => (match datFs (datG n M) ts with
      | some ds => some (.list ds)
      | none => none)
    | some (.ro ts) => (match datFs (datG n M) ts with
      | some ds => some (.list ds)
      | none => none)
    | _ => none
def dat (M : Mem) (t : T) : Option PyData := datF (datG 4 M) t
def scalT : T → T → Bool
  | .non, .non => true | .non, .int _ => true | .int _, .non => true | .non, .bl _ => true | .bl _, .non => true
  | .non, .str _ => true | .str _, .non => true | .int _, .int _ => true | .bl _, .bl _ => true | .str _, .str _ => true
  | .int _, .str _ => true | .str _, .int _ => true | .bl _, .str _ => true | .str _, .bl _ => true
  | _, _ => false
def eqT (x y : T) (M : Mem) : R T := if scalT x y = true then .ok (.bl (decide (x = y))) M else match dat M x, dat M y with
  | some d, some e => if SeqAt.shaped d = true ∧ SeqAt.shaped e = true then .ok (.bl (PyData.eqv d e)) M else .no
  | _, _ => .no
def neT (x y : T) (M : Mem) : R T := if scalT x y = true then .ok (.bl (!decide (x = y))) M else match dat M x, dat M y with
  | some d, some e => if SeqAt.shaped d = true ∧ SeqAt.shaped e = true then .ok (.bl (!PyData.eqv d e)) M else .no
  | _, _ => .no
def isNT (x : T) (y : T) (M : Mem) : R T := match y with
  | .non => .ok (.bl (decide (x = .non))) M
  | .bl b => (match x with
    | .bl a => .ok (.bl (decide (a = b))) M
    | _ => .no)
  | _ => .no
def isNotNT (x : T) (y : T) (M : Mem) : R T := match y with
  | .non => .ok (.bl (!decide (x = .non))) M
  | .bl b => (match x with
    | .bl a => .ok (.bl (!decide (a = b))) M
    | _ => .no)
  | _ => .no
def flatT : T → Bool
  | .non => true | .bl _ => true | .int _ => true | .str _ => true | _ => false
def eqS : T → T → Bool
  | .non, .non => true
  | .bl a, .bl b => a == b
  | .bl a, .int b => (if a then 1 else 0) == b
  | .int a, .bl b => a == (if b then 1 else 0)
  | .int a, .int b => a == b
  | .str a, .str b => a == b
  | _, _ => false
def inL (neg : Bool) (x : T) (ts : List T) (M : Mem) : R T := if flatT x = true ∧ ts.all flatT = true then .ok (.bl (if neg then !ts.any fun y => eqS y x else ts.any fun y => eqS y x)) M else .no
def inT (neg : Bool) (x y : T) (M : Mem) : R T := match y with
  | .str z => (match x with
    | .str w => (match w.cps.toList with
      | [c] => .ok (.bl (if neg then !decide (c ∈ z.cps.toList) else decide (c ∈ z.cps.toList))) M
      | _ => .no)
    | _ => .no)
  | .tup ts => inL neg x ts M
  | .ob n => (match M[n]? with
    | some (.lst ts) => if flatT x = true ∧ ts.all flatT = true then inL neg x ts M else
      (match dat M x, dat M y with
      | some d, some (.list ds) => if SeqAt.shaped d = true ∧ SeqAt.shaped (.list ds) = true then .ok (.bl (if neg then !ds.any fun z => PyData.eqv z d else ds.any fun z => PyData.eqv z d)) M else .no
      | _, _ => .no)
    | _ => .no)
  | _ => .no

/-! ### flat values -/
def vT : T → V
  | .non => .non | .bl b => .bl b | .int i => .int i | .str x => .str x | _ => .non
section
variable {K : PySem.W.Frag} {cA : Str → Addr} {μ : List Addr} {H : Hp} {M : Mem}
theorem RV.flat {t : T} {v : V} (h : RV K μ H t v) (f : flatT t = true) : v = vT t ∧ flatV v = true := by
  cases t with
  | tup _ => cases f
  | ob _ => cases f
  | _ => rw [RV] at h; subst h; exact ⟨rfl, rfl⟩
theorem RVs.flat : ∀ {ts : List T} {vs : List V}, RVs K μ H ts vs → ts.all flatT = true → vs = ts.map vT ∧ vs.all flatV = true
  | [], vs, h, _ => by rw [RVs] at h; subst h; exact ⟨rfl, rfl⟩
  | t :: ts, vs, h, f => by
    rw [RVs] at h
    obtain ⟨v, r, rfl, h1, h2⟩ := h
    rw [List.all_cons, Bool.and_eq_true] at f
    obtain ⟨e1, f1⟩ := h1.flat f.1
    obtain ⟨e2, f2⟩ := RVs.flat h2 f.2
    rw [e1] at f1 ⊢
    rw [e2] at f2 ⊢
    exact ⟨rfl, by rw [List.all_cons, f1, f2]; rfl⟩
theorem eqV_vT : ∀ {t u : T}, flatT t = true → flatT u = true → eqV (vT t) (vT u) = eqS t u := by
  intro t u ht hu
  cases t <;> first | (cases ht; done) | (cases u <;> first | (cases hu; done) | rfl)
theorem inV_vT {t : T} (ht : flatT t = true) : ∀ {ts : List T}, ts.all flatT = true → inV (vT t) (ts.map vT) = ts.any fun y => eqS y t
  | [], _ => rfl
  | u :: ts, f => by
    rw [List.all_cons, Bool.and_eq_true] at f
    have ih := inV_vT ht f.2
    unfold inV at ih ⊢
    rw [List.map_cons, List.any_cons, List.any_cons, ih, eqV_vT f.1 ht]
theorem RV.inj : ∀ {t : T} {v w : V}, RV K μ H t v → flatT t = true → RV K μ H t w → v = w := fun h f g => (h.flat f).1.trans (g.flat f).1.symm
/-- two scalars -/
theorem scal_of {t u : T} {x y : V} (h : scalT t u = true) (hx : RV K μ H t x) (hy : RV K μ H u y) : scal x y = true ∧ decide (x = y) = decide (t = u) := by
  cases t <;> cases u <;> first | exact (Bool.false_ne_true h).elim | (rw [RV] at hx; rw [RV] at hy; subst hx hy; refine ⟨rfl, ?_⟩; first | rfl | (simp; done))
mutual
theorem dpF {g : Nat → Option PyData} (hg : ∀ (n : Nat) (d : PyData) (a : Addr), g n = some d → μ[n]? = some a → Dp K H (.ref a) d) : ∀ {t : T} {d : PyData} {v : V}, datF g t = some d → RV K μ H t v → Dp K H v d
  | .non, d, v, e, h => by rw [datF] at e; rw [RV] at h; cases e; subst h; exact .non
  | .bl b, d, v, e, h => by rw [datF] at e; rw [RV] at h; cases e; subst h; exact .bl b
  | .int i, d, v, e, h => by rw [datF] at e; rw [RV] at h; cases e; subst h; exact .int i
  | .str x, d, v, e, h => by rw [datF] at e; rw [RV] at h; cases e; subst h; exact .str x
  | .tup ts, d, v, e, h => by
    rw [datF] at e
    rw [RV] at h
    obtain ⟨a, xs, rfl, hs, hr⟩ := h
    cases q : datFs g ts with
    | none => rw [q] at e; cases e
    | some ds =>
      rw [q] at e
      cases e
      exact .tup hs (dpFs hg q hr)
  | .ob n, d, v, e, h => by
    rw [datF] at e
    rw [RV] at h
    obtain ⟨a, rfl, h⟩ := h
    exact hg n d a e h
theorem dpFs {g : Nat → Option PyData} (hg : ∀ (n : Nat) (d : PyData) (a : Addr), g n = some d → μ[n]? = some a → Dp K H (.ref a) d) : ∀ {ts : List T} {ds : List PyData} {vs : List V}, datFs g ts = some ds → RVs K μ H ts vs → DpAll K H vs ds
  | [], ds, vs, e, h => by rw [datFs] at e; rw [RVs] at h; cases e; subst h; exact .nil
  | t :: ts, ds, vs, e, h => by
    rw [datFs] at e
    rw [RVs] at h
    obtain ⟨v, r, rfl, h1, h2⟩ := h
    cases q : datF g t with
    | none => rw [q] at e; cases e
    | some d =>
      cases q2 : datFs g ts with
      | none => rw [q, q2] at e; cases e
      | some ds2 =>
        rw [q, q2] at e
        cases e
        exact .cons (dpF hg q h1) (dpFs hg q2 h2)
end
theorem dpG (hm : RM K cA μ M H) : ∀ (k n : Nat) (d : PyData) (a : Addr), datG k M n = some d → μ[n]? = some a → Dp K H (.ref a) d
  | 0, n, d, a, e, _ => by rw [datG] at e; cases e
  | k + 1, n, d, a, e, ha => by
    rw [datG] at e
    cases q : M[n]? with
    | none => rw [q] at e; cases e
    | some c =>
      rw [q] at e
      have hc := hm.at_ n a c ha q
      cases c with
      | lst ts =>
        obtain ⟨xs, h1, h2⟩ := hc
        cases q2 : datFs (datG k M) ts with
        | none => simp [q2] at e
        | some ds =>
          simp [q2] at e
          subst e
          exact .lst (SqL.of h1) (dpFs (dpG hm k) q2 h2)
      | ro ts =>
        obtain ⟨xs, h1, h2⟩ := hc
        cases q2 : datFs (datG k M) ts with
        | none => simp [q2] at e
        | some ds =>
          simp [q2] at e
          subst e
          exact .lst h1.sq (dpFs (dpG hm k) q2 h2)
      | _ => cases e
theorem dp_of (hm : RM K cA μ M H) {t : T} {d : PyData} {v : V} (e : dat M t = some d) (h : RV K μ H t v) : Dp K H v d := dpF (dpG hm 4) e h
/-- the cell's list -/
theorem RM.lst (hm : RM K cA μ M H) {n : Nat} {ts : List T} {v : V} (e : M[n]? = some (.lst ts)) (h : RV K μ H (.ob n) v) : ∃ a xs, v = .ref a ∧ μ[n]? = some a ∧ H a = some (.lst xs) ∧ RVs K μ H ts xs := by
  rw [RV] at h
  obtain ⟨a, rfl, ha⟩ := h
  obtain ⟨xs, h1, h2⟩ := hm.at_ n a _ ha e
  exact ⟨a, xs, rfl, ha, h1, h2⟩
end

section
variable {X : Cx} {cA : Str → Addr} {W : WX}
theorem bl_ok {σ : L2.St} {μ : List Addr} {H : Hp} {M : Mem} {b : Bool} {Q : VK} (h : Run X.K cA W σ μ H (.ok (.bl b) M) (QV X.K Q)) (hm : RM X.K cA μ M H) : Q (.bl b) H := h.val hm (by rw [RV])
theorem int_ok {σ : L2.St} {μ : List Addr} {H : Hp} {M : Mem} {b : Int} {Q : VK} (h : Run X.K cA W σ μ H (.ok (.int b) M) (QV X.K Q)) (hm : RM X.K cA μ M H) : Q (.int b) H := h.val hm (by rw [RV])
theorem o_add : OpD X cA W (binaryOp .Add) addT := opD ((((op_add (X := X)).or op_add_str).or op_catA).or op_cat) fun σ H μ M t u x y Q hx hy hm h => by
  cases t with
  | int i =>
    cases u with
    | int j =>
      rw [RV] at hx hy
      exact .inl (.inl (.inl ⟨i, j, hx, hy, int_ok h hm⟩))
    | _ => exact h.elim
  | str i =>
    cases u with
    | str j =>
      rw [RV] at hx hy
      simp only [addT] at h
      by_cases hl : i.length + j.length ≤ sizeLine
      · rw [if_pos hl] at h
        exact .inl (.inl (.inr ⟨i, j, hx, hy, hl, h.val hm (by rw [RV])⟩))
      · rw [if_neg hl] at h; exact h.elim
    | _ => exact h.elim
  | tup a =>
    cases u with
    | tup b =>
      simp only [addT] at h
      by_cases hl : a.length + b.length ≤ sizeLine
      · rw [if_pos hl] at h
        have hx' := hx
        have hy' := hy
        rw [RV] at hx hy
        obtain ⟨p, xs, rfl, hp, rp⟩ := hx
        obtain ⟨q, ys, rfl, hq, rq⟩ := hy
        refine .inl (.inr ⟨p, q, xs, ys, rfl, rfl, hp, hq, by rw [← rp.length, ← rq.length]; exact hl, ?_⟩)
        refine ⟨fun e => ?_, fun e e2 => ?_, fun e e2 l hl' => h.tup hm (rp.append rq) hl'⟩
        · subst e
          have ea : a = [] := List.length_eq_zero_iff.mp (by rw [rp.length]; rfl)
          subst ea
          exact h.val hm hy'
        · subst e2
          have eb : b = [] := List.length_eq_zero_iff.mp (by rw [rq.length]; rfl)
          subst eb
          rw [List.append_nil] at h
          exact h.val hm hx'
      · rw [if_neg hl] at h; exact h.elim
    | _ => exact h.elim
  | ob n =>
    cases u with
    | ob m =>
      simp only [addT] at h
      cases e1 : M[n]? with
      | none => simp only [e1] at h; exact h.elim
      | some c =>
        cases e2 : M[m]? with
        | none => simp only [e1, e2] at h; cases c <;> exact h.elim
        | some d =>
          simp only [e1, e2] at h
          cases c with
          | lst a =>
            cases d with
            | lst b =>
              obtain ⟨p, xs, rfl, _, hp, rp⟩ := hm.lst e1 hx
              obtain ⟨q, ys, rfl, _, hq, rq⟩ := hm.lst e2 hy
              by_cases hl : a.length + b.length ≤ sizeLine
              · simp only [if_pos hl] at h
                exact .inr ⟨p, q, xs, ys, rfl, rfl, hp, hq, by rw [← rp.length, ← rq.length]; exact hl, fun l hl' => h.newL hm (rp.append rq) hl'⟩
              · simp only [if_neg hl] at h; exact h.elim
            | _ => exact h.elim
          | _ => exact h.elim
    | _ => exact h.elim
  | _ => exact h.elim

theorem o_sub : OpD X cA W (binaryOp .Sub) subT := opD (op_sub (X := X)) fun σ H μ M t u x y Q hx hy hm h => by
  cases t with
  | int i =>
    cases u with
    | int j => rw [RV] at hx; rw [RV] at hy; exact ⟨i, j, hx, hy, int_ok h hm⟩
    | _ => exact h.elim
  | _ => exact h.elim
theorem o_mul : OpD X cA W (binaryOp .Mult) mulT := opD (op_mul (X := X)) fun σ H μ M t u x y Q hx hy hm h => by
  cases t with
  | int i =>
    cases u with
    | int j =>
      rw [RV] at hx; rw [RV] at hy
      simp only [mulT] at h
      by_cases hc : (-(2 ^ 64) < i ∧ i < 2 ^ 64) ∨ (-(2 ^ 64) < j ∧ j < 2 ^ 64)
      · rw [if_pos hc] at h; exact ⟨i, j, hx, hy, hc, int_ok h hm⟩
      · rw [if_neg hc] at h; exact h.elim
    | _ => exact h.elim
  | _ => exact h.elim
theorem o_div : OpD X cA W (binaryOp .FloorDiv) divT := opD (op_fdiv (X := X)) fun σ H μ M t u x y Q hx hy hm h => by
  cases t with
  | int i =>
    cases u with
    | int j =>
      rw [RV] at hx; rw [RV] at hy
      simp only [divT] at h
      by_cases hc : 0 < j ∧ j < 1073741824
      · rw [if_pos hc] at h; exact ⟨i, j, hx, hy, hc, int_ok h hm⟩
      · rw [if_neg hc] at h; exact h.elim
    | _ => exact h.elim
  | _ => exact h.elim
theorem o_mod : OpD X cA W (binaryOp .Mod) modT := opD (op_mod (X := X)) fun σ H μ M t u x y Q hx hy hm h => by
  cases t with
  | int i =>
    cases u with
    | int j =>
      rw [RV] at hx; rw [RV] at hy
      simp only [modT] at h
      by_cases hc : 0 < j
      · rw [if_pos hc] at h; exact ⟨i, j, hx, hy, hc, int_ok h hm⟩
      · rw [if_neg hc] at h; exact h.elim
    | _ => exact h.elim
  | _ => exact h.elim
theorem o_pow : OpD X cA W (binaryOp .Pow) powT := opD (op_pow (X := X)) fun σ H μ M t u x y Q hx hy hm h => by
  cases t with
  | int i =>
    cases u with
    | int j =>
      rw [RV] at hx; rw [RV] at hy
      simp only [powT] at h
      by_cases hc : 0 ≤ j ∧ j ≤ 1000000 ∧ i.natAbs < 2 ^ 64
      · rw [if_pos hc] at h; exact ⟨i, j, hx, hy, hc, int_ok h hm⟩
      · rw [if_neg hc] at h; exact h.elim
    | _ => exact h.elim
  | _ => exact h.elim
theorem o_lt : OpD X cA W (compareOp .Lt) ltT := opD ((op_lt (X := X)).or op_lt_str) fun σ H μ M t u x y Q hx hy hm h => by
  cases t with
  | int i =>
    cases u with
    | int j => rw [RV] at hx; rw [RV] at hy; exact .inl ⟨i, j, hx, hy, bl_ok h hm⟩
    | _ => exact h.elim
  | str i =>
    cases u with
    | str j => rw [RV] at hx; rw [RV] at hy; exact .inr ⟨i, j, hx, hy, bl_ok h hm⟩
    | _ => exact h.elim
  | _ => exact h.elim
theorem o_gt : OpD X cA W (compareOp .Gt) gtT := opD ((op_gt (X := X)).or op_gt_str) fun σ H μ M t u x y Q hx hy hm h => by
  cases t with
  | int i =>
    cases u with
    | int j => rw [RV] at hx; rw [RV] at hy; exact .inl ⟨i, j, hx, hy, bl_ok h hm⟩
    | _ => exact h.elim
  | str i =>
    cases u with
    | str j => rw [RV] at hx; rw [RV] at hy; exact .inr ⟨i, j, hx, hy, bl_ok h hm⟩
    | _ => exact h.elim
  | _ => exact h.elim
theorem o_le : OpD X cA W (compareOp .LtE) leT := opD (op_le (X := X)) fun σ H μ M t u x y Q hx hy hm h => by
  cases t with
  | int i =>
    cases u with
    | int j => rw [RV] at hx; rw [RV] at hy; exact ⟨i, j, hx, hy, bl_ok h hm⟩
    | _ => exact h.elim
  | _ => exact h.elim
theorem o_ge : OpD X cA W (compareOp .GtE) geT := opD (op_ge (X := X)) fun σ H μ M t u x y Q hx hy hm h => by
  cases t with
  | int i =>
    cases u with
    | int j => rw [RV] at hx; rw [RV] at hy; exact ⟨i, j, hx, hy, bl_ok h hm⟩
    | _ => exact h.elim
  | _ => exact h.elim
theorem o_eq (hu : X.A.units + 64 < cLine) : OpD X cA W (compareOp .Eq) eqT := opD ((op_eq (X := X)).or (op_eqD hu)) fun σ H μ M t u x y Q hx hy hm h => by
  unfold eqT at h
  by_cases hs : scalT t u = true
  · rw [if_pos hs] at h
    obtain ⟨h1, h2⟩ := scal_of hs hx hy
    exact .inl ⟨h1, by rw [h2]; exact bl_ok h hm⟩
  · rw [if_neg hs] at h
    cases e1 : dat M t with
    | none => simp only [e1] at h; exact h.elim
    | some d =>
      cases e2 : dat M u with
      | none => simp only [e1, e2] at h; exact h.elim
      | some e =>
        simp only [e1, e2] at h
        by_cases hc : SeqAt.shaped d = true ∧ SeqAt.shaped e = true
        · rw [if_pos hc] at h
          exact .inr ⟨d, e, dp_of hm e1 hx, dp_of hm e2 hy, hc.1, hc.2, bl_ok h hm⟩
        · rw [if_neg hc] at h; exact h.elim
theorem o_ne (hu : X.A.units + 64 < cLine) : OpD X cA W (compareOp .NotEq) neT := opD ((op_ne (X := X)).or (op_neD hu)) fun σ H μ M t u x y Q hx hy hm h => by
  unfold neT at h
  by_cases hs : scalT t u = true
  · rw [if_pos hs] at h
    obtain ⟨h1, h2⟩ := scal_of hs hx hy
    exact .inl ⟨h1, by rw [h2]; exact bl_ok h hm⟩
  · rw [if_neg hs] at h
    cases e1 : dat M t with
    | none => simp only [e1] at h; exact h.elim
    | some d =>
      cases e2 : dat M u with
      | none => simp only [e1, e2] at h; exact h.elim
      | some e =>
        simp only [e1, e2] at h
        by_cases hc : SeqAt.shaped d = true ∧ SeqAt.shaped e = true
        · rw [if_pos hc] at h
          exact .inr ⟨d, e, dp_of hm e1 hx, dp_of hm e2 hy, hc.1, hc.2, bl_ok h hm⟩
        · rw [if_neg hc] at h; exact h.elim
theorem non_iff {K : PySem.W.Frag} {μ : List Addr} {H : Hp} {t : T} {x : V} (hx : RV K μ H t x) : decide (x = .non) = decide (t = .non) := by
  cases t with
  | tup ts => rw [RV] at hx; obtain ⟨a, xs, rfl, _⟩ := hx; simp
  | ob n => rw [RV] at hx; obtain ⟨a, rfl, _⟩ := hx; simp
  | _ => rw [RV] at hx; subst hx; simp
theorem o_is : OpD X cA W (compareOp .Is) isNT := opD ((op_isN (X := X)).or op_isBl) fun σ H μ M t u x y Q hx hy hm h => by
  cases u with
  | non =>
    rw [RV] at hy
    exact .inl ⟨hy, by rw [non_iff hx]; exact bl_ok h hm⟩
  | bl b =>
    cases t with
    | bl a => rw [RV] at hx; rw [RV] at hy; exact .inr ⟨a, b, hx, hy, bl_ok h hm⟩
    | _ => exact h.elim
  | _ => exact h.elim
theorem o_isnot : OpD X cA W (compareOp .IsNot) isNotNT := opD ((op_notN (X := X)).or op_notBl) fun σ H μ M t u x y Q hx hy hm h => by
  cases u with
  | non =>
    rw [RV] at hy
    exact .inl ⟨hy, by rw [non_iff hx]; exact bl_ok h hm⟩
  | bl b =>
    cases t with
    | bl a => rw [RV] at hx; rw [RV] at hy; exact .inr ⟨a, b, hx, hy, bl_ok h hm⟩
    | _ => exact h.elim
  | _ => exact h.elim
theorem o_in_gen {σ : L2.St} {H : Hp} {μ : List Addr} {M : Mem} {t u : T} {x y : V} {Q : VK} {neg : Bool} (hx : RV X.K μ H t x) (hy : RV X.K μ H u y) (hm : RM X.K cA μ M H) (h : Run X.K cA W σ μ H (inT neg t u M) (QV X.K Q)) :
    (∃ (c : Nat) (z : Str), x = .str ⟨#[c]⟩ ∧ y = .str z ∧ Q (.bl (if neg then !decide (c ∈ z.cps.toList) else decide (c ∈ z.cps.toList))) H) ∨ rIn X.K neg x y H Q ∨
      ∃ d ds, Dp X.K H x d ∧ Dp X.K H y (.list ds) ∧ SeqAt.shaped d = true ∧ SeqAt.shaped (.list ds) = true ∧ Q (.bl (if neg then !ds.any fun z => PyData.eqv z d else ds.any fun z => PyData.eqv z d)) H := by
  have flat : ∀ {ts : List T} {p : Addr} {xs : List V}, y = .ref p → (SqL X.K H p xs ∨ SqT X.K H p xs) → RVs X.K μ H ts xs → Run X.K cA W σ μ H (inL neg t ts M) (QV X.K Q) → rIn X.K neg x y H Q := fun {ts p xs} ey hs hr h => by
    unfold inL at h
    by_cases hc : flatT t = true ∧ ts.all flatT = true
    · rw [if_pos hc] at h
      obtain ⟨e1, f1⟩ := hx.flat hc.1
      obtain ⟨e2, f2⟩ := hr.flat hc.2
      refine ⟨p, xs, ey, hs, f1, f2, ?_⟩
      rw [e1, e2, inV_vT hc.1 hc.2]
      exact bl_ok h hm
    · rw [if_neg hc] at h; exact h.elim
  cases u with
  | str z =>
    cases t with
    | str w =>
      simp only [inT] at h
      rw [RV] at hx; rw [RV] at hy
      cases e : w.cps.toList with
      | nil => simp only [e] at h; exact h.elim
      | cons c r =>
        cases r with
        | nil =>
          simp only [e] at h
          have ew : w = ⟨#[c]⟩ := TL.ext_tl e
          exact .inl ⟨c, z, by rw [hx, ew], hy, bl_ok h hm⟩
        | cons _ _ => simp only [e] at h; exact h.elim
    | _ => exact h.elim
  | tup ts =>
    rw [RV] at hy
    obtain ⟨p, xs, ey, hs, hr⟩ := hy
    exact .inr (.inl (flat ey (.inr hs) hr h))
  | ob n =>
    simp only [inT] at h
    cases e1 : M[n]? with
    | none => simp only [e1] at h; exact h.elim
    | some c =>
      cases c with
      | lst ts =>
        simp only [e1] at h
        by_cases hc : flatT t = true ∧ ts.all flatT = true
        · rw [if_pos hc] at h
          obtain ⟨p, xs, ey, _, hp, rp⟩ := hm.lst e1 hy
          exact .inr (.inl (flat ey (.inl (SqL.of hp)) rp h))
        · rw [if_neg hc] at h
          cases e2 : dat M t with
          | none => simp only [e2] at h; exact h.elim
          | some d =>
            cases e3 : dat M (.ob n) with
            | none => simp only [e2, e3] at h; exact h.elim
            | some f =>
              cases f with
              | list ds =>
                simp only [e2, e3] at h
                by_cases hc : SeqAt.shaped d = true ∧ SeqAt.shaped (.list ds) = true
                · rw [if_pos hc] at h
                  exact .inr (.inr ⟨d, ds, dp_of hm e2 hx, dp_of hm e3 hy, hc.1, hc.2, bl_ok h hm⟩)
                · rw [if_neg hc] at h; exact h.elim
              | _ => simp only [e2, e3] at h; exact h.elim
      | _ => simp only [e1] at h; exact h.elim
  | _ => exact h.elim
theorem o_in (hu : X.A.units + 65 < cLine) : OpD X cA W (compareOp .In) (inT false) := opD (((op_in_sign (X := X)).or op_in_seq).or (op_inD hu)) fun σ H μ M t u x y Q hx hy hm h => by
  rcases o_in_gen hx hy hm h with h | h | h
  · exact .inl (.inl h)
  · exact .inl (.inr h)
  · exact .inr h
theorem o_notin (hu : X.A.units + 65 < cLine) : OpD X cA W (compareOp .NotIn) (inT true) := opD (((op_notIn_sign (X := X)).or op_notIn_seq).or (op_notInD hu)) fun σ H μ M t u x y Q hx hy hm h => by
  rcases o_in_gen hx hy hm h with h | h | h
  · exact .inl (.inl h)
  · exact .inl (.inr h)
  · exact .inr h
/-- -i -/
theorem s_neg {a : Expr} {d : DE} {pos : Pos} (ha : PE X a (tD X.K cA ea W d)) : PE X (.UnaryOp .USub a pos) (tD X.K cA ea W (dUn negT d)) := by
  refine PE.weak (pe_un un_neg ha) fun σ H Q ⟨ρ, μ, M, he, hm, hr⟩ => ?_
  refine ⟨ρ, μ, M, he, hm, hr.bind.imp fun t M1 μ1 H1 hp hx hm1 h1 x rx => ?_⟩
  cases t with
  | int i => rw [RV] at rx; exact ⟨i, rx, int_ok h1 hm1⟩
  | _ => exact h1.elim
end
end DN

namespace DN
open PySem PySem.Spec L2

/-! ### chains of int comparisons -/
def dChain (p q : Int → Int → Bool) (a b c : DE) : DE := fun ρ M => (a ρ M).bind fun x M1 => (b ρ M1).bind fun y M2 => match x, y with
  | .int i, .int j => if p i j = true then (c ρ M2).bind fun z M3 => (match z with
      | .int l => .ok (.bl (q j l)) M3
      | _ => .no) else .ok (.bl false) M2
  | _, _ => .no
section
variable {X : Cx} {cA : Str → Addr} {ea : Option EA} {W : WX}
theorem s_chain {op op' : CmpOp} {p q : Int → Int → Bool} {a b c : Expr} {da db dc : DE} {pos : Pos} (ho : OpR X (compareOp op) (rI0 fun i j => .bl (p i j))) (ho' : OpR X (compareOp op') (rI0 fun i j => .bl (q i j)))
    (ha : PE X a (tD X.K cA ea W da)) (hb : PE X b (tD X.K cA ea W db)) (hc : PE X c (tD X.K cA ea W dc)) (hm : lastMarks [op, op'] [b, c] = false := by with_unfolding_all rfl) : PE X (.Compare a [op, op'] [b, c] pos) (tD X.K cA ea W (dChain p q da db dc)) := by
  refine PE.weak (pe_chain ho ho' ha hb hc hm) fun σ H Q ⟨ρ, μ, M, he, hm, hr⟩ => ?_
  refine ⟨ρ, μ, M, he, hm, hr.bind.imp fun t M1 μ1 H1 hp hx hm1 h1 x rx => ?_⟩
  refine ⟨ρ, μ1, M1, he.mono hp hx, hm1, h1.bind.imp fun u M2 μ2 H2 hp2 hx2 hm2 h2 y ry => ?_⟩
  cases t with
  | int i =>
    cases u with
    | int j =>
      rw [RV] at rx; rw [RV] at ry
      refine ⟨i, j, rx, ry, p i j, rfl, ?_⟩
      have h2 : Run X.K cA W σ μ2 H2 (if p i j = true then (dc ρ M2).bind fun z M3 => (match z with | .int l => .ok (.bl (q j l)) M3 | _ => .no) else .ok (.bl false) M2) (QV X.K Q) := h2
      by_cases hb : p i j = true
      · rw [if_pos hb] at h2 ⊢
        refine ⟨ρ, μ2, M2, (he.mono hp hx).mono hp2 hx2, hm2, h2.bind.imp fun z M3 μ3 H3 hp3 hx3 hm3 h3 w rw' => ?_⟩
        cases z with
        | int l => rw [RV] at rw'; exact ⟨j, l, ry, rw', bl_ok h3 hm3⟩
        | _ => exact h3.elim
      · rw [if_neg hb] at h2 ⊢
        exact bl_ok h2 hm2
    | _ => exact h2.elim
  | _ => cases u <;> exact h2.elim
end

/-! ### insertion sort -/
def insB {α : Type} (le : α → α → Bool) (a : α) : List α → List α
  | [] => [a]
  | b :: r => if le a b = true then a :: b :: r else b :: insB le a r
def isort {α : Type} (le : α → α → Bool) : List α → List α
  | [] => []
  | a :: r => insB le a (isort le r)
theorem insB_perm {α : Type} (le : α → α → Bool) (a : α) : ∀ l : List α, (insB le a l).Perm (a :: l)
  | [] => List.Perm.refl _
  | b :: r => by
    unfold insB
    split
    · exact List.Perm.refl _
    · exact (List.Perm.cons b (insB_perm le a r)).trans (List.Perm.swap a b r)
theorem isort_perm {α : Type} (le : α → α → Bool) : ∀ l : List α, (isort le l).Perm l
  | [] => List.Perm.refl _
  | a :: r => (insB_perm le a _).trans (List.Perm.cons a (isort_perm le r))
theorem insB_sorted {α : Type} {le : α → α → Bool} (tot : ∀ a b, le a b = true ∨ le b a = true) (tr : ∀ a b c, le a b = true → le b c = true → le a c = true) (a : α) : ∀ {l : List α}, l.Pairwise (fun x y => le x y = true) → (insB le a l).Pairwise (fun x y => le x y = true)
  | [], _ => by simp [insB]
  | b :: r, h => by
    unfold insB
    rw [List.pairwise_cons] at h
    split
    · rename_i q
      refine List.pairwise_cons.mpr ⟨fun c hc => ?_, List.pairwise_cons.mpr h⟩
      rcases List.mem_cons.mp hc with rfl | hc
      · exact q
      · exact tr _ _ _ q (h.1 c hc)
    · rename_i q
      refine List.pairwise_cons.mpr ⟨fun c hc => ?_, insB_sorted tot tr a h.2⟩
      rcases List.mem_cons.mp ((insB_perm le a r).subset hc) with rfl | hc
      · exact (tot _ _).resolve_left q
      · exact h.1 c hc
theorem isort_sorted {α : Type} {le : α → α → Bool} (tot : ∀ a b, le a b = true ∨ le b a = true) (tr : ∀ a b c, le a b = true → le b c = true → le a c = true) : ∀ l : List α, (isort le l).Pairwise (fun x y => le x y = true)
  | [] => .nil
  | a :: r => insB_sorted tot tr a (isort_sorted tot tr r)
/-- the one sorted arrangement -/
theorem isort_uniq {α : Type} {le : α → α → Bool} (tot : ∀ a b, le a b = true ∨ le b a = true) (tr : ∀ a b c, le a b = true → le b c = true → le a c = true) (anti : ∀ a b, le a b = true → le b a = true → a = b)
    {l m : List α} (p : m.Perm l) (h : m.Pairwise (fun x y => le x y = true)) : m = isort le l :=
  List.Perm.eq_of_pairwise (le := fun x y => le x y = true) (fun a b _ _ => anti a b) h (isort_sorted tot tr l) (p.trans (isort_perm le l).symm)
/-- the order of texts -/
def leS (x y : Str) : Bool := !decide (y.cps.toList < x.cps.toList)
theorem leS_tot (a b : Str) : leS a b = true ∨ leS b a = true := by
  unfold leS
  by_cases h : b.cps.toList < a.cps.toList
  · right
    have : ¬ a.cps.toList < b.cps.toList := List.lt_asymm h
    simp [this]
  · left; simp [h]
theorem leS_iff {a b : Str} : leS a b = true ↔ a.cps.toList ≤ b.cps.toList := by
  unfold leS
  simp [List.not_lt]
theorem leS_tr (a b c : Str) (h : leS a b = true) (g : leS b c = true) : leS a c = true := leS_iff.mpr (List.le_trans (leS_iff.mp h) (leS_iff.mp g))
theorem leS_anti (a b : Str) (h : leS a b = true) (g : leS b a = true) : a = b := TL.ext_tl (List.le_antisymm (leS_iff.mp h) (leS_iff.mp g))
def leI (x y : Int) : Bool := decide (x ≤ y)
theorem leI_tot (a b : Int) : leI a b = true ∨ leI b a = true := by simp only [leI, decide_eq_true_eq]; omega
theorem leI_tr (a b c : Int) (h : leI a b = true) (g : leI b c = true) : leI a c = true := by simp only [leI, decide_eq_true_eq] at *; omega
theorem leI_anti (a b : Int) (h : leI a b = true) (g : leI b a = true) : a = b := by simp only [leI, decide_eq_true_eq] at *; omega
theorem leS_ltCps {a b : Str} : (!ltCps b.cps.toList a.cps.toList) = leS a b := by
  unfold leS
  rw [PyProof.Rows.ltCps_eq]
theorem rising_pw : ∀ (p : Str) (l : List Str), PyProof.Rows.risingS p l = true → (p :: l).Pairwise (fun x y => leS x y = true)
  | p, [], _ => List.pairwise_singleton _ _
  | p, x :: r, h => by
    have h : (!ltCps x.cps.toList p.cps.toList && PyProof.Rows.risingS x r) = true := h
    rw [Bool.and_eq_true, leS_ltCps] at h
    have ih := rising_pw x r h.2
    refine List.pairwise_cons.mpr ⟨fun c hc => ?_, ih⟩
    rcases List.mem_cons.mp hc with rfl | hc
    · exact h.1
    · exact leS_tr _ _ _ h.1 ((List.pairwise_cons.mp ih).1 c hc)
theorem sorted_pw : ∀ (l : List Str), PyProof.Rows.sortedS l = true → l.Pairwise (fun x y => leS x y = true)
  | [], _ => .nil
  | p :: l, h => rising_pw p l h

/-! ### what is walked -/
def signsT (x : Str) : List T := x.cps.toList.map fun c => .str ⟨#[c]⟩
/-- the items of a list or tuple -/
def seqT (t : T) (M : Mem) : Option (List T) := match t with
  | .tup ts => some ts
  | .ob n => (match M[n]? with
    | some (.lst ts) => some ts
    | some (.ro ts) => some ts
    | _ => none)
  | _ => none
def itemsT (t : T) (M : Mem) : Option (List T) := match t with
  | .str x => some (signsT x)
  | t => seqT t M
def strsOf : List T → Option (List Str)
  | [] => some []
  | .str x :: r => match strsOf r with
    | some xs => some (x :: xs)
    | none => none
  | _ :: _ => none
def intsOf : List T → Option (List Int)
  | [] => some []
  | .int x :: r => match intsOf r with
    | some xs => some (x :: xs)
    | none => none
  | _ :: _ => none
def blsOf : List T → Option (List Bool)
  | [] => some []
  | .bl x :: r => match blsOf r with
    | some xs => some (x :: xs)
    | none => none
  | _ :: _ => none
theorem strsOf_eq : ∀ {ts : List T} {xs : List Str}, strsOf ts = some xs → ts = xs.map T.str
  | [], xs, h => by rw [strsOf] at h; cases h; rfl
  | t :: r, xs, h => by
    cases t with
    | str x =>
      rw [strsOf] at h
      cases q : strsOf r with
      | none => rw [q] at h; cases h
      | some ys => rw [q] at h; cases h; rw [strsOf_eq q]; rfl
    | _ => simp [strsOf] at h
theorem intsOf_eq : ∀ {ts : List T} {xs : List Int}, intsOf ts = some xs → ts = xs.map T.int
  | [], xs, h => by rw [intsOf] at h; cases h; rfl
  | t :: r, xs, h => by
    cases t with
    | int x =>
      rw [intsOf] at h
      cases q : intsOf r with
      | none => rw [q] at h; cases h
      | some ys => rw [q] at h; cases h; rw [intsOf_eq q]; rfl
    | _ => simp [intsOf] at h
theorem blsOf_eq : ∀ {ts : List T} {xs : List Bool}, blsOf ts = some xs → ts = xs.map T.bl
  | [], xs, h => by rw [blsOf] at h; cases h; rfl
  | t :: r, xs, h => by
    cases t with
    | bl x =>
      rw [blsOf] at h
      cases q : blsOf r with
      | none => rw [q] at h; cases h
      | some ys => rw [q] at h; cases h; rw [blsOf_eq q]; rfl
    | _ => simp [blsOf] at h
theorem strsOf_map : ∀ xs : List Str, strsOf (xs.map T.str) = some xs
  | [] => rfl
  | x :: r => by rw [List.map_cons, strsOf, strsOf_map r]
theorem intsOf_map : ∀ xs : List Int, intsOf (xs.map T.int) = some xs
  | [] => rfl
  | x :: r => by rw [List.map_cons, intsOf, intsOf_map r]
theorem blsOf_map : ∀ xs : List Bool, blsOf (xs.map T.bl) = some xs
  | [] => rfl
  | x :: r => by rw [List.map_cons, blsOf, blsOf_map r]

section
variable {K : PySem.W.Frag} {cA : Str → Addr} {μ : List Addr} {H : Hp} {M : Mem}
theorem RVs.strs : ∀ {xs : List Str} {vs : List V}, RVs K μ H (xs.map T.str) vs → vs = xs.map V.str
  | [], vs, h => by rw [List.map_nil, RVs] at h; exact h
  | x :: r, vs, h => by
    rw [List.map_cons, RVs] at h
    obtain ⟨v, ws, rfl, h1, h2⟩ := h
    rw [RV] at h1
    rw [h1, RVs.strs h2]; rfl
theorem RVs.ints : ∀ {xs : List Int} {vs : List V}, RVs K μ H (xs.map T.int) vs → vs = xs.map V.int
  | [], vs, h => by rw [List.map_nil, RVs] at h; exact h
  | x :: r, vs, h => by
    rw [List.map_cons, RVs] at h
    obtain ⟨v, ws, rfl, h1, h2⟩ := h
    rw [RV] at h1
    rw [h1, RVs.ints h2]; rfl
theorem RVs.bls : ∀ {xs : List Bool} {vs : List V}, RVs K μ H (xs.map T.bl) vs → vs = xs.map V.bl
  | [], vs, h => by rw [List.map_nil, RVs] at h; exact h
  | x :: r, vs, h => by
    rw [List.map_cons, RVs] at h
    obtain ⟨v, ws, rfl, h1, h2⟩ := h
    rw [RV] at h1
    rw [h1, RVs.bls h2]; rfl
theorem RVs.of_strs : ∀ xs : List Str, RVs K μ H (xs.map T.str) (xs.map V.str)
  | [] => .nil
  | x :: r => .cons (by rw [RV]) (RVs.of_strs r)
theorem RVs.of_ints : ∀ xs : List Int, RVs K μ H (xs.map T.int) (xs.map V.int)
  | [] => .nil
  | x :: r => .cons (by rw [RV]) (RVs.of_ints r)
/-- a list or tuple that is read -/
theorem RM.seq (hm : RM K cA μ M H) {t : T} {ts : List T} {v : V} (e : seqT t M = some ts) (h : RV K μ H t v) : ∃ a xs, v = .ref a ∧ (SqL K H a xs ∨ SqT K H a xs) ∧ RVs K μ H ts xs ∧ ((∃ us, t = .tup us) → SqT K H a xs) ∧ ((∃ n, t = .ob n) → SqL K H a xs) := by
  cases t with
  | tup us =>
    cases e
    rw [RV] at h
    obtain ⟨a, xs, rfl, h1, h2⟩ := h
    exact ⟨a, xs, rfl, .inr h1, h2, fun _ => h1, fun ⟨_, q⟩ => by cases q⟩
  | ob n =>
    rw [RV] at h
    obtain ⟨a, rfl, ha⟩ := h
    unfold seqT at e
    cases q : M[n]? with
    | none => simp [q] at e
    | some c =>
      have hc := hm.at_ n a c ha q
      cases c with
      | lst us =>
        simp [q] at e; subst e
        obtain ⟨xs, h1, h2⟩ := hc
        exact ⟨a, xs, rfl, .inl (SqL.of h1), h2, (fun ⟨_, q⟩ => by cases q), fun _ => SqL.of h1⟩
      | ro us =>
        simp [q] at e; subst e
        obtain ⟨xs, h1, h2⟩ := hc
        exact ⟨a, xs, rfl, .inl h1.sq, h2, (fun ⟨_, q⟩ => by cases q), fun _ => h1.sq⟩
      | _ => simp [q] at e
  | _ => cases e
end

/-! ### calls of built-ins, by values -/
def CallD (X : Cx) (cA : Str → Addr) (W : WX) (f : Value) (g : FD) : Prop :=
  ∀ (pins : List (Addr × Obj)) (s : Shared) (σ : L2.St) (H : Hp) (μ : List Addr) (M : Mem) (ts : List T) (xs : List V) (us : List Value) (Q : VK), Inv X pins σ H s → Vals xs us →
    RVs X.K μ H ts xs → RM X.K cA μ M H → Run X.K cA W σ μ H (g ts M) (QV X.K Q) → wpAny (model X.prog X.w) X.A (call f us) (EP X pins σ Q) X.xe s
def dCallB (g : FD) (a : DA) : DE := fun ρ M => (a ρ M).bind g
def MtD (X : Cx) (cA : Str → Addr) (W : WX) (id : String) (g : FD) : Prop :=
  ∀ (pins : List (Addr × Obj)) (s : Shared) (σ : L2.St) (H : Hp) (μ : List Addr) (M : Mem) (t : T) (ts : List T) (x : V) (xs : List V) (v : Value) (us : List Value) (Q : VK), Inv X pins σ H s → RelV x v → Vals xs us →
    RV X.K μ H t x → RVs X.K μ H ts xs → RM X.K cA μ M H → Run X.K cA W σ μ H (g (t :: ts) M) (QV X.K Q) → wpAny (model X.prog X.w) X.A (call (.builtin id) (v :: us)) (EP X pins σ Q) X.xe s
section
variable {X : Cx} {cA : Str → Addr} {ea : Option EA} {W : WX}
theorem callD {f : Value} {r : List V → Hp → VK → Prop} {g : FD} (ho : CallR X f r)
    (h : ∀ (σ : L2.St) (H : Hp) (μ : List Addr) (M : Mem) (ts : List T) (xs : List V) (Q : VK), RVs X.K μ H ts xs → RM X.K cA μ M H → Run X.K cA W σ μ H (g ts M) (QV X.K Q) → r xs H Q) : CallD X cA W f g :=
  fun pins s σ H μ M ts xs us Q I r1 h1 hm hr => ho pins s σ H xs us Q I r1 (h σ H μ M ts xs Q h1 hm hr)
theorem mtD {id : String} {r : V → List V → Hp → VK → Prop} {g : FD} (ho : MtR X id r)
    (h : ∀ (σ : L2.St) (H : Hp) (μ : List Addr) (M : Mem) (t : T) (ts : List T) (x : V) (xs : List V) (Q : VK), RV X.K μ H t x → RVs X.K μ H ts xs → RM X.K cA μ M H → Run X.K cA W σ μ H (g (t :: ts) M) (QV X.K Q) → r x xs H Q) : MtD X cA W id g :=
  fun pins s σ H μ M t ts x xs v us Q I r1 r2 h1 h2 hm hr => ho pins s σ H x xs v us Q I r1 r2 (h σ H μ M t ts x xs Q h1 h2 hm hr)
variable {x : Str} {p pos : Pos} {e : Expr} {es : List Expr} {d : DA} {g : FD} {id T' : String}
/-- f(e, ..), a built-in function by its name -/
theorem s_callB (hc : CallD X cA W (.builtin id) g) (hm : X.mg x = none) (ha : PA X (e :: es) (tDA X.K cA ea W d)) (hg : Gl X x := by rfl) (hv : bootBuiltins x = some (.builtin id) := by decide +kernel) (hn : x ≠ "__name__" := by decide) (hdb : (x == ("__debug__" : Str)) = false := by decide)
    (he : starEach (e :: es) X.env = (false, eval e X.env) :: starEach es X.env := by rfl) (hpl : (backTo pos (starEach es X.env)).any (·.1) = false := by rfl) : PE X (.Call (.Name x p) (e :: es) [] pos) (tD X.K cA ea W (dCallB g d)) := by
  refine ⟨fun pins s σ H Q I ⟨ρ, μ, M, hee, hmm, hr⟩ => ?_⟩
  refine wpAny_Call_Name_kw (ld_blt I hg hm hv ?_ hn hdb)
  refine PyProof.Rows.callWith_builtin1 (thn (ha.run pos pins s σ H (fun vs H1 => ∃ μ M ts, RVs X.K μ H1 ts vs ∧ RM X.K cA μ M H1 ∧ Run X.K cA W σ μ H1 (g ts M) (QV X.K Q)) I ⟨ρ, μ, M, hee, hmm, hr.bind.imp fun ts M1 μ1 H1 _ _ hm1 h1 xs rx => ⟨μ1, M1, ts, rx, hm1, h1⟩⟩) fun us s1 ⟨vs, H1, I1, r1, q1⟩ => ?_) he hpl
  obtain ⟨μ, M, ts, h1, h2, h3⟩ := q1
  exact hc pins s1 σ H1 μ M ts vs us Q I1 r1 h1 h2 h3
theorem s_callT (hc : CallD X cA W (.type T') g) (hm : X.mg x = none) (ha : PA X (e :: es) (tDA X.K cA ea W d)) (hg : Gl X x := by rfl) (hv : bootBuiltins x = some (.type T') := by decide +kernel) (hn : x ≠ "__name__" := by decide) (hdb : (x == ("__debug__" : Str)) = false := by decide)
    (he : starEach (e :: es) X.env = (false, eval e X.env) :: starEach es X.env := by rfl) (hpl : (backTo pos (starEach es X.env)).any (·.1) = false := by rfl) : PE X (.Call (.Name x p) (e :: es) [] pos) (tD X.K cA ea W (dCallB g d)) := by
  refine ⟨fun pins s σ H Q I ⟨ρ, μ, M, hee, hmm, hr⟩ => ?_⟩
  refine wpAny_Call_Name_kw (ld_blt I hg hm hv ?_ hn hdb)
  refine PyProof.Rows.callWith_type1 (thn (ha.run pos pins s σ H (fun vs H1 => ∃ μ M ts, RVs X.K μ H1 ts vs ∧ RM X.K cA μ M H1 ∧ Run X.K cA W σ μ H1 (g ts M) (QV X.K Q)) I ⟨ρ, μ, M, hee, hmm, hr.bind.imp fun ts M1 μ1 H1 _ _ hm1 h1 xs rx => ⟨μ1, M1, ts, rx, hm1, h1⟩⟩) fun us s1 ⟨vs, H1, I1, r1, q1⟩ => ?_) he hpl
  obtain ⟨μ, M, ts, h1, h2, h3⟩ := q1
  exact hc pins s1 σ H1 μ M ts vs us Q I1 r1 h1 h2 h3
end
end DN

namespace DN
open PySem PySem.Spec L2

def lenT : FD
  | [.str x], M => if x.length ≤ sizeLine then .ok (.int x.length) M else .no
  | [t], M => match seqT t M with
    | some ts => .ok (.int ts.length) M
    | none => .no
  | _, _ => .no
def intT : FD
  | [.int i], M => .ok (.int i) M
  | [.bl b], M => .ok (.int (if b then 1 else 0)) M
  | _, _ => .no
def listT : FD
  | [t], M => match seqT t M with
    | some ts => .ok (.ob M.length) (M ++ [.lst ts])
    | none => .no
  | _, _ => .no
def tupleT : FD
  | [t], M => match seqT t M with
    | some ts => .ok (.tup ts) M
    | none => .no
  | _, _ => .no
def sortT : FD
  | [.ob n], M => match M[n]? with
    | some (.lst ts) => (match strsOf ts with
      | some xs => if xs.length < 64 then .ok (.ob M.length) (M ++ [.lst ((isort leS xs).map .str)]) else .no
      | none => (match intsOf ts with
        | some ns => .ok (.ob M.length) (M ++ [.lst ((isort leI ns).map .int)])
        | none => .no))
    | _ => .no
  | _, _ => .no
def allT : FD
  | [.ob n], M => match M[n]? with
    | some (.lst ts) => (match blsOf ts with
      | some bs => .ok (.bl (bs.all id)) M
      | none => .no)
    | _ => .no
  | _, _ => .no
def anyT : FD
  | [.ob n], M => match M[n]? with
    | some (.lst ts) => (match blsOf ts with
      | some bs => .ok (.bl (bs.any id)) M
      | none => .no)
    | _ => .no
  | _, _ => .no
def max2T : FD
  | [.int i, .int j], M => .ok (.int (if j > i then j else i)) M
  | _, _ => .no
def min2T : FD
  | [.int i, .int j], M => .ok (.int (if j < i then j else i)) M
  | _, _ => .no
def ixT (t i : T) (M : Mem) : R T := match i with
  | .int k => (match t with
    | .str x => if x.length ≤ sizeLine then (match atI x.cps.toList k with
      | some c => .ok (.str ⟨#[c]⟩) M
      | none => .no) else .no
    | t => (match seqT t M with
      | some ts => (match atI ts k with
        | some u => .ok u M
        | none => .no)
      | none => .no))
  | _ => .no
def cutT (ts : List T) (lo hi : Option Int) : List T := (ts.drop (HT.sIx ts.length 0 lo)).take (HT.sIx ts.length ts.length hi - HT.sIx ts.length 0 lo)
def sliceT (t : T) (lo hi : Option Int) (M : Mem) : R T := match t with
  | .str x => if x.length ≤ sizeLine then .ok (.str (Txt.slice x lo hi)) M else .no
  | .tup ts => .ok (.tup (cutT ts lo hi)) M
  | t => (match seqT t M with
    | some ts => .ok (.ob M.length) (M ++ [.lst (cutT ts lo hi)])
    | none => .no)
abbrev DO := Ev → Mem → R (Option Int)
def dNoPart : DO := fun _ M => .ok none M
def dPart (d : DE) : DO := fun ρ M => (d ρ M).bind fun t M1 => match t with
  | .int i => .ok (some i) M1
  | _ => .no
def dSlice (a : DE) (l h : DO) : DE := fun ρ M => (a ρ M).bind fun t M1 => (l ρ M1).bind fun lo M2 => (h ρ M2).bind fun hi M3 => sliceT t lo hi M3

section
variable {K : PySem.W.Frag} {cA : Str → Addr} {μ : List Addr} {H : Hp} {M : Mem}
theorem RVs.one {t : T} {xs : List V} (h : RVs K μ H [t] xs) : ∃ x, xs = [x] ∧ RV K μ H t x := by
  rw [RVs] at h
  obtain ⟨v, vs, rfl, h1, h2⟩ := h
  rw [RVs] at h2
  subst h2
  exact ⟨v, rfl, h1⟩
theorem RVs.two {t u : T} {xs : List V} (h : RVs K μ H [t, u] xs) : ∃ x y, xs = [x, y] ∧ RV K μ H t x ∧ RV K μ H u y := by
  rw [RVs] at h
  obtain ⟨v, vs, rfl, h1, h2⟩ := h
  obtain ⟨y, rfl, h3⟩ := h2.one
  exact ⟨v, y, rfl, h1, h3⟩
theorem RVs.atI {ts : List T} {vs : List V} {i : Int} {t : T} (h : RVs K μ H ts vs) (e : L2.atI ts i = some t) : ∃ v, L2.atI vs i = some v ∧ RV K μ H t v := by
  unfold L2.atI at e ⊢
  rw [← h.length]
  cases q : ixN ts.length i with
  | none => rw [q] at e; cases e
  | some j => rw [q] at e; exact h.get e
theorem RVs.cut {ts : List T} {vs : List V} (lo hi : Option Int) (h : RVs K μ H ts vs) : RVs K μ H (cutT ts lo hi) (cutV vs lo hi) := by
  unfold cutT cutV
  rw [← h.length]
  exact (h.drop _).take _
end
section
variable {X : Cx} {cA : Str → Addr} {ea : Option EA} {W : WX}
theorem c_len : CallD X cA W (.builtin "len") lenT := callD call_len fun σ H μ M ts xs Q hx hm h => by
  cases ts with
  | nil => exact h.elim
  | cons t r =>
    cases r with
    | cons _ _ => cases t <;> exact h.elim
    | nil =>
      obtain ⟨x, rfl, rx⟩ := hx.one
      have gen : ∀ {us : List T}, seqT t M = some us → Run X.K cA W σ μ H (.ok (.int us.length) M) (QV X.K Q) → ∃ x' n, [x] = [x'] ∧ LenV X.K x' H n ∧ Q (.int n) H := fun {us} e h => by
        obtain ⟨a, xs, rfl, h1, h2, _⟩ := hm.seq e rx
        refine ⟨_, xs.length, rfl, ?_, by rw [← h2.length]; exact int_ok h hm⟩
        rcases h1 with h1 | h1
        · exact .inl ⟨xs, h1, rfl⟩
        · exact .inr ⟨xs, h1, rfl⟩
      cases t with
      | str z =>
        simp only [lenT] at h
        rw [RV] at rx; subst rx
        by_cases hl : z.length ≤ sizeLine
        · rw [if_pos hl] at h
          exact ⟨_, z.length, rfl, ⟨hl, rfl⟩, int_ok h hm⟩
        · rw [if_neg hl] at h; exact h.elim
      | tup us => exact gen rfl h
      | ob n =>
        simp only [lenT] at h
        cases e : seqT (.ob n) M with
        | none => simp only [e] at h; exact h.elim
        | some us => simp only [e] at h; exact gen e h
      | _ => exact h.elim
theorem c_int : CallD X cA W (.type "int") intT := callD call_int1 fun σ H μ M ts xs Q hx hm h => by
  cases ts with
  | nil => exact h.elim
  | cons t r =>
    cases r with
    | cons _ _ => cases t <;> exact h.elim
    | nil =>
      obtain ⟨x, rfl, rx⟩ := hx.one
      cases t with
      | int i => rw [RV] at rx; subst rx; exact .inl ⟨i, rfl, int_ok h hm⟩
      | bl b => rw [RV] at rx; subst rx; exact .inr ⟨b, rfl, int_ok h hm⟩
      | _ => exact h.elim
theorem c_list : CallD X cA W (.type "list") listT := callD call_list_of fun σ H μ M ts xs Q hx hm h => by
  cases ts with
  | nil => exact h.elim
  | cons t r =>
    cases r with
    | cons _ _ => exact h.elim
    | nil =>
      obtain ⟨x, rfl, rx⟩ := hx.one
      simp only [listT] at h
      cases e : seqT t M with
      | none => simp only [e] at h; exact h.elim
      | some us =>
        simp only [e] at h
        obtain ⟨a, xs, rfl, h1, h2, _⟩ := hm.seq e rx
        exact ⟨a, xs, rfl, h1, fun l hl => h.newL hm h2 hl⟩
theorem c_tuple : CallD X cA W (.type "tuple") tupleT := callD call_tuple_of fun σ H μ M ts xs Q hx hm h => by
  cases ts with
  | nil => exact h.elim
  | cons t r =>
    cases r with
    | cons _ _ => exact h.elim
    | nil =>
      obtain ⟨x, rfl, rx⟩ := hx.one
      simp only [tupleT] at h
      cases e : seqT t M with
      | none => simp only [e] at h; exact h.elim
      | some us =>
        simp only [e] at h
        obtain ⟨a, xs, rfl, h1, h2, h3, h4⟩ := hm.seq e rx
        refine ⟨a, xs, rfl, ?_⟩
        cases t with
        | tup vs =>
          cases e
          exact .inr ⟨h3 ⟨_, rfl⟩, h.val hm rx⟩
        | ob n => exact .inl ⟨h4 ⟨_, rfl⟩, fun l hl => h.tup hm h2 hl⟩
        | _ => cases e
theorem c_sorted : CallD X cA W (.builtin "sorted") sortT := callD (CallR.or (cr_sortedS (X := X)) cr_sortedI) fun σ H μ M ts xs Q hx hm h => by
  cases ts with
  | nil => exact h.elim
  | cons t r =>
    cases r with
    | cons _ _ => cases t <;> exact h.elim
    | nil =>
      obtain ⟨x, rfl, rx⟩ := hx.one
      cases t with
      | ob n =>
        simp only [sortT] at h
        cases e : M[n]? with
        | none => simp only [e] at h; exact h.elim
        | some c =>
          cases c with
          | lst us =>
            simp only [e] at h
            obtain ⟨a, xs, rfl, _, h1, h2⟩ := hm.lst e rx
            cases e2 : strsOf us with
            | some zs =>
              simp only [e2] at h
              by_cases hl : zs.length < 64
              · rw [if_pos hl] at h
                rw [strsOf_eq e2] at h2
                rw [h2.strs] at h1
                refine .inl ⟨a, zs, rfl, SqL.of h1, hl, fun ys p hp hs hn => ?_⟩
                rw [isort_uniq leS_tot leS_tr leS_anti hp (sorted_pw ys hs)]
                exact h.newL hm (RVs.of_strs _) hn
              · rw [if_neg hl] at h; exact h.elim
            | none =>
              simp only [e2] at h
              cases e3 : intsOf us with
              | some zs =>
                simp only [e3] at h
                rw [intsOf_eq e3] at h2
                rw [h2.ints] at h1
                refine .inr ⟨a, zs, rfl, SqL.of h1, fun ys p hp hs hn => ?_⟩
                rw [isort_uniq leI_tot leI_tr leI_anti hp (hs.imp fun {a b} q => by simpa [leI] using q)]
                exact h.newL hm (RVs.of_ints _) hn
              | none => simp only [e3] at h; exact h.elim
          | _ => simp only [e] at h; exact h.elim
      | _ => exact h.elim
theorem bools_gen {σ : L2.St} {H : Hp} {μ : List Addr} {M : Mem} {n : Nat} {x : V} {Q : VK} {f : List Bool → Bool} (rx : RV X.K μ H (.ob n) x) (hm : RM X.K cA μ M H)
    (h : Run X.K cA W σ μ H (match M[n]? with | some (.lst ts) => (match blsOf ts with | some bs => .ok (.bl (f bs)) M | none => .no) | _ => .no) (QV X.K Q)) :
    ∃ (a : Addr) (bs : List Bool), [x] = [V.ref a] ∧ SqL X.K H a (bs.map V.bl) ∧ Q (.bl (f bs)) H := by
  cases e : M[n]? with
  | none => simp only [e] at h; exact h.elim
  | some c =>
    cases c with
    | lst us =>
      simp only [e] at h
      obtain ⟨a, xs, rfl, _, h1, h2⟩ := hm.lst e rx
      cases e2 : blsOf us with
      | some bs =>
        simp only [e2] at h
        rw [blsOf_eq e2] at h2
        rw [h2.bls] at h1
        exact ⟨a, bs, rfl, SqL.of h1, bl_ok h hm⟩
      | none => simp only [e2] at h; exact h.elim
    | _ => simp only [e] at h; exact h.elim
theorem c_all (hc : X.calm = true) : CallD X cA W (.builtin "all") allT := callD (cr_all hc) fun σ H μ M ts xs Q hx hm h => by
  cases ts with
  | nil => exact h.elim
  | cons t r =>
    cases r with
    | cons _ _ => cases t <;> exact h.elim
    | nil =>
      obtain ⟨x, rfl, rx⟩ := hx.one
      cases t with
      | ob n => exact bools_gen rx hm h
      | _ => exact h.elim
theorem c_any (hc : X.calm = true) : CallD X cA W (.builtin "any") anyT := callD (cr_any hc) fun σ H μ M ts xs Q hx hm h => by
  cases ts with
  | nil => exact h.elim
  | cons t r =>
    cases r with
    | cons _ _ => cases t <;> exact h.elim
    | nil =>
      obtain ⟨x, rfl, rx⟩ := hx.one
      cases t with
      | ob n => exact bools_gen rx hm h
      | _ => exact h.elim
theorem two_gen {σ : L2.St} {H : Hp} {μ : List Addr} {M : Mem} {ts : List T} {xs : List V} {Q : VK} {f : Int → Int → Int} (hx : RVs X.K μ H ts xs) (hm : RM X.K cA μ M H)
    (h : Run X.K cA W σ μ H (match ts, M with | [.int i, .int j], M => .ok (.int (f i j)) M | _, _ => .no) (QV X.K Q)) : ∃ i j, xs = [.int i, .int j] ∧ Q (.int (f i j)) H := by
  cases ts with
  | nil => exact h.elim
  | cons t r =>
    cases r with
    | nil => cases t <;> exact h.elim
    | cons u r =>
      cases r with
      | cons _ _ => cases t <;> first | exact h.elim | (cases u <;> exact h.elim)
      | nil =>
        obtain ⟨x, y, rfl, rx, ry⟩ := hx.two
        cases t with
        | int i =>
          cases u with
          | int j => rw [RV] at rx; rw [RV] at ry; subst rx ry; exact ⟨i, j, rfl, int_ok h hm⟩
          | _ => exact h.elim
        | _ => exact h.elim
theorem c_max2 (hc : X.calm = true) : CallD X cA W (.builtin "max") max2T := callD (call_max2 hc) fun σ H μ M ts xs Q hx hm h => two_gen (f := fun i j => if j > i then j else i) hx hm h
theorem c_min2 (hc : X.calm = true) : CallD X cA W (.builtin "min") min2T := callD (call_min2 hc) fun σ H μ M ts xs Q hx hm h => two_gen (f := fun i j => if j < i then j else i) hx hm h

/-! ### subscripts -/
theorem s_ix {a b : Expr} {da db : DE} {pos : Pos} (ha : PE X a (tD X.K cA ea W da)) (hb : PE X b (tD X.K cA ea W db)) (hs : PlainIx b := by exact fun _ _ => rfl) : PE X (.Subscript a b pos) (tD X.K cA ea W (dBin ixT da db)) := by
  refine PE.weak (pe_ix ix_seq ha hb hs) fun σ H Q ⟨ρ, μ, M, he, hm, hr⟩ => ?_
  refine ⟨ρ, μ, M, he, hm, hr.bind.imp fun t M1 μ1 H1 hp hx hm1 h1 x rx => ?_⟩
  refine ⟨ρ, μ1, M1, he.mono hp hx, hm1, h1.bind.imp fun u M2 μ2 H2 hp2 hx2 hm2 h2 y ry => ?_⟩
  have rx2 := rx.mono hp2 hx2
  cases u with
  | int k =>
    rw [RV] at ry
    have gen : ∀ {us : List T} {v : T}, seqT t M2 = some us → L2.atI us k = some v → Run X.K cA W σ μ2 H2 (.ok v M2) (QV X.K Q) → rIx X.K x y H2 Q := fun {us v} e e2 h => by
      obtain ⟨a, xs, rfl, h1, h2, _⟩ := hm2.seq e rx2
      obtain ⟨w, e3, rw'⟩ := h2.atI e2
      rcases h1 with h1 | h1
      · exact .inl ⟨a, xs, k, w, rfl, ry, h1, e3, h.val hm2 rw'⟩
      · exact .inr (.inl ⟨a, xs, k, w, rfl, ry, h1, e3, h.val hm2 rw'⟩)
    have gen2 : Run X.K cA W σ μ2 H2 (match seqT t M2 with | some ts => (match L2.atI ts k with | some u => .ok u M2 | none => .no) | none => .no) (QV X.K Q) → rIx X.K x y H2 Q := fun h => by
      cases e : seqT t M2 with
      | none => simp only [e] at h; exact h.elim
      | some us =>
        simp only [e] at h
        cases e2 : L2.atI us k with
        | none => simp only [e2] at h; exact h.elim
        | some v => simp only [e2] at h; exact gen e e2 h
    cases t with
    | str z =>
      simp only [ixT] at h2
      rw [RV] at rx2
      by_cases hl : z.length ≤ sizeLine
      · rw [if_pos hl] at h2
        cases e : L2.atI z.cps.toList k with
        | none => simp only [e] at h2; exact h2.elim
        | some c => simp only [e] at h2; exact .inr (.inr ⟨z, k, c, rx2, ry, hl, e, h2.val hm2 (by rw [RV])⟩)
      · rw [if_neg hl] at h2; exact h2.elim
    | tup us => exact gen2 h2
    | ob n => exact gen2 h2
    | _ => exact h2.elim
  | _ => exact h2.elim
end
def tO (K : PySem.W.Frag) (cA : Str → Addr) (ea : Option EA) (W : WX) (d : DO) : TO := fun σ H Q => ∃ ρ μ M, RE K cA ea μ H ρ σ ∧ RM K cA μ M H ∧ Run K cA W σ μ H (d ρ M) (fun o _ _ H1 => Q o H1)
section
variable {X : Cx} {cA : Str → Addr} {ea : Option EA} {W : WX}
theorem s_noP : PO X none (tO X.K cA ea W dNoPart) :=
  ⟨fun pins s σ H Q I ⟨ρ, μ, M, he, hm, hr⟩ => po_none.run pins s σ H Q I (hr.ok0 hm)⟩
theorem s_part {e : Expr} {d : DE} (h : PE X e (tD X.K cA ea W d)) : PO X (some e) (tO X.K cA ea W (dPart d)) :=
  ⟨fun pins s σ H Q I ⟨ρ, μ, M, he, hm, hr⟩ => (po_some h).run pins s σ H Q I ⟨ρ, μ, M, he, hm, hr.bind.imp fun t M1 μ1 H1 hp hx hm1 h1 x rx => by
    cases t with
    | int i => rw [RV] at rx; exact ⟨i, rx, h1.ok0 hm1⟩
    | _ => exact h1.elim⟩⟩
theorem cut_whole {ts : List T} {lo hi : Option Int} (h : HT.sIx ts.length 0 lo = 0 ∧ HT.sIx ts.length ts.length hi = ts.length) : cutT ts lo hi = ts := by
  unfold cutT
  rw [h.1, h.2]
  simp
theorem s_slice {e : Expr} {lo hi : Option Expr} {d : DE} {dl dh : DO} {p2 pos : Pos} (he : PE X e (tD X.K cA ea W d)) (hl : PO X lo (tO X.K cA ea W dl)) (hu : PO X hi (tO X.K cA ea W dh)) : PE X (.Subscript e (.Slice lo hi none p2) pos) (tD X.K cA ea W (dSlice d dl dh)) := by
  refine PE.weak (pe_slice (((sl_list (X := X)).or sl_tupA).or C8.sl_txt) he hl hu) fun σ H Q ⟨ρ, μ, M, hee, hm, hr⟩ => ?_
  refine ⟨ρ, μ, M, hee, hm, hr.bind.imp fun t M1 μ1 H1 hp hx hm1 h1 x rx => ?_⟩
  refine ⟨ρ, μ1, M1, hee.mono hp hx, hm1, h1.bind.imp fun l M2 μ2 H2 hp2 hx2 hm2 h2 => ?_⟩
  refine ⟨ρ, μ2, M2, (hee.mono hp hx).mono hp2 hx2, hm2, h2.bind.imp fun u M3 μ3 H3 hp3 hx3 hm3 h3 => ?_⟩
  have rx3 := (rx.mono hp2 hx2).mono hp3 hx3
  cases t with
  | str z =>
    simp only [sliceT] at h3
    rw [RV] at rx3
    by_cases hl : z.length ≤ sizeLine
    · rw [if_pos hl] at h3
      exact .inr ⟨z, rx3, hl, h3.val hm3 (by rw [RV])⟩
    · rw [if_neg hl] at h3; exact h3.elim
  | tup ts =>
    have rx4 := rx3
    rw [RV] at rx3
    obtain ⟨a, xs, rfl, h4, h5⟩ := rx3
    refine .inl (.inr ⟨a, xs, rfl, h4, fun q => ?_, fun q p hp' => ?_⟩)
    · rw [← h5.length] at q
      have h3 : Run X.K cA W σ μ3 H3 (.ok (.tup (cutT ts l u)) M3) (QV X.K Q) := h3
      rw [cut_whole q] at h3
      exact h3.val hm3 rx4
    · exact Run.tup h3 hm3 (h5.cut l u) hp'
  | ob n =>
    simp only [sliceT] at h3
    cases e : seqT (.ob n) M3 with
    | none => simp only [e] at h3; exact h3.elim
    | some us =>
      simp only [e] at h3
      obtain ⟨a, xs, rfl, _, h5, _, h6⟩ := hm3.seq e rx3
      exact .inl (.inl ⟨a, xs, rfl, h6 ⟨_, rfl⟩, fun p hp' => h3.newL hm3 (h5.cut l u) hp'⟩)
  | _ => exact h3.elim
end

/-! ### methods of built-in types -/
def dMeth (ck : T → Mem → Bool) (g : FD) (o : DE) (a : DA) : DE := fun ρ M => (o ρ M).bind fun t M1 => if ck t M1 = true then (a ρ M1).bind fun ts M2 => g (t :: ts) M2 else .no
def isL (t : T) (M : Mem) : Bool := match t with
  | .ob n => (match M[n]? with
    | some (.lst _) => true
    | _ => false)
  | _ => false
def isS (t : T) (_ : Mem) : Bool := match t with
  | .str _ => true
  | _ => false
def isD (t : T) (M : Mem) : Bool := match t with
  | .ob n => (match M[n]? with
    | some (.dic _ _) => true
    | _ => false)
  | _ => false
def TyD (K : PySem.W.Frag) (cA : Str → Addr) (T' : String) (ck : T → Mem → Bool) : Prop := ∀ (μ : List Addr) (H : Hp) (M : Mem) (t : T) (x : V), ck t M = true → RV K μ H t x → RM K cA μ M H → tyV K T' x H
theorem ty_list {K cA} : TyD K cA "list" isL := fun μ H M t x h rx hm => by
  cases t with
  | ob n =>
    unfold isL at h
    cases e : M[n]? with
    | none => simp [e] at h
    | some c =>
      cases c with
      | lst ts =>
        obtain ⟨a, xs, rfl, _, h1, _⟩ := hm.lst e rx
        exact .inl ⟨rfl, xs, SqL.of h1⟩
      | _ => simp [e] at h
  | _ => cases h
theorem ty_str {K cA} : TyD K cA "str" isS := fun μ H M t x h rx hm => by
  cases t with
  | str z => rw [RV] at rx; subst rx; rfl
  | _ => cases h
theorem ty_dict {K cA} : TyD K cA "dict" isD := fun μ H M t x h rx hm => by
  cases t with
  | ob n =>
    unfold isD at h
    cases e : M[n]? with
    | none => simp [e] at h
    | some c =>
      cases c with
      | dic k kvs =>
        rw [RV] at rx
        obtain ⟨a, rfl, ha⟩ := rx
        have hc := hm.at_ n a _ ha e
        cases k with
        | zero => obtain ⟨xs, h1, _⟩ := hc; exact .inr (.inr (.inl ⟨rfl, .inl ⟨_, h1⟩⟩))
        | succ k => obtain ⟨xs, h1, _⟩ := hc; exact .inr (.inr (.inl ⟨rfl, .inr ⟨_, h1⟩⟩))
      | _ => simp [e] at h
  | _ => cases h
section
variable {X : Cx} {cA : Str → Addr} {ea : Option EA} {W : WX} {o e : Expr} {es : List Expr} {d : DE} {a : DA} {name : Str} {apos cpos : Pos} {T' id : String} {ck : T → Mem → Bool} {g : FD}
theorem s_m0 (hm : MtD X cA W id g) (ty : TyD X.K cA T' ck) (ho : PE X o (tD X.K cA ea W d)) (pa : PlainAttrs T') (slot : Slot T' name id) (hty : typeOf (.builtin id) = pure (.type "method_descriptor"))
    (hbase : attributeBase o name X.env (eval o X.env) = eval o X.env := by rfl) (hline : (apos.endLine == cpos.line) = true := by rfl) : PE X (.Call (.Attribute o name apos) [] [] cpos) (tD X.K cA ea W (dMeth ck g d dNilA)) := by
  refine ⟨fun pins s σ H Q I ⟨ρ, μ, M, he, hmm, hr⟩ => ?_⟩
  refine wpAny_Call_method0_late hbase hline (thn (ho.run pins s σ H (fun x H1 => ∃ μ M t, ck t M = true ∧ RV X.K μ H1 t x ∧ RM X.K cA μ M H1 ∧ Run X.K cA W σ μ H1 (g [t] M) (QV X.K Q)) I ⟨ρ, μ, M, he, hmm, hr.bind.imp fun t M1 μ1 H1 hp hx hm1 h1 x rx => ?_⟩) fun v s1 ⟨x, H1, I1, r1, μ1, M1, t, ct, rx, hm1, q1⟩ => ?_)
  · by_cases hc : ck t M1 = true
    · rw [if_pos hc] at h1
      exact ⟨μ1, M1, t, hc, rx, hm1, h1⟩
    · rw [if_neg hc] at h1; exact h1.elim
  · obtain ⟨h1, h2⟩ := tyV_is I1 r1 (ty _ _ _ _ _ ct rx hm1)
    exact ⟨T', id, pa, slot, hty, h1, h2, Calls.callWith_builtin rfl (PySem.evalArgs_none (hm pins s1 σ H1 μ1 M1 t [] x [] v [] Q I1 r1 .nil rx .nil hm1 q1))⟩
theorem s_m (hm : MtD X cA W id g) (ty : TyD X.K cA T' ck) (ho : PE X o (tD X.K cA ea W d)) (ha : PA X (e :: es) (tDA X.K cA ea W a)) (pa : PlainAttrs T') (slot : Slot T' name id) (hty : typeOf (.builtin id) = pure (.type "method_descriptor"))
    (hbase : attributeBase o name X.env (eval o X.env) = eval o X.env := by rfl)
    (hfew : ((backTo cpos (starEach (e :: es) X.env)).all (fun x => !x.1) && (backToKw cpos (keywordEach [] X.env)).all (fun x => x.1.isSome)
      && decide ((e :: es).length + ([] : List Keyword).length + (if ([] : List Keyword).isEmpty then 0 else 1) < 30)) = true := by rfl)
    (hline : (apos.endLine == cpos.line) = true := by rfl) (hs : starEach (e :: es) X.env = (false, eval e X.env) :: starEach es X.env := by rfl) (hplain : (backTo cpos (starEach es X.env)).any (·.1) = false := by rfl) :
    PE X (.Call (.Attribute o name apos) (e :: es) [] cpos) (tD X.K cA ea W (dMeth ck g d a)) := by
  refine ⟨fun pins s σ H Q I ⟨ρ, μ, M, he, hmm, hr⟩ => ?_⟩
  refine wpAny_Call_method_late hbase hfew hline rfl (thn (ho.run pins s σ H (fun x H1 => ∃ μ M t, ck t M = true ∧ RV X.K μ H1 t x ∧ RM X.K cA μ M H1 ∧ RE X.K cA ea μ H1 ρ σ ∧ Run X.K cA W σ μ H1 ((a ρ M).bind fun ts M2 => g (t :: ts) M2) (QV X.K Q)) I ⟨ρ, μ, M, he, hmm, hr.bind.imp fun t M1 μ1 H1 hp hx hm1 h1 x rx => ?_⟩) fun v s1 ⟨x, H1, I1, r1, μ1, M1, t, ct, rx, hm1, he1, q1⟩ => ?_)
  · by_cases hc : ck t M1 = true
    · rw [if_pos hc] at h1
      exact ⟨μ1, M1, t, hc, rx, hm1, he.mono hp hx, h1⟩
    · rw [if_neg hc] at h1; exact h1.elim
  · obtain ⟨h1, h2⟩ := tyV_is I1 r1 (ty _ _ _ _ _ ct rx hm1)
    refine ⟨T', id, pa, slot, hty, h1, h2, ?_⟩
    have hA := ha.run cpos pins s1 σ H1 (fun vs H2 => ∃ μ M ts, RV X.K μ H2 t x ∧ RVs X.K μ H2 ts vs ∧ RM X.K cA μ M H2 ∧ Run X.K cA W σ μ H2 (g (t :: ts) M) (QV X.K Q)) I1 ⟨ρ, μ1, M1, he1, hm1, q1.bind.imp fun ts M2 μ2 H2 hp2 hx2 hm2 h2 xs rxs => ⟨μ2, M2, ts, rx.mono hp2 hx2, rxs, hm2, h2⟩⟩
    rw [hs] at hA ⊢
    refine Calls.callWith_builtin (by show (false || (backTo cpos (starEach es X.env)).any (·.1)) = false; rw [hplain] <;> rfl) (Calls.evalArgs_plain ?_)
    exact thn hA fun us s2 ⟨vs, H2, I2, r2, μ2, M2, ts, rx2, rxs, hm2, h2⟩ => hm pins s2 σ H2 μ2 M2 t ts x vs v us Q I2 r1 r2 rx2 rxs hm2 h2
end

def appendT : FD
  | [.ob n, y], M => match M[n]? with
    | some (.lst ts) => if ts.length < sizeLine then .ok .non (M.set n (.lst (ts ++ [y]))) else .no
    | _ => .no
  | _, _ => .no
def popT : FD
  | [.ob n], M => match M[n]? with
    | some (.lst ts) => (match ts[ts.length - 1]? with
      | some y => .ok y (M.set n (.lst ts.dropLast))
      | none => .no)
    | _ => .no
  | _, _ => .no
def popAtT : FD
  | [.ob n, .int i], M => match M[n]? with
    | some (.lst ts) => (match ixN ts.length i with
      | some k => (match ts[k]? with
        | some y => if -(2 ^ 63) ≤ i ∧ i < 2 ^ 63 then .ok y (M.set n (.lst (ts.eraseIdx k))) else .no
        | none => .no)
      | none => .no)
    | _ => .no
  | _, _ => .no
def extendT : FD
  | [.ob n, .ob m], M => match M[n]?, M[m]? with
    | some (.lst ts), some (.lst us) => if ts.length + us.length ≤ sizeLine then .ok .non (M.set n (.lst (ts ++ us))) else .no
    | _, _ => .no
  | _, _ => .no
def clearT : FD
  | [.ob n], M => match M[n]? with
    | some (.lst ts) => .ok .non (M.set n (.lst []))
    | _ => .no
  | _, _ => .no
/-- the first place at which an item is equal, flat items -/
def idxOf (y : T) : List T → Nat → Option Nat
  | [], _ => none
  | t :: r, k => if eqS t y = true then some k else idxOf y r (k + 1)
def indexT : FD
  | [.ob n, y], M => match M[n]? with
    | some (.lst ts) => if flatT y = true ∧ ts.all flatT = true then (match idxOf y ts 0 with
      | some k => .ok (.int k) M
      | none => .no) else .no
    | _ => .no
  | _, _ => .no

section
variable {X : Cx} {cA : Str → Addr} {ea : Option EA} {W : WX} {σ : L2.St} {μ : List Addr} {H : Hp} {M : Mem}
/-- a list cell is written; the answer t -/
theorem Run.setL {n : Nat} {a : Addr} {t : T} {x : V} {ts us : List T} {xs ys : List V} {Q : VK} (h : Run X.K cA W σ μ H (.ok t (M.set n (.lst us))) (QV X.K Q)) (hm : RM X.K cA μ M H) (ha : μ[n]? = some a) (e : M[n]? = some (.lst ts)) (hH : H a = some (.lst xs))
    (r : RVs X.K μ H us ys) (rt : RV X.K μ H t x) : Q x (upd H a (.lst ys)) := by
  have hx : Ext H (upd H a (.lst ys)) := Ext.write (by rw [hH]; trivial)
  exact h.ok (List.prefix_refl _) hx (hm.set ha e rfl rfl ⟨ys, upd_same, r.mono (List.prefix_refl _) hx⟩) x (rt.mono (List.prefix_refl _) hx)
theorem m_append : MtD X cA W "list.append" appendT := mtD mt_append fun σ H μ M t ts x xs Q rx rs hm h => by
  cases t with
  | ob n =>
    cases ts with
    | nil => exact h.elim
    | cons y r =>
      cases r with
      | cons _ _ => exact h.elim
      | nil =>
        obtain ⟨w, rfl, ry⟩ := rs.one
        simp only [appendT] at h
        cases e : M[n]? with
        | none => simp only [e] at h; exact h.elim
        | some c =>
          cases c with
          | lst us =>
            simp only [e] at h
            obtain ⟨a, xs, rfl, ha, h1, h2⟩ := hm.lst e rx
            by_cases hl : us.length < sizeLine
            · rw [if_pos hl] at h
              exact ⟨a, xs, w, rfl, rfl, h1, by rw [← h2.length]; exact hl, h.setL hm ha e h1 (h2.append (.cons ry .nil)) (by rw [RV])⟩
            · rw [if_neg hl] at h; exact h.elim
          | _ => simp only [e] at h; exact h.elim
  | _ => exact h.elim
theorem m_pop : MtD X cA W "list.pop" popT := mtD mt_pop fun σ H μ M t ts x xs Q rx rs hm h => by
  cases t with
  | ob n =>
    cases ts with
    | cons _ _ => exact h.elim
    | nil =>
      rw [RVs] at rs; subst rs
      simp only [popT] at h
      cases e : M[n]? with
      | none => simp only [e] at h; exact h.elim
      | some c =>
        cases c with
        | lst us =>
          simp only [e] at h
          obtain ⟨a, xs, rfl, ha, h1, h2⟩ := hm.lst e rx
          cases e2 : us[us.length - 1]? with
          | none => simp only [e2] at h; exact h.elim
          | some y =>
            simp only [e2] at h
            obtain ⟨w, e3, rw'⟩ := h2.get e2
            exact ⟨a, xs, w, rfl, rfl, h1, by rw [← h2.length]; exact e3, h.setL hm ha e h1 h2.dropLast rw'⟩
        | _ => simp only [e] at h; exact h.elim
  | _ => exact h.elim
theorem m_popAt : MtD X cA W "list.pop" popAtT := mtD mt_popAt fun σ H μ M t ts x xs Q rx rs hm h => by
  cases t with
  | ob n =>
    cases ts with
    | nil => exact h.elim
    | cons y r =>
      cases r with
      | cons _ _ => cases y <;> exact h.elim
      | nil =>
        cases y with
        | int i =>
          obtain ⟨w, rfl, ry⟩ := rs.one
          rw [RV] at ry; subst ry
          simp only [popAtT] at h
          cases e : M[n]? with
          | none => simp only [e] at h; exact h.elim
          | some c =>
            cases c with
            | lst us =>
              simp only [e] at h
              obtain ⟨a, xs, rfl, ha, h1, h2⟩ := hm.lst e rx
              cases e2 : ixN us.length i with
              | none => simp only [e2] at h; exact h.elim
              | some k =>
                simp only [e2] at h
                cases e3 : us[k]? with
                | none => simp only [e3] at h; exact h.elim
                | some y =>
                  simp only [e3] at h
                  by_cases hb : -(2 ^ 63) ≤ i ∧ i < 2 ^ 63
                  · rw [if_pos hb] at h
                    obtain ⟨w, e4, rw'⟩ := h2.get e3
                    exact ⟨a, xs, i, k, w, rfl, rfl, h1, hb.1, hb.2, by rw [← h2.length]; exact (ixN_seq e2).1, e4, h.setL hm ha e h1 (h2.eraseIdx k) rw'⟩
                  · rw [if_neg hb] at h; exact h.elim
            | _ => simp only [e] at h; exact h.elim
        | _ => exact h.elim
  | _ => exact h.elim
theorem m_extend : MtD X cA W "list.extend" extendT := mtD mt_extend fun σ H μ M t ts x xs Q rx rs hm h => by
  cases t with
  | ob n =>
    cases ts with
    | nil => exact h.elim
    | cons y r =>
      cases r with
      | cons _ _ => cases y <;> exact h.elim
      | nil =>
        cases y with
        | ob m =>
          obtain ⟨w, rfl, ry⟩ := rs.one
          simp only [extendT] at h
          cases e : M[n]? with
          | none => simp only [e] at h; exact h.elim
          | some c =>
            cases e2 : M[m]? with
            | none => simp only [e, e2] at h; cases c <;> exact h.elim
            | some d =>
              simp only [e, e2] at h
              cases c with
              | lst us =>
                cases d with
                | lst vs =>
                  obtain ⟨a, xs, rfl, ha, h1, h2⟩ := hm.lst e rx
                  obtain ⟨b, ys, rfl, hb, h3, h4⟩ := hm.lst e2 ry
                  by_cases hl : us.length + vs.length ≤ sizeLine
                  · simp only [if_pos hl] at h
                    exact ⟨a, b, xs, ys, rfl, rfl, h1, h3, by rw [← h2.length, ← h4.length]; exact hl, h.setL hm ha e h1 (h2.append h4) (by rw [RV])⟩
                  · simp only [if_neg hl] at h; exact h.elim
                | _ => exact h.elim
              | _ => exact h.elim
        | _ => exact h.elim
  | _ => exact h.elim
theorem m_clear : MtD X cA W "list.clear" clearT := mtD mt_clear fun σ H μ M t ts x xs Q rx rs hm h => by
  cases t with
  | ob n =>
    cases ts with
    | cons _ _ => exact h.elim
    | nil =>
      rw [RVs] at rs; subst rs
      simp only [clearT] at h
      cases e : M[n]? with
      | none => simp only [e] at h; exact h.elim
      | some c =>
        cases c with
        | lst us =>
          simp only [e] at h
          obtain ⟨a, xs, rfl, ha, h1, h2⟩ := hm.lst e rx
          exact ⟨a, xs, rfl, rfl, h1, h.setL hm ha e h1 .nil (by rw [RV])⟩
        | _ => simp only [e] at h; exact h.elim
  | _ => exact h.elim
theorem idxOf_ok {y : T} : ∀ {ts : List T} {k j : Nat}, idxOf y ts k = some j → k ≤ j ∧ (∃ t, ts[j - k]? = some t ∧ eqS t y = true) ∧ ∀ m t, m < j - k → ts[m]? = some t → eqS t y = false
  | [], k, j, h => by cases h
  | u :: r, k, j, h => by
    unfold idxOf at h
    by_cases q : eqS u y = true
    · rw [if_pos q] at h
      cases h
      exact ⟨Nat.le_refl _, ⟨u, by simp, q⟩, fun m t hm _ => by omega⟩
    · rw [if_neg q] at h
      obtain ⟨h1, ⟨t, h2, h3⟩, h4⟩ := idxOf_ok h
      refine ⟨by omega, ⟨t, ?_, h3⟩, fun m t hm e => ?_⟩
      · rw [show j - k = (j - (k + 1)) + 1 by omega]; simpa using h2
      · cases m with
        | zero => simp at e; subst e; simpa using q
        | succ m => exact h4 m t (by omega) (by simpa using e)
theorem m_index : MtD X cA W "list.index" indexT := mtD mt_index fun σ H μ M t ts x xs Q rx rs hm h => by
  cases t with
  | ob n =>
    cases ts with
    | nil => exact h.elim
    | cons y r =>
      cases r with
      | cons _ _ => exact h.elim
      | nil =>
        obtain ⟨w, rfl, ry⟩ := rs.one
        simp only [indexT] at h
        cases e : M[n]? with
        | none => simp only [e] at h; exact h.elim
        | some c =>
          cases c with
          | lst us =>
            simp only [e] at h
            obtain ⟨a, xs, rfl, ha, h1, h2⟩ := hm.lst e rx
            by_cases hl : flatT y = true ∧ us.all flatT = true
            · rw [if_pos hl] at h
              cases e2 : idxOf y us 0 with
              | none => simp only [e2] at h; exact h.elim
              | some j =>
                simp only [e2] at h
                obtain ⟨_, ⟨u, g1, g2⟩, g3⟩ := idxOf_ok e2
                obtain ⟨f1, f2⟩ := ry.flat hl.1
                obtain ⟨f3, f4⟩ := h2.flat hl.2
                rw [Nat.sub_zero] at g1 g3
                have fu : flatT u = true := List.all_eq_true.mp hl.2 u (List.mem_of_getElem? g1)
                refine ⟨a, xs, w, j, vT u, rfl, rfl, SqL.of h1, f2, f4, by rw [f3, List.getElem?_map, g1]; rfl, by rw [f1, eqV_vT fu hl.1]; exact g2, fun m z hm' ez => ?_, int_ok h hm⟩
                rw [f3, List.getElem?_map] at ez
                cases e4 : us[m]? with
                | none => rw [e4] at ez; cases ez
                | some v =>
                  rw [e4] at ez
                  cases ez
                  rw [f1, eqV_vT (List.all_eq_true.mp hl.2 v (List.mem_of_getElem? e4)) hl.1]
                  exact g3 m v hm' e4
            · rw [if_neg hl] at h; exact h.elim
          | _ => simp only [e] at h; exact h.elim
  | _ => exact h.elim
end
end DN

namespace DN
open PySem PySem.Spec L2

def rCntF (K : PySem.W.Frag) : V → List V → Hp → VK → Prop := fun x xs H Q => ∃ (p : Addr) (ys : List V) (y : V), x = .ref p ∧ xs = [y] ∧ SqL K H p ys ∧ flatV y = true ∧ ys.all flatV = true ∧ Q (.int (ys.countP fun z => eqV z y : Nat)) H
section
open PyProof.Rows
variable {X : Cx}
theorem countP_eqU {x : V} : ∀ {xs : List V} {us : List Value}, Vals xs us → xs.all flatV = true → us.countP (eqU x) = xs.countP fun y => eqV y x
  | _, _, .nil, _ => rfl
  | y :: xs, u :: us, .cons r t, f => by
    rw [List.all_cons, Bool.and_eq_true] at f
    rw [List.countP_cons, List.countP_cons, eqU_of r f.1, countP_eqU t f.2]
theorem mt_countF : MtR X "list.count" (rCntF X.K) := by
  intro pins s σ H x xs v us Q I rx rxs h
  obtain ⟨p, ys, y, rfl, rfl, hs, fy, fs, q⟩ := h
  cases rx
  obtain ⟨u, rfl, ru⟩ := L2.Vals.one rxs
  obtain ⟨its, rv, ⟨⟨cls, dd, data, sl⟩, n, ho, hc, hdn, hd⟩, hlen⟩ := I.list hs
  simp only at hc hd
  subst hc hd
  refine call_meets PySem.F.slot_list_count ⟨_, ho, rfl⟩ PySem.F.entry_list_count (PySem.F.args_list_count_2 _ _)
    (SeqAt.list_countAt p its.toArray n dd sl u (eqU y)) ⟨ho, fun z hz => mem_eqAt ru fy rv fs z (by simpa using hz), ?_⟩
  have ec : its.toArray.toList.countP (eqU y) = ys.countP fun z => eqV z y := countP_eqU rv fs
  refine ⟨.int (ys.countP fun z => eqV z y : Nat), H, I.tok _, ⟨s.toks, ?_⟩, q⟩
  show Value.int ((its.toArray.toList.countP (eqU y) : Nat) : Int) s.toks = _
  rw [ec]
end
def countT : FD
  | [.ob n, y], M => match M[n]? with
    | some (.lst ts) => if flatT y = true ∧ ts.all flatT = true then .ok (.int (ts.countP fun z => eqS z y : Nat)) M else .no
    | _ => .no
  | _, _ => .no
def removeT : FD
  | [.ob n, .int k], M => match M[n]? with
    | some (.lst ts) => (match intsOf ts with
      | some ns => (match ns.idxOf? k with
        | some j => .ok .non (M.set n (.lst (ts.eraseIdx j)))
        | none => .no)
      | none => .no)
    | _ => .no
  | _, _ => .no
section
variable {X : Cx} {cA : Str → Addr} {ea : Option EA} {W : WX}
theorem countP_vT {y : T} (hy : flatT y = true) : ∀ {ts : List T}, ts.all flatT = true → (ts.map vT).countP (fun z => eqV z (vT y)) = ts.countP fun z => eqS z y
  | [], _ => rfl
  | u :: ts, f => by
    rw [List.all_cons, Bool.and_eq_true] at f
    rw [List.map_cons, List.countP_cons, List.countP_cons, countP_vT hy f.2, eqV_vT f.1 hy]
theorem m_count : MtD X cA W "list.count" countT := mtD mt_countF fun σ H μ M t ts x xs Q rx rs hm h => by
  cases t with
  | ob n =>
    cases ts with
    | nil => exact h.elim
    | cons y r =>
      cases r with
      | cons _ _ => exact h.elim
      | nil =>
        obtain ⟨w, rfl, ry⟩ := rs.one
        simp only [countT] at h
        cases e : M[n]? with
        | none => simp only [e] at h; exact h.elim
        | some c =>
          cases c with
          | lst us =>
            simp only [e] at h
            obtain ⟨a, xs, rfl, ha, h1, h2⟩ := hm.lst e rx
            by_cases hl : flatT y = true ∧ us.all flatT = true
            · rw [if_pos hl] at h
              obtain ⟨f1, f2⟩ := ry.flat hl.1
              obtain ⟨f3, f4⟩ := h2.flat hl.2
              refine ⟨a, xs, w, rfl, rfl, SqL.of h1, f2, f4, ?_⟩
              rw [f1, f3, countP_vT hl.1 hl.2]
              exact int_ok h hm
            · rw [if_neg hl] at h; exact h.elim
          | _ => simp only [e] at h; exact h.elim
  | _ => exact h.elim
theorem m_remove : MtD X cA W "list.remove" removeT := mtD mt_remove fun σ H μ M t ts x xs Q rx rs hm h => by
  cases t with
  | ob n =>
    cases ts with
    | nil => exact h.elim
    | cons y r =>
      cases r with
      | cons _ _ => cases y <;> exact h.elim
      | nil =>
        cases y with
        | int k =>
          obtain ⟨w, rfl, ry⟩ := rs.one
          rw [RV] at ry; subst ry
          simp only [removeT] at h
          cases e : M[n]? with
          | none => simp only [e] at h; exact h.elim
          | some c =>
            cases c with
            | lst us =>
              simp only [e] at h
              obtain ⟨a, xs, rfl, ha, h1, h2⟩ := hm.lst e rx
              cases e2 : intsOf us with
              | none => simp only [e2] at h; exact h.elim
              | some ns =>
                simp only [e2] at h
                cases e3 : ns.idxOf? k with
                | none => simp only [e3] at h; exact h.elim
                | some j =>
                  simp only [e3] at h
                  have h2' := h2
                  rw [intsOf_eq e2] at h2'
                  have ex := h2'.ints
                  subst ex
                  obtain ⟨g1, g2, g3⟩ := List.findIdx?_eq_some_iff_getElem.mp (show ns.findIdx? (· == k) = some j from e3)
                  refine ⟨a, ns, k, j, rfl, rfl, h1, ?_, fun m hm' q => ?_, ?_⟩
                  · rw [List.getElem?_eq_getElem g1]
                    simp at g2
                    rw [g2]
                  · obtain ⟨q1, q2⟩ := List.getElem?_eq_some_iff.mp q
                    have := g3 m hm'
                    rw [q2] at this
                    simp at this
                  · have h3 := h2.eraseIdx j
                    rw [erase_mapI] at h3
                    exact Run.setL h hm ha e h1 h3 (by rw [RV])
            | _ => simp only [e] at h; exact h.elim
        | _ => exact h.elim
  | _ => exact h.elim
end

/-! ### statements -/
def RS.bind (r : RS) (f : Ev → Mem → RS) : RS := match r with
  | .nx ρ M => f ρ M
  | r => r
def R.toS {α : Type} (r : R α) (ρ : Ev) (f : α → Mem → RS) : RS := match r with
  | .ok a M => f a M
  | .ex e M => .ex e ρ M
  | .no => .no
def dSeq (a b : DS) : DS := fun ρ M => (a ρ M).bind b
def dNil : DS := fun ρ M => .nx ρ M
def dPass : DS := fun ρ M => .nx ρ M
def dBreak : DS := fun ρ M => .bk ρ M
def dCont : DS := fun ρ M => .ct ρ M
def dExpr (d : DE) : DS := fun ρ M => (d ρ M).toS ρ fun _ M1 => .nx ρ M1
def dRet (d : DE) : DS := fun ρ M => (d ρ M).toS ρ fun t M1 => .rt t M1
def dRetN : DS := fun ρ M => .rt .non M
def dSet (i : Nat) (d : DE) : DS := fun ρ M => (d ρ M).toS ρ fun t M1 => .nx (ρ.set i (some t)) M1
def dIfS (c : DB) (a b : DS) : DS := fun ρ M => (c ρ M).toS ρ fun x M1 => if x = true then a ρ M1 else b ρ M1
/-- targets -/
abbrev DG := T → Ev → Mem → RS
def gN (i : Nat) : DG := fun t ρ M => .nx (ρ.set i (some t)) M
def gsN : List T → Ev → Mem → RS := fun ts ρ M => match ts with
  | [] => .nx ρ M
  | _ => .no
def gsC (g : DG) (r : List T → Ev → Mem → RS) : List T → Ev → Mem → RS := fun ts ρ M => match ts with
  | [] => .no
  | t :: ts => (g t ρ M).bind (r ts)
/-- (a, b, ..) = a tuple -/
def gT (n : Nat) (r : List T → Ev → Mem → RS) : DG := fun t ρ M => match t with
  | .tup ts => if ts.length = n then r ts ρ M else .no
  | _ => .no
def RS.only : RS → RS
  | .nx ρ M => .nx ρ M
  | .ex x ρ M => .ex x ρ M
  | _ => .no
def setItemT (o i v : T) (M : Mem) : R T := match o, i with
  | .ob n, .int k => (match M[n]? with
    | some (.lst ts) => (match ixN ts.length k with
      | some j => .ok .non (M.set n (.lst (ts.set j v)))
      | none => .no)
    | _ => .no)
  | _, _ => .no
def gSub' (o i : DE) (f : T → T → T → Mem → R T) : DG := fun t ρ M => (o ρ M).toS ρ fun ov M1 => (i ρ M1).toS ρ fun iv M2 => (f ov iv t M2).toS ρ fun _ M3 => .nx ρ M3
def dAsg (d : DE) (g : DG) : DS := fun ρ M => (d ρ M).toS ρ fun t M1 => (g t ρ M1).only

section
variable {X : Cx} {cA : Str → Addr} {ea : Option EA} {W : WX} {μ : List Addr} {H : Hp} {D : Ends} {σ : L2.St} {ρ : Ev}
theorem RunS.bind {r : RS} {f : Ev → Mem → RS} (h : RunS X.K cA ea W μ H (r.bind f) D) :
    RunS X.K cA ea W μ H r { D with nx := fun σ' H' => ∃ ρ' μ' M', RE X.K cA ea μ' H' ρ' σ' ∧ RM X.K cA μ' M' H' ∧ RunS X.K cA ea W μ' H' (f ρ' M') D } := by
  cases r with
  | nx ρ M => exact fun σ' μ' H' hp hx hm he => ⟨ρ, μ', M, he, hm, RunS.mono hp hx h⟩
  | _ => exact h
theorem unS {α : Type} {r : R α} {f : α → Mem → RS} (he : RE X.K cA ea μ H ρ σ) (h : RunS X.K cA ea W μ H (r.toS ρ f) D) : Run X.K cA W σ μ H r fun a M μ1 H1 => RunS X.K cA ea W μ1 H1 (f a M) D := by
  cases r with
  | ok a M => exact fun μ' H' hp hx _ => RunS.mono hp hx h
  | ex e M => exact fun μ' H' cls d hp hx hm hr => h σ μ' H' cls d hp hx hm (he.mono hp hx) hr
  | no => exact h
theorem RunS.nx {M : Mem} (h : RunS X.K cA ea W μ H (.nx ρ M) D) (hm : RM X.K cA μ M H) (he : RE X.K cA ea μ H ρ σ) : D.nx σ H := h σ μ H (List.prefix_refl _) (Ext.refl _) hm he
variable {st : Stmt} {sts : List Stmt} {a b : DS} {e : Expr} {d : DE} {pos : Pos}
theorem z_nil : PSs X [] (tDS X.K cA ea W dNil) := PSs.weak pss_nil fun D σ H ⟨ρ, μ, M, he, hm, hr⟩ => hr.nx hm he
theorem z_cons (h1 : PS X st (tDS X.K cA ea W a)) (h2 : PSs X sts (tDS X.K cA ea W b)) : PSs X (st :: sts) (tDS X.K cA ea W (dSeq a b)) :=
  PSs.weak (pss_cons h1 h2) fun D σ H ⟨ρ, μ, M, he, hm, hr⟩ => ⟨ρ, μ, M, he, hm, hr.bind⟩
theorem z_one (h1 : PS X st (tDS X.K cA ea W a)) : PSs X [st] (tDS X.K cA ea W a) := pss_one h1
theorem z_pass : PS X (.Pass pos) (tDS X.K cA ea W dPass) := PS.weak ps_pass fun D σ H ⟨ρ, μ, M, he, hm, hr⟩ => hr.nx hm he
theorem z_break : PS X (.Break pos) (tDS X.K cA ea W dBreak) := PS.weak ps_break fun D σ H ⟨ρ, μ, M, he, hm, hr⟩ => hr σ μ H (List.prefix_refl _) (Ext.refl _) hm he
theorem z_cont : PS X (.Continue pos) (tDS X.K cA ea W dCont) := PS.weak ps_continue fun D σ H ⟨ρ, μ, M, he, hm, hr⟩ => hr σ μ H (List.prefix_refl _) (Ext.refl _) hm he
theorem z_expr (h : PE X e (tD X.K cA ea W d)) (hs : swapsWith e none pos.line X.env = pure false := by rfl) : PS X (.Expr e pos) (tDS X.K cA ea W (dExpr d)) :=
  PS.weak (ps_expr h hs) fun D σ H ⟨ρ, μ, M, he, hm, hr⟩ => ⟨ρ, μ, M, he, hm, (unS he hr).imp fun t M1 μ1 H1 hp hx hm1 h1 x rx => h1.nx hm1 (he.mono hp hx)⟩
theorem z_ret (h : PE X e (tD X.K cA ea W d)) : PS X (.Return (some e) pos) (tDS X.K cA ea W (dRet d)) :=
  PS.weak (ps_ret h) fun D σ H ⟨ρ, μ, M, he, hm, hr⟩ => ⟨ρ, μ, M, he, hm, (unS he hr).imp fun t M1 μ1 H1 hp hx hm1 h1 x rx => h1 μ1 H1 x (List.prefix_refl _) (Ext.refl _) hm1 rx⟩
theorem z_retN : PS X (.Return none pos) (tDS X.K cA ea W dRetN) := PS.weak ps_retN fun D σ H ⟨ρ, μ, M, he, hm, hr⟩ => hr μ H .non (List.prefix_refl _) (Ext.refl _) hm (by rw [RV])
/-- the slot is not the error's name -/
def okSlot (ea : Option EA) (j : Nat) : Prop := ∀ q : EA, ea = some q → q.i ≠ j
theorem okSlot.non {j : Nat} : okSlot none j := fun _ e => nomatch e
theorem okSlot.some {q : EA} {j : Nat} (h : q.i ≠ j) : okSlot (some q) j := fun _ e => by cases e; exact h
theorem z_set (i : Nat) {x : Str} {pos' : Pos} (nd : X.N.Nodup) (h : PE X e (tD X.K cA ea W d)) (ok : okSlot ea i) (hi : X.N[i]? = some x := by rfl) (hx : Loc X.env.scope x := by first | exact Or.inl rfl | exact Or.inr rfl) (hs : swapsWith e (some (.Name x pos')) pos.line X.env = pure false := by rfl)
    (hf : X.fn x = true ∨ X.env.scope.names.lookup x = some .local := by first | exact .inl rfl | exact .inr rfl | assumption) : PS X (.Assign [.Name x pos'] e pos) (tDS X.K cA ea W (dSet i d)) :=
  PS.weak (ps_set nd hi hx h hs hf) fun D σ H ⟨ρ, μ, M, he, hm, hr⟩ => ⟨ρ, μ, M, he, hm, (unS he hr).imp fun t M1 μ1 H1 hp hx hm1 h1 x rx => h1.nx hm1 ((he.mono hp hx).set rx ok)⟩
theorem z_if {c : Expr} {dc : DB} {as bs : List Stmt} (hc : PT X c (tDB X.K cA ea W dc)) (ha : PSs X as (tDS X.K cA ea W a)) (hb : PSs X bs (tDS X.K cA ea W b)) : PS X (.If c as bs pos) (tDS X.K cA ea W (dIfS dc a b)) :=
  PS.weak (ps_if hc ha hb) fun D σ H ⟨ρ, μ, M, he, hm, hr⟩ => ⟨ρ, μ, M, he, hm, (unS he hr).imp fun t M1 μ1 H1 hp hx hm1 h1 => by
    show if t = true then _ else _
    cases t with
    | true => exact ⟨ρ, μ1, M1, he.mono hp hx, hm1, h1⟩
    | false => exact ⟨ρ, μ1, M1, he.mono hp hx, hm1, h1⟩⟩
end
/-! ### targets -/
def tDG (K : PySem.W.Frag) (cA : Str → Addr) (ea : Option EA) (W : WX) (g : DG) : TG := fun v σ H Q => ∃ ρ μ M t, RE K cA ea μ H ρ σ ∧ RM K cA μ M H ∧ RV K μ H t v ∧ RunS K cA ea W μ H (g t ρ M) ⟨Q, fun _ _ => False, fun _ _ => False, fun _ _ => False⟩
def tDGs (K : PySem.W.Frag) (cA : Str → Addr) (ea : Option EA) (W : WX) (g : List T → Ev → Mem → RS) : TGs := fun vs σ H Q => ∃ ρ μ M ts, RE K cA ea μ H ρ σ ∧ RM K cA μ M H ∧ RVs K μ H ts vs ∧ RunS K cA ea W μ H (g ts ρ M) ⟨Q, fun _ _ => False, fun _ _ => False, fun _ _ => False⟩
section
variable {X : Cx} {cA : Str → Addr} {ea : Option EA} {W : WX}
theorem PG.weak {e : Expr} {t t' : TG} (h : PG X e t) (w : ∀ v σ H Q, t' v σ H Q → t v σ H Q) : PG X e t' := ⟨fun pins s σ H v u Q I r q => h.run pins s σ H v u Q I r (w v σ H Q q)⟩
theorem PGs.weak {e : List Expr} {t t' : TGs} (h : PGs X e t) (w : ∀ v σ H Q, t' v σ H Q → t v σ H Q) : PGs X e t' := ⟨fun pins s σ H v u Q I r q => h.run pins s σ H v u Q I r (w v σ H Q q)⟩
variable {e : Expr} {es : List Expr} {pos : Pos}
theorem g_n (i : Nat) {x : Str} (nd : X.N.Nodup) (ok : okSlot ea i) (hi : X.N[i]? = some x := by rfl) (hx : Loc X.env.scope x := by first | exact Or.inl rfl | exact Or.inr rfl)
    (hf : X.fn x = true ∨ X.env.scope.names.lookup x = some .local := by first | exact .inl rfl | exact .inr rfl | assumption) : PG X (.Name x pos) (tDG X.K cA ea W (gN i)) :=
  PG.weak (pg_name nd hi hx hf) fun v σ H Q ⟨ρ, μ, M, t, he, hm, rv, hr⟩ => hr.nx hm (he.set rv ok)
theorem g_nil : PGs X [] (tDGs X.K cA ea W gsN) := PGs.weak pgs_nil fun v σ H Q ⟨ρ, μ, M, ts, he, hm, rv, hr⟩ => by
  cases ts with
  | nil => rw [RVs] at rv; exact ⟨rv, hr.nx hm he⟩
  | cons _ _ => exact hr.elim
theorem g_cons {g : DG} {r : List T → Ev → Mem → RS} (h1 : PG X e (tDG X.K cA ea W g)) (h2 : PGs X es (tDGs X.K cA ea W r)) (hs : (assignEach (e :: es) X.env).map (·.2) = assign e X.env :: (assignEach es X.env).map (·.2) := by rfl) :
    PGs X (e :: es) (tDGs X.K cA ea W (gsC g r)) := PGs.weak (pgs_cons h1 h2 hs) fun v σ H Q ⟨ρ, μ, M, ts, he, hm, rv, hr⟩ => by
  cases ts with
  | nil => exact hr.elim
  | cons t ts =>
    rw [RVs] at rv
    obtain ⟨w, ws, rfl, r1, r2⟩ := rv
    refine ⟨w, ws, rfl, ρ, μ, M, t, he, hm, r1, ?_⟩
    have hr : RunS X.K cA ea W μ H ((g t ρ M).bind (r ts)) _ := hr
    cases e2 : g t ρ M with
    | nx ρ1 M1 =>
      rw [e2] at hr
      exact fun σ' μ' H' hp hx hm' he' => ⟨ρ1, μ', M1, ts, he', hm', r2.mono hp hx, RunS.mono hp hx hr⟩
    | rt t1 M1 => rw [e2] at hr; exact hr
    | bk ρ1 M1 => rw [e2] at hr; exact hr
    | ct ρ1 M1 => rw [e2] at hr; exact hr
    | ex x ρ1 M1 => rw [e2] at hr; exact hr
    | no => rw [e2] at hr; exact hr.elim
theorem g_tup {k n : Nat} {r : List T → Ev → Mem → RS} (hc : X.calm = true) (h : PGs X es (tDGs X.K cA ea W r)) (hn : (assignEach es X.env).length = n := by rfl) (hst : (assignEach es X.env).findIdx? (·.1) = none := by rfl) :
    PG X (.Tuple es k pos) (tDG X.K cA ea W (gT n r)) := PG.weak (pg_tup hc h hn hst) fun v σ H Q ⟨ρ, μ, M, t, he, hm, rv, hr⟩ => by
  cases t with
  | tup ts =>
    rw [RV] at rv
    obtain ⟨a, xs, rfl, h1, h2⟩ := rv
    have hr : RunS X.K cA ea W μ H (if ts.length = n then r ts ρ M else .no) _ := hr
    by_cases hl : ts.length = n
    · rw [if_pos hl] at hr
      exact ⟨a, xs, rfl, h1, by rw [← h2.length]; exact hl, ρ, μ, M, ts, he, hm, h2, hr⟩
    · rw [if_neg hl] at hr; exact hr.elim
  | _ => exact hr.elim
/-- o[i] = v on a list -/
theorem g_sub {o i : Expr} {dO dI : DE} (ho : PE X o (tD X.K cA ea W dO)) (hi : PE X i (tD X.K cA ea W dI))
    (ha : ∀ v, assign (.Subscript o i pos) X.env v = (do
      let ov ← holding [v] (eval o X.env)
      let iv ← holding [v, ov] (eval i X.env)
      standAt pos
      holding [v, ov, iv] (setItem ov iv v)
      release [v, ov, iv] []) := by intro _; rfl) : PG X (.Subscript o i pos) (tDG X.K cA ea W (gSub' dO dI setItemT)) := PG.weak (pg_sub ho hi set_list ha) fun v σ H Q ⟨ρ, μ, M, t, he, hm, rv, hr⟩ => by
  refine ⟨ρ, μ, M, he, hm, (unS he hr).imp fun ot M1 μ1 H1 hp hx hm1 h1 ov rov => ?_⟩
  have he1 := he.mono hp hx
  refine ⟨ρ, μ1, M1, he1, hm1, (unS he1 h1).imp fun it M2 μ2 H2 hp2 hx2 hm2 h2 iv riv => ?_⟩
  have he2 := he1.mono hp2 hx2
  have rov2 := rov.mono hp2 hx2
  have rv2 := (rv.mono hp hx).mono hp2 hx2
  cases ot with
  | ob n =>
    cases it with
    | int k =>
      have h2 : RunS X.K cA ea W μ2 H2 ((match M2[n]? with
        | some (.lst ts) => (match ixN ts.length k with
          | some j => .ok .non (M2.set n (.lst (ts.set j t)))
          | none => .no)
        | _ => .no : R T).toS ρ fun _ M3 => .nx ρ M3) _ := h2
      cases e : M2[n]? with
      | none => simp only [e] at h2; exact h2.elim
      | some c =>
        cases c with
        | lst us =>
          simp only [e] at h2
          obtain ⟨a, xs, rfl, ha, g1, g2⟩ := hm2.lst e rov2
          rw [RV] at riv
          cases e2 : ixN us.length k with
          | none => simp only [e2] at h2; exact h2.elim
          | some j =>
            simp only [e2] at h2
            refine ⟨a, xs, k, j, rfl, riv, g1, by rw [← g2.length]; exact e2, ?_⟩
            have hx3 : Ext H2 (upd H2 a (.lst (xs.set j v))) := Ext.write (by rw [g1]; trivial)
            exact h2 σ μ2 _ (List.prefix_refl _) hx3 (hm2.set ha e rfl rfl ⟨_, upd_same, (g2.set j rv2).mono (List.prefix_refl _) hx3⟩) (he2.mono (List.prefix_refl _) hx3)
        | _ => simp only [e] at h2; exact h2.elim
    | _ => exact h2.elim
  | _ => exact h2.elim
theorem z_asg {tg : Expr} {d : DE} {g : DG} (h : PE X e (tD X.K cA ea W d)) (hg : PG X tg (tDG X.K cA ea W g)) (hs : swapsWithSole [tg] e pos.line X.env = pure false := by rfl) (hw : swappedStores [tg] e X.env = pure none := by rfl)
    (h1 : (assignEach [tg] X.env).map (·.2) = [assign tg X.env] := by rfl) : PS X (.Assign [tg] e pos) (tDS X.K cA ea W (dAsg d g)) :=
  PS.weak (ps_asg h hg hs hw h1) fun D σ H ⟨ρ, μ, M, he, hm, hr⟩ => ⟨ρ, μ, M, he, hm, (unS he hr).imp fun t M1 μ1 H1 hp hx hm1 h1 x rx => by
    refine ⟨ρ, μ1, M1, t, he.mono hp hx, hm1, rx, ?_⟩
    cases q : g t ρ M1 with
    | nx ρ' M' => rw [q] at h1; exact h1
    | ex x ρ' M' => rw [q] at h1; exact h1
    | _ => rw [q] at h1; exact h1.elim⟩
end
end DN

namespace DN
open PySem PySem.Spec L2

/-! ### own defs -/
structure FnF (P : Program) (w : World) (K : PySem.W.Frag) (mg : Str → Option Value) (base : Heap) (cA : Str → Addr) (k : Nat) (f : Addr) (d : FD) : Prop where
  ex : ∃ fd ps, PySem.W.keepIn K (.ref f) = true ∧ Binds K fd ps [] ∧ FnOk P w K mg base (L2.CX P w) k f fd ps (spD K cA d)
def dFn (n slots : Nat) (b : DS) : FD := fun ts M => if ts.length = n then (match b (ts.map some ++ List.replicate (slots - n) none) M with
  | .nx _ M' => .ok .non M'
  | .rt t M' => .ok t M'
  | .ex x _ M' => .ex x M'
  | _ => .no) else .no
def dCall (g : FD) (a : DA) : DE := fun ρ M => (a ρ M).bind g
section
variable {P : Program} {w : World} {K : PySem.W.Frag} {mg : Str → Option Value} {base : Heap} {cA : Str → Addr}
theorem RE.begin {μ : List Addr} {H : Hp} {ts : List T} {vs : List V} {N : List Str} {n : Nat} (h : RVs K μ H ts vs) (hn : ts.length = n) : RE K cA none μ H (ts.map some ++ List.replicate (N.length - n) none) (start N vs) := by
  have hl := h.length
  refine ⟨by simp [L2.start, hl, ← hn], fun i t e => ?_, fun q e => nomatch e⟩
  unfold L2.start
  by_cases hi : i < ts.length
  · rw [List.getElem?_append_left (by simpa using hi), List.getElem?_map] at e
    cases q : ts[i]? with
    | none => rw [q] at e; cases e
    | some u =>
      rw [q] at e
      cases e
      obtain ⟨v, e1, r⟩ := h.get q
      exact ⟨v, by rw [List.getElem?_append_left (by simpa [← hl] using hi), List.getElem?_map, e1]; rfl, r⟩
  · rw [List.getElem?_append_right (by simpa using hi), List.getElem?_replicate] at e
    split at e <;> cases e
/-- a def keeps its promise: its body's reading -/
theorem fn_d {x qual : Str} {params : Arguments} {body : List Stmt} {scope : Scope} {f : Addr} {fd : FuncData} {N ps : List Str} {k : Nat} {b : DS} (F : FunD K x qual params body scope [] [] f fd) (S : FnScope N ps scope)
    (hb : ∀ (kV doc pm : Value) (an : Option Addr) (cdv ct : Value) (us : List Value), us.length = ps.length → bindArgs (PySem.W.fnOf x qual params body scope .none kV doc pm an cdv ct) ⟨us, []⟩ = pure (ps.zip us))
    (h : ∀ (cdv : Value) (A : Around) (outer : List Env) (s : Shared) (H : Hp) (E : XK), Cn (cxOf (L2.CX P w) P w K mg base N qual scope f cdv A outer s H E) (fun cls d _ H' => E cls d H') k →
      PSs (cxOf (L2.CX P w) P w K mg base N qual scope f cdv A outer s H E) body (tDS K cA none (fun cls d _ H' => E cls d H') b)) :
    FnF P w K mg base cA (k + 1) f (dFn ps.length N.length b) := by
  refine ⟨fd, ps, F.kp, F.bindsN hb, F.ok S (fun vs H Q E hsp => ?_) (fun cdv A outer s H vs Q E hr hsp => ⟨_, h cdv A outer s H E ⟨takes_of rfl rfl rfl rfl, passes_of rfl, hr, S.nd, rfl⟩, ?_⟩)⟩
  · obtain ⟨ts, μ, M, hv, hm, hr⟩ := hsp
    rw [← hv.length]
    unfold dFn at hr
    by_cases hl : ts.length = ps.length
    · exact hl
    · rw [if_neg hl] at hr; exact hr.elim
  · obtain ⟨ts, μ, M, hv, hm, hr⟩ := hsp
    unfold dFn at hr
    by_cases hl : ts.length = ps.length
    · rw [if_pos hl] at hr
      refine ⟨_, μ, M, RE.begin (N := N) hv hl, hm, ?_⟩
      cases e : b (ts.map some ++ List.replicate (N.length - ps.length) none) M with
      | nx ρ M' =>
        simp only [e] at hr
        exact fun σ' μ' H' hp hx hm' he' => hr μ' H' hp hx hm' _ (by rw [RV])
      | rt t M' =>
        simp only [e] at hr
        exact fun μ' H' x hp hx hm' rx => hr μ' H' hp hx hm' x rx
      | ex x ρ M' =>
        simp only [e] at hr
        exact fun σ' μ' H' cls d hp hx hm' he' hr' => hr μ' H' cls d hp hx hm' hr'
      | bk ρ M' => simp only [e] at hr; exact hr.elim
      | ct ρ M' => simp only [e] at hr; exact hr.elim
      | no => simp only [e] at hr; exact hr.elim
    · rw [if_neg hl] at hr; exact hr.elim
end

section
variable {X : Cx} {cA : Str → Addr} {ea : Option EA} {W : WX} {k j : Nat} {f : Addr} {d : DA} {g : FD} {x : Str} {p pos apos : Pos} {e o : Expr} {es : List Expr}
theorem Run.sp {σ : L2.St} {μ : List Addr} {H : Hp} {M : Mem} {ts : List T} {vs : List V} {Q : VK} (rv : RVs X.K μ H ts vs) (hm : RM X.K cA μ M H) (h : Run X.K cA W σ μ H (g ts M) (QV X.K Q)) : spD X.K cA g vs H Q (WE W σ) := by
  refine ⟨ts, μ, M, rv, hm, ?_⟩
  cases q : g ts M with
  | ok t M' => rw [q] at h; exact h
  | ex x M' => rw [q] at h; exact h
  | no => rw [q] at h; exact h
theorem s_call (c : Cn X W j) (F : FnF X.prog X.w X.K X.mg X.base cA k f g) (hk : k ≤ j) (hm : X.mg x = some (.ref f)) (ha : PA X (e :: es) (tDA X.K cA ea W d)) (hg : Gl X x := by rfl)
    (hdb : (x == ("__debug__" : Str)) = false := by decide) (he : starEach (e :: es) X.env = (false, eval e X.env) :: starEach es X.env := by rfl) (hpl : (backTo pos (starEach es X.env)).any (·.1) = false := by rfl) :
    PE X (.Call (.Name x p) (e :: es) [] pos) (tD X.K cA ea W (dCall g d)) := by
  obtain ⟨fd, ps, kp, b, F⟩ := F.ex
  refine PE.weak (pe_callS F (c.hr.mono hk) hg hm kp b (fun σ => passAt c.tk σ) ha hdb he hpl) fun σ H Q ⟨ρ, μ, M, hee, hmm, hr⟩ => ?_
  exact ⟨ρ, μ, M, hee, hmm, hr.bind.imp fun ts M1 μ1 H1 hp hx hm1 h1 vs rv => h1.sp rv hm1⟩
theorem s_call0 (c : Cn X W j) (F : FnF X.prog X.w X.K X.mg X.base cA k f g) (hk : k ≤ j) (hm : X.mg x = some (.ref f)) (hg : Gl X x := by rfl)
    (hdb : (x == ("__debug__" : Str)) = false := by decide) : PE X (.Call (.Name x p) [] [] pos) (tD X.K cA ea W (dCall g dNilA)) := by
  obtain ⟨fd, ps, kp, b, F⟩ := F.ex
  refine ⟨fun pins s σ H Q I ⟨ρ, μ, M, hee, hmm, hr⟩ => ?_⟩
  refine wpAny_Call_Name_kw (ld_glob I hg hm ?_ hdb)
  exact PySem.W.callWith_K0 I.kIn kp (run_fnS F (c.hr.mono hk) b (passAt c.tk σ) I .nil (Run.sp .nil hmm hr))

/-! ### instances -/
def FldOk (K : PySem.W.Frag) (cA : Str → Addr) (cs : List Str) (f : Str) : Prop := ∀ c, c ∈ cs → Cls K (cA c) ∧ NoAttr K (cA c) f
def fldT (cs : List Str) (f : Str) (t : T) (M : Mem) : R T := match t with
  | .ob n => (match M[n]? with
    | some (.ins c fs) => if c ∈ cs then (match fs.lookup f with
      | some u => .ok u M
      | none => .no) else .no
    | _ => .no)
  | _ => .no
def setFldT (cs : List Str) (f : Str) (v : T) (t : T) (M : Mem) : R T := match t with
  | .ob n => (match M[n]? with
    | some (.ins c fs) => if c ∈ cs ∧ fs.length < 1000 then .ok .non (M.set n (.ins c (putT f v fs))) else .no
    | _ => .no)
  | _ => .no
def dFld (cs : List Str) (f : Str) (a : DE) : DE := dUn (fldT cs f) a
def dSetF (cs : List Str) (f : Str) (v o : DE) : DS := fun ρ M => (v ρ M).toS ρ fun t M1 => (o ρ M1).toS ρ fun u M2 => (setFldT cs f t u M2).toS ρ fun _ M3 => .nx ρ M3
theorem RM.ins {K : PySem.W.Frag} {μ : List Addr} {M : Mem} {H : Hp} (hm : RM K cA μ M H) {n : Nat} {c : Str} {fs : List (Str × T)} {v : V} (e : M[n]? = some (.ins c fs)) (h : RV K μ H (.ob n) v) : ∃ a dx vs, v = .ref a ∧ μ[n]? = some a ∧ H a = some (.ins (cA c) dx vs) ∧ RF K μ H fs vs := by
  rw [RV] at h
  obtain ⟨a, rfl, ha⟩ := h
  obtain ⟨dx, vs, h1, h2⟩ := hm.at_ n a _ ha e
  exact ⟨a, dx, vs, rfl, ha, h1, h2⟩
theorem s_fld {fl : Str} {da : DE} (cs : List Str) (hF : FldOk X.K cA cs fl) (ha : PE X e (tD X.K cA ea W da)) (hb : attributeBase e fl X.env (eval e X.env) = eval e X.env := by rfl) : PE X (.Attribute e fl pos) (tD X.K cA ea W (dFld cs fl da)) := by
  refine PE.weak (pe_fld ha hb) fun σ H Q ⟨ρ, μ, M, hee, hmm, hr⟩ => ?_
  refine ⟨ρ, μ, M, hee, hmm, hr.bind.imp fun t M1 μ1 H1 hp hx hm1 h1 x rx => ?_⟩
  cases t with
  | ob n =>
    simp only [fldT] at h1
    cases e1 : M1[n]? with
    | none => simp only [e1] at h1; exact h1.elim
    | some c =>
      cases c with
      | ins c fs =>
        simp only [e1] at h1
        by_cases hc : c ∈ cs
        · rw [if_pos hc] at h1
          cases e2 : fs.lookup fl with
          | none => simp only [e2] at h1; exact h1.elim
          | some u =>
            simp only [e2] at h1
            obtain ⟨a, dx, vs, rfl, _, g1, g2⟩ := hm1.ins e1 rx
            obtain ⟨v, e3, rv⟩ := g2.lookup e2
            exact ⟨a, cA c, dx, vs, v, rfl, g1, (hF c hc).1, (hF c hc).2, e3, h1.val hm1 rv⟩
        · rw [if_neg hc] at h1; exact h1.elim
      | _ => simp only [e1] at h1; exact h1.elim
  | _ => exact h1.elim
theorem z_fld {fl : Str} {dv dO : DE} {pos' : Pos} {value : Expr} (cs : List Str) (hF : FldOk X.K cA cs fl) (ho : PE X o (tD X.K cA ea W dO)) (hv : PE X value (tD X.K cA ea W dv)) (hs : swapsWith value (some (.Attribute o fl pos')) pos.line X.env = pure false := by rfl) :
    PS X (.Assign [.Attribute o fl pos'] value pos) (tDS X.K cA ea W (dSetF cs fl dv dO)) := by
  refine PS.weak (ps_fld ho hv hs) fun D σ H ⟨ρ, μ, M, he, hm, hr⟩ => ?_
  refine ⟨ρ, μ, M, he, hm, (unS he hr).imp fun t M1 μ1 H1 hp hx hm1 h1 y ry => ?_⟩
  have he1 := he.mono hp hx
  refine ⟨ρ, μ1, M1, he1, hm1, (unS he1 h1).imp fun u M2 μ2 H2 hp2 hx2 hm2 h2 x rx => ?_⟩
  have he2 := he1.mono hp2 hx2
  have ry2 := ry.mono hp2 hx2
  cases u with
  | ob n =>
    simp only [setFldT] at h2
    cases e1 : M2[n]? with
    | none => simp only [e1] at h2; exact h2.elim
    | some c =>
      cases c with
      | ins c fs =>
        simp only [e1] at h2
        by_cases hc : c ∈ cs ∧ fs.length < 1000
        · rw [if_pos hc] at h2
          obtain ⟨a, dx, vs, rfl, ha, g1, g2⟩ := hm2.ins e1 rx
          refine ⟨a, cA c, dx, vs, rfl, g1, (hF c hc.1).1, (hF c hc.1).2, by rw [← g2.length]; exact hc.2, ?_⟩
          have hx3 : Ext H2 (upd H2 a (.ins (cA c) dx (putF fl y vs))) := Ext.write (by rw [g1]; trivial)
          exact h2 σ μ2 _ (List.prefix_refl _) hx3 (hm2.set ha e1 rfl rfl ⟨dx, _, upd_same, RF.mono (List.prefix_refl _) hx3 (RF.put ry2 g2)⟩) (he2.mono (List.prefix_refl _) hx3)
        · rw [if_neg hc] at h2; exact h2.elim
      | _ => simp only [e1] at h2; exact h2.elim
  | _ => exact h2.elim

/-! ### methods -/
/-- o.m(..) where o is an instance of the class c without an attribute m of its own -/
def isIns (c m : Str) (t : T) (M : Mem) : Bool := match t with
  | .ob n => (match M[n]? with
    | some (.ins c' fs) => decide (c' = c) && decide (fs.lookup m = none)
    | _ => false)
  | _ => false
theorem isIns_ok {K : PySem.W.Frag} {μ : List Addr} {M : Mem} {H : Hp} {c m : Str} {t : T} {v : V} (hm : RM K cA μ M H) (h : isIns c m t M = true) (rv : RV K μ H t v) : ∃ a dx vs, v = .ref a ∧ H a = some (.ins (cA c) dx vs) ∧ vs.lookup m = none := by
  cases t with
  | ob n =>
    unfold isIns at h
    cases e1 : M[n]? with
    | none => simp [e1] at h
    | some cc =>
      cases cc with
      | ins c' fs =>
        simp only [e1, Bool.and_eq_true, decide_eq_true_eq] at h
        obtain ⟨rfl, h2⟩ := h
        obtain ⟨a, dx, vs, rfl, _, g1, g2⟩ := hm.ins e1 rv
        exact ⟨a, dx, vs, rfl, g1, RF.lookup_none g2 h2⟩
      | _ => simp [e1] at h
  | _ => cases h
/-- a method of an own class, called -/
theorem s_meth {pl : Sem Bool} {dO : DE} {m : Str} (cn : Cn X W j) (c : Str) (hcl : Cls X.K (cA c)) (hme : Meth X.K (cA c) m f) (F : FnF X.prog X.w X.K X.mg X.base cA k f g) (hk : k ≤ j) (ho : PE X o (tD X.K cA ea W dO)) (ha : PA X (e :: es) (tDA X.K cA ea W d))
    (hst : starEach (e :: es) X.env = (false, eval e X.env) :: starEach es X.env := by rfl) (hpl : (backTo pos (starEach es X.env)).any (·.1) = false := by rfl)
    (ht : eval (.Call (.Attribute o m apos) (e :: es) [] pos) X.env = (do
      let ov ← eval o X.env
      standAt apos.atName
      let (f, first) ← holding [ov] (getMethod ov m pl)
      callWith pos f first (backTo pos (starEach (e :: es) X.env)) (backToKw pos (keywordEach [] X.env))) := by rfl) :
    PE X (.Call (.Attribute o m apos) (e :: es) [] pos) (tD X.K cA ea W (dMeth (isIns c m) g dO d)) := by
  obtain ⟨fd, ps, kp, b, F⟩ := F.ex
  refine ⟨fun pins s σ H Q I ⟨ρ, μ, M, hee, hmm, hr⟩ => ?_⟩
  refine PySem.W.methodCall_KW (pl := pl) (thn (ho.run pins s σ H (fun x H1 => ∃ μ M t, isIns c m t M = true ∧ RV X.K μ H1 t x ∧ RM X.K cA μ M H1 ∧ RE X.K cA ea μ H1 ρ σ ∧ Run X.K cA W σ μ H1 ((d ρ M).bind fun ts M2 => g (t :: ts) M2) (QV X.K Q)) I ⟨ρ, μ, M, hee, hmm, hr.bind.imp fun t M1 μ1 H1 hp hx hm1 h1 x rx => ?_⟩) fun u s1 ⟨x, H1, I1, rx, μ1, M1, t, ct, rt, hm1, he1, q⟩ => ?_) ht
  · by_cases hc : isIns c m t M1 = true
    · rw [if_pos hc] at h1
      exact ⟨μ1, M1, t, hc, rx, hm1, hee.mono hp hx, h1⟩
    · rw [if_neg hc] at h1; exact h1.elim
  · obtain ⟨a, dx, fs, ex, ea', l⟩ := isIns_ok hm1 ct rt
    subst ex
    obtain rfl : u = Value.ref a := rx
    refine getmeth_ok I1 ea' hcl hme l ?_
    refine PySem.W.callWith_K (first := [.ref a]) (h₀ := X.base) I.ok.mod.kin hme.kp (thn (ha.run pos pins s1 σ H1 (fun vs H2 => spD X.K cA g (.ref a :: vs) H2 Q (WE W σ)) I1 ⟨ρ, μ1, M1, he1, hm1, q.bind.imp fun ts M2 μ2 H2 hp2 hx2 hm2 h2 xs rxs => Run.sp (RVs.cons (rt.mono hp2 hx2) rxs) hm2 h2⟩) fun us s2 ⟨vs, H2, I2, r, q2⟩ => ⟨I2.kIn, ?_⟩) hst hpl
    exact run_fnS (us := .ref a :: us) (vs := .ref a :: vs) F (cn.hr.mono hk) b (passAt cn.tk σ) I2 (.cons rfl r) q2
theorem s_meth0 {pl : Sem Bool} {dO : DE} {m : Str} (cn : Cn X W j) (c : Str) (hcl : Cls X.K (cA c)) (hme : Meth X.K (cA c) m f) (F : FnF X.prog X.w X.K X.mg X.base cA k f g) (hk : k ≤ j) (ho : PE X o (tD X.K cA ea W dO))
    (ht : eval (.Call (.Attribute o m apos) [] [] pos) X.env = (do
      let ov ← eval o X.env
      standAt apos.atName
      let (f, first) ← holding [ov] (getMethod ov m pl)
      callWith pos f first (backTo pos (starEach [] X.env)) (backToKw pos (keywordEach [] X.env))) := by rfl) :
    PE X (.Call (.Attribute o m apos) [] [] pos) (tD X.K cA ea W (dMeth (isIns c m) g dO dNilA)) := by
  obtain ⟨fd, ps, kp, b, F⟩ := F.ex
  refine ⟨fun pins s σ H Q I ⟨ρ, μ, M, hee, hmm, hr⟩ => ?_⟩
  refine PySem.W.methodCall_KW (pl := pl) (thn (ho.run pins s σ H (fun x H1 => ∃ μ M t, isIns c m t M = true ∧ RV X.K μ H1 t x ∧ RM X.K cA μ M H1 ∧ Run X.K cA W σ μ H1 (g [t] M) (QV X.K Q)) I ⟨ρ, μ, M, hee, hmm, hr.bind.imp fun t M1 μ1 H1 hp hx hm1 h1 x rx => ?_⟩) fun u s1 ⟨x, H1, I1, rx, μ1, M1, t, ct, rt, hm1, q⟩ => ?_) ht
  · by_cases hc : isIns c m t M1 = true
    · rw [if_pos hc] at h1
      exact ⟨μ1, M1, t, hc, rx, hm1, h1⟩
    · rw [if_neg hc] at h1; exact h1.elim
  · obtain ⟨a, dx, fs, ex, ea', l⟩ := isIns_ok hm1 ct rt
    subst ex
    obtain rfl : u = Value.ref a := rx
    refine getmeth_ok I1 ea' hcl hme l ?_
    exact PySem.W.callWith_K0 (first := [.ref a]) I1.kIn hme.kp (run_fnS (us := [.ref a]) (vs := [.ref a]) F (cn.hr.mono hk) b (passAt cn.tk σ) I1 (.cons rfl .nil) (Run.sp (RVs.cons rt .nil) hm1 q))

/-! ### instances made -/
/-- C(..): a new cell, then its __init__ g -/
def dMake (c : Str) (g : FD) (a : DA) : DE := fun ρ M => (a ρ M).bind fun ts M1 => (g (.ob M1.length :: ts) (M1 ++ [.ins c []])).bind fun t M2 => if t = .non then .ok (.ob M1.length) M2 else .no
theorem keep_two {H : Hp} {x dx : Addr} {o u : HO} (hx : H x = none) (hd : H dx = none) : ∀ a v, H a = some v → upd (upd H dx o) x u a = some v := fun a v e => by
  rw [upd_ne (ne_of_none e hx), upd_ne (ne_of_none e hd)]; exact e
theorem run_mk {pins : List (Addr × Obj)} {σ : L2.St} {H : Hp} {μ : List Addr} {M : Mem} {ts : List T} {s : Shared} {Q : VK} {us : List Value} {vs : List V} {c : Str} {fI : Addr} {fd : FuncData} {ps : List Str} (cn : Cn X W j) (MK : Mk X.K (cA c) fI) (F : FnOk X.prog X.w X.K X.mg X.base (L2.CX X.prog X.w) k fI fd ps (spD X.K cA g)) (hk : k + 1 ≤ j) (hb : Binds X.K fd ps [])
    (I : Inv X pins σ H s) (r : Vals vs us) (rv : RVs X.K μ H ts vs) (hm : RM X.K cA μ M H) (h : Run X.K cA W σ μ H ((g (.ob M.length :: ts) (M ++ [.ins c []])).bind fun t M2 => if t = .non then .ok (.ob M.length) M2 else .no) (QV X.K Q)) :
    wpAny (model X.prog X.w) X.A (call (.ref (cA c)) us) (EP X pins σ Q) X.xe s := by
  have hx0 : H (s.heap.objs.size + 1) = none := I.hok.fresh (Nat.le_succ _)
  have hd0 : H s.heap.objs.size = none := I.hok.fresh (Nat.le_refl _)
  generalize hH2 : upd (upd H s.heap.objs.size (.own (s.heap.objs.size + 1))) (s.heap.objs.size + 1) (.ins (cA c) s.heap.objs.size []) = H2
  have kp := keep_two (o := .own (s.heap.objs.size + 1)) (u := .ins (cA c) s.heap.objs.size []) hx0 hd0
  rw [hH2] at kp
  have hx : Ext H H2 := fun a o e _ => kp a o e
  have hm2 : RM X.K cA (μ ++ [s.heap.objs.size + 1]) (M ++ [.ins c []]) H2 := hm.new hx (fun a o e _ => kp a o e) hx0 rfl ⟨s.heap.objs.size, [], by rw [← hH2]; exact upd_same, rfl⟩
  have hpre : μ <+: μ ++ [s.heap.objs.size + 1] := List.prefix_append _ _
  have rt : RV X.K (μ ++ [s.heap.objs.size + 1]) H2 (.ob M.length) (.ref (s.heap.objs.size + 1)) := by
    rw [RV]
    exact ⟨_, rfl, by rw [← hm.len, List.getElem?_append_right (Nat.le_refl _), Nat.sub_self]; rfl⟩
  have hq : spD X.K cA g (.ref (s.heap.objs.size + 1) :: vs) H2 (fun v H3 => v = .non ∧ Q (.ref (s.heap.objs.size + 1)) H3) (WE W σ) := by
    refine ⟨_, _, _, RVs.cons rt (rv.mono hpre hx), hm2, ?_⟩
    have h1 := (Run.mono hpre hx h).bind
    cases q : g (.ob M.length :: ts) (M ++ [.ins c []]) with
    | ok t M' =>
      rw [q] at h1
      intro μ' H' p1 x1 m1 x rx
      have h2 := h1.ok p1 x1 m1
      by_cases ht : t = .non
      · subst ht
        rw [if_pos rfl] at h2
        rw [RV] at rx
        exact ⟨rx, h2.val m1 (rt.mono p1 x1)⟩
      · rw [if_neg ht] at h2; exact h2.elim
    | ex x M' => rw [q] at h1; exact h1
    | no => rw [q] at h1; exact h1
  have I2 := Inv.made (C := cA c) I
  rw [hH2] at I2
  have r2 : Vals (V.ref (s.heap.objs.size + 1) :: vs) (Value.ref (s.heap.objs.size + 1) :: us) := .cons rfl r
  have hl : (Value.ref (s.heap.objs.size + 1) :: us).length = ps.length := by
    have e := r2.length
    rw [F.len _ _ _ _ hq] at e
    exact e.symm
  have b := hb _ (Value.ref (s.heap.objs.size + 1) :: us) I2.kIn (by rw [List.append_nil]; exact hl)
  rw [List.append_nil] at b
  refine wpAny_call (make_map (f := fI) I.kIn MK.makes MK.init (beq_iff_eq.mp MK.fn) (codeAny_mono (F.run _ X.stack _ _ ⟨Value.ref (s.heap.objs.size + 1) :: us, []⟩ (Value.ref (s.heap.objs.size + 1) :: us) _ _ (WE W σ) ((cn.hr.mono hk).make (cA c) us [])
    (I2.env0.make (cA c) us []) b r2 hq) fun r s' hq' => ?_))
  cases r with
  | error e => exact passAt cn.tk σ pins _ _ e s' I2 hq'
  | ok fl =>
    cases fl with
    | ret u =>
      obtain ⟨v, H', I3, rv, ev, q3⟩ := I2.after hq'
      subst ev
      exact ⟨rv, ⟨V.ref (s.heap.objs.size + 1), H', I3, rfl, q3⟩⟩
    | next => exact False.elim hq'
    | brk => exact False.elim hq'
    | cont => exact False.elim hq'
theorem s_make {c : Str} {fI : Addr} (cn : Cn X W j) (MK : Mk X.K (cA c) fI) (F : FnF X.prog X.w X.K X.mg X.base cA k fI g) (hk : k + 1 ≤ j) (hm : X.mg c = some (.ref (cA c))) (ha : PA X (e :: es) (tDA X.K cA ea W d)) (hg : Gl X c := by rfl)
    (hdb : (c == ("__debug__" : Str)) = false := by decide) (he : starEach (e :: es) X.env = (false, eval e X.env) :: starEach es X.env := by rfl) (hpl : (backTo pos (starEach es X.env)).any (·.1) = false := by rfl) :
    PE X (.Call (.Name c p) (e :: es) [] pos) (tD X.K cA ea W (dMake c g d)) := by
  obtain ⟨fd, ps, kp, b, F⟩ := F.ex
  refine ⟨fun pins s σ H Q I ⟨ρ, μ, M, hee, hmm, hr⟩ => ?_⟩
  refine wpAny_Call_Name_kw (ld_glob I hg hm ?_ hdb)
  refine PySem.W.callWith_K (h₀ := X.base) I.ok.mod.kin MK.kp (thn (ha.run pos pins s σ H (fun vs H1 => ∃ μ M ts, RVs X.K μ H1 ts vs ∧ RM X.K cA μ M H1 ∧ Run X.K cA W σ μ H1 ((g (.ob M.length :: ts) (M ++ [.ins c []])).bind fun t M2 => if t = .non then .ok (.ob M.length) M2 else .no) (QV X.K Q)) I ⟨ρ, μ, M, hee, hmm, hr.bind.imp fun ts M1 μ1 H1 _ _ hm1 h1 xs rx => ⟨μ1, M1, ts, rx, hm1, h1⟩⟩) fun us s1 ⟨vs, H1, I1, r, μ1, M1, ts, rv, hm1, h1⟩ => ⟨I1.kIn, ?_⟩) he hpl
  exact run_mk cn MK F hk b I1 r rv hm1 h1
theorem s_make0 {c : Str} {fI : Addr} (cn : Cn X W j) (MK : Mk X.K (cA c) fI) (F : FnF X.prog X.w X.K X.mg X.base cA k fI g) (hk : k + 1 ≤ j) (hm : X.mg c = some (.ref (cA c))) (hg : Gl X c := by rfl)
    (hdb : (c == ("__debug__" : Str)) = false := by decide) : PE X (.Call (.Name c p) [] [] pos) (tD X.K cA ea W (dMake c g dNilA)) := by
  obtain ⟨fd, ps, kp, b, F⟩ := F.ex
  refine ⟨fun pins s σ H Q I ⟨ρ, μ, M, hee, hmm, hr⟩ => ?_⟩
  refine wpAny_Call_Name_kw (ld_glob I hg hm ?_ hdb)
  exact PySem.W.callWith_K0 I.kIn MK.kp (run_mk cn MK F hk b I .nil .nil hmm hr)
end
end DN

namespace DN
open PySem PySem.Spec L2

/-! ### what a loop walks: what must stay so, the items -/
abbrev Wk := (Mem → Bool) × List T
abbrev DW := Ev → Mem → R Wk
/-- the iterator J yields the items ts while chk holds -/
structure WalkOk (K : PySem.W.Frag) (cA : Str → Addr) (μ0 : List Addr) (H0 : Hp) (J : It) (w : Wk) : Prop where
  go : ∀ (i : Nat) (u : T) (μ : List Addr) (M : Mem) (H : Hp), μ0 <+: μ → Ext H0 H → RM K cA μ M H → w.1 M = true → w.2[i]? = some u → J.go i H
  yld : ∀ (i : Nat) (u : T) (μ : List Addr) (M : Mem) (H : Hp) (x : V) (H' : Hp), μ0 <+: μ → Ext H0 H → RM K cA μ M H → w.1 M = true → w.2[i]? = some u → J.yld i H x H' → Ext H H' ∧ RM K cA μ M H' ∧ RV K μ H' u x
  stop : ∀ (μ : List Addr) (M : Mem) (H : Hp), μ0 <+: μ → Ext H0 H → RM K cA μ M H → w.1 M = true → J.stop w.2.length H
def tW (K : PySem.W.Frag) (cA : Str → Addr) (ea : Option EA) (W : WX) (d : DW) : TI := fun σ H R => ∃ ρ μ M, RE K cA ea μ H ρ σ ∧ RM K cA μ M H ∧ Run K cA W σ μ H (d ρ M) (fun w M1 μ1 H1 => ∀ J, WalkOk K cA μ1 H1 J w → R J H1)
def seqChk (t : T) (ts : List T) (M : Mem) : Bool := decide (itemsT t M = some ts)
def wSeq (d : DE) : DW := fun ρ M => (d ρ M).bind fun t M1 => match itemsT t M1 with
  | some ts => .ok (seqChk t ts, ts) M1
  | none => .no
def rngT (lo : Int) (n : Nat) : List T := (List.range n).map fun (i : Nat) => .int (lo + i)
def wRng (a : DA) : DW := fun ρ M => (a ρ M).bind fun ts M1 => match ts with
  | [.int j] => if -(2 ^ 62) ≤ j ∧ j < 2 ^ 62 then .ok (fun _ => true, rngT 0 j.toNat) M1 else .no
  | [.int i, .int j] => if -(2 ^ 62) ≤ i ∧ i < 2 ^ 62 ∧ -(2 ^ 62) ≤ j ∧ j < 2 ^ 62 then .ok (fun _ => true, rngT i (j - i).toNat) M1 else .no
  | _ => .no
def enumT (ts : List T) : List T := (List.range ts.length).map fun (i : Nat) => .tup [.int i, ts.getD i .non]
/-- enumerate of a list or tuple -/
def wEnum (a : DA) : DW := fun ρ M => (a ρ M).bind fun ts M1 => match ts with
  | [t] => (match seqT t M1 with
    | some us => .ok (fun M => decide (seqT t M = some us), enumT us) M1
    | none => .no)
  | _ => .no
section
variable {X : Cx} {cA : Str → Addr} {ea : Option EA} {W : WX} {tg l : Expr}
theorem PI.weak {e : Expr} {t t' : TI} (h : PI X tg e t) (w : ∀ σ H R, t' σ H R → t σ H R) : PI X tg e t' := ⟨fun pins s σ H R I q => h.run pins s σ H R I (w σ H R q)⟩
section
variable {K : PySem.W.Frag} {μ : List Addr} {H : Hp} {M : Mem}
theorem walk_l {n : Nat} {a : Addr} {ts : List T} (ha : μ[n]? = some a) : WalkOk K cA μ H (Itl K a) (seqChk (.ob n) ts, ts) := by
  have at_ : ∀ {μ' : List Addr} {M' : Mem} {H' : Hp}, μ <+: μ' → RM K cA μ' M' H' → seqChk (.ob n) ts M' = true → ∃ xs, SqL K H' a xs ∧ RVs K μ' H' ts xs := fun {μ' M' H'} hp hm hc => by
    have e : itemsT (.ob n) M' = some ts := of_decide_eq_true hc
    have rv : RV K μ' H' (.ob n) (.ref a) := by rw [RV]; exact ⟨a, rfl, pre_get hp ha⟩
    obtain ⟨b, xs, e1, _, h2, _, h4⟩ := hm.seq (t := .ob n) e rv
    cases e1
    exact ⟨xs, h4 ⟨_, rfl⟩, h2⟩
  refine ⟨fun i u μ' M' H' hp _ hm hc e => ?_, fun i u μ' M' H' x H2 hp _ hm hc e hy => ?_, fun μ' M' H' hp _ hm hc => ?_⟩
  · obtain ⟨xs, h1, h2⟩ := at_ hp hm hc
    obtain ⟨v, e1, _⟩ := h2.get e
    exact ⟨xs, v, h1, e1⟩
  · obtain ⟨xs, h1, h2⟩ := at_ hp hm hc
    obtain ⟨v, e1, rv⟩ := h2.get e
    obtain ⟨e2, e3⟩ := hy
    subst e2
    rw [e3 xs h1] at e1
    cases e1
    exact ⟨Ext.refl _, hm, rv⟩
  · obtain ⟨xs, h1, h2⟩ := at_ hp hm hc
    exact ⟨xs, h1, Nat.le_of_eq h2.length.symm⟩
theorem walk_t {a : Addr} {ts : List T} {xs : List V} {chk : Mem → Bool} (h1 : SqT K H a xs) (h2 : RVs K μ H ts xs) : WalkOk K cA μ H (Itt K a) (chk, ts) := by
  refine ⟨fun i u μ' M' H' hp hx hm hc e => ?_, fun i u μ' M' H' x H2 hp hx hm hc e hy => ?_, fun μ' M' H' hp hx hm hc => ?_⟩
  · obtain ⟨v, e1, _⟩ := h2.get e
    exact ⟨xs, v, hx.tup h1, e1⟩
  · obtain ⟨v, e1, rv⟩ := h2.get e
    obtain ⟨e2, e3⟩ := hy
    subst e2
    rw [e3 xs (hx.tup h1)] at e1
    cases e1
    exact ⟨Ext.refl _, hm, rv.mono hp hx⟩
  · exact ⟨xs, hx.tup h1, Nat.le_of_eq h2.length.symm⟩
theorem walk_s {z : Str} {chk : Mem → Bool} : WalkOk K cA μ H (Its z) (chk, signsT z) := by
  have sz : (signsT z).length = z.cps.size := by simp [signsT]
  refine ⟨fun i u μ' M' H' _ _ _ _ e => ?_, fun i u μ' M' H' x H2 _ _ hm _ e hy => ?_, fun μ' M' H' _ _ _ _ => ?_⟩
  · have := (List.getElem?_eq_some_iff.mp e).1
    rw [sz] at this
    exact this
  · obtain ⟨e2, c, e3, e4⟩ := hy
    subst e2 e4
    refine ⟨Ext.refl _, hm, ?_⟩
    simp only [signsT, List.getElem?_map, Array.getElem?_toList, e3, Option.map_some, Option.some.injEq] at e
    subst e
    rw [RV]
  · show z.cps.size ≤ (signsT z).length
    rw [sz]; exact Nat.le_refl _
theorem walk_r {lo : Int} {n : Nat} {chk : Mem → Bool} : WalkOk K cA μ H (Itr lo n) (chk, rngT lo n) := by
  have sz : (rngT lo n).length = n := by simp [rngT]
  refine ⟨fun i u μ' M' H' _ _ _ _ e => ?_, fun i u μ' M' H' x H2 _ _ hm _ e hy => ?_, fun μ' M' H' _ _ _ _ => ?_⟩
  · have := (List.getElem?_eq_some_iff.mp e).1
    rw [sz] at this
    exact this
  · obtain ⟨e2, e3⟩ := hy
    subst e2 e3
    refine ⟨Ext.refl _, hm, ?_⟩
    have hi := (List.getElem?_eq_some_iff.mp e).1
    rw [sz] at hi
    simp [rngT, hi] at e
    subst e
    rw [RV]
  · show n ≤ (rngT lo n).length
    rw [sz]; exact Nat.le_refl _
end
/-- any list, tuple or text walked: which of them it is stands in what the expression tells -/
theorem w_seq {d : DE} (hl : PE X l (tD X.K cA ea W d)) : PI X tg l (tW X.K cA ea W (wSeq d)) := by
  refine ⟨fun pins s σ H R I ⟨ρ, μ, M, he, hm, hr⟩ => ?_⟩
  have h1 := hr.bind
  cases q : d ρ M with
  | no => rw [q] at h1; exact h1.elim
  | ex x M1 =>
    rw [q] at h1
    exact (pi_list (tg := tg) hl).run pins s σ H R I ⟨ρ, μ, M, he, hm, by rw [q]; exact h1⟩
  | ok t M1 =>
    rw [q] at h1
    cases t with
    | str z =>
      refine (pi_str (tg := tg) hl).run pins s σ H R I ⟨ρ, μ, M, he, hm, ?_⟩
      rw [q]
      intro μ1 H1 hp hx hm1 x rx
      rw [RV] at rx
      exact ⟨z, rx, (h1.ok hp hx hm1).ok0 hm1 _ walk_s⟩
    | tup ts =>
      refine (pi_tup (tg := tg) hl).run pins s σ H R I ⟨ρ, μ, M, he, hm, ?_⟩
      rw [q]
      intro μ1 H1 hp hx hm1 x rx
      rw [RV] at rx
      obtain ⟨a, xs, rfl, g1, g2⟩ := rx
      exact ⟨a, rfl, ⟨xs, g1⟩, (h1.ok hp hx hm1).ok0 hm1 _ (walk_t g1 g2)⟩
    | ob n =>
      refine (pi_list (tg := tg) hl).run pins s σ H R I ⟨ρ, μ, M, he, hm, ?_⟩
      rw [q]
      intro μ1 H1 hp hx hm1 x rx
      have h2 := h1.ok hp hx hm1
      cases e : itemsT (.ob n) M1 with
      | none => simp only [e] at h2; exact h2.elim
      | some ts =>
        simp only [e] at h2
        have rx' := rx
        rw [RV] at rx
        obtain ⟨a, rfl, ha⟩ := rx
        obtain ⟨b, xs, e1, _, _, _, h4⟩ := hm1.seq (t := .ob n) e rx'
        cases e1
        exact ⟨a, rfl, ⟨xs, h4 ⟨_, rfl⟩⟩, h2.ok0 hm1 _ (walk_l ha)⟩
    | _ =>
      refine (pi_list (tg := tg) hl).run pins s σ H R I ⟨ρ, μ, M, he, hm, ?_⟩
      rw [q]
      intro μ1 H1 hp hx hm1 x rx
      exact (h1.ok hp hx hm1).elim
theorem w_rng1 {a : Expr} {d : DA} {p pos : Pos} (hm : X.mg "range" = none) (ha : PA X [a] (tDA X.K cA ea W d)) (hg : Gl X "range" := by rfl) (hs : starEach [a] X.env = [(false, eval a X.env)] := by rfl) (h1 : ∀ ρ M ts M', d ρ M = .ok ts M' → ts.length = 1) :
    PI X tg (.Call (.Name "range" p) [a] [] pos) (tW X.K cA ea W (wRng d)) := by
  refine PI.weak (pi_range1 hg hm ha hs) fun σ H R ⟨ρ, μ, M, he, hmm, hr⟩ => ?_
  refine ⟨ρ, μ, M, he, hmm, ?_⟩
  have hr := hr.bind
  cases q : d ρ M with
  | no => rw [q] at hr; exact hr.elim
  | ex x M' => rw [q] at hr; exact hr
  | ok ts M1 =>
    rw [q] at hr
    intro μ1 H1 hp hx hm1 xs rx
    have h2 := hr.ok hp hx hm1
    have hl := h1 _ _ _ _ q
    cases ts with
    | nil => cases hl
    | cons t r =>
      cases r with
      | cons _ _ => cases hl
      | nil =>
        obtain ⟨x, rfl, r1⟩ := rx.one
        cases t with
        | int j =>
          rw [RV] at r1
          subst r1
          by_cases hb : -(2 ^ 62) ≤ j ∧ j < 2 ^ 62
          · simp only [if_pos hb] at h2
            exact ⟨j, rfl, hb.1, hb.2, h2.ok0 hm1 _ walk_r⟩
          · simp only [if_neg hb] at h2; exact h2.elim
        | _ => exact h2.elim
theorem w_rng2 {a b : Expr} {d : DA} {p pos : Pos} (hm : X.mg "range" = none) (ha : PA X [a, b] (tDA X.K cA ea W d)) (hg : Gl X "range" := by rfl) (hs : starEach [a, b] X.env = [(false, eval a X.env), (false, eval b X.env)] := by rfl) (hs2 : starEach [b] X.env = [(false, eval b X.env)] := by rfl) (h1 : ∀ ρ M ts M', d ρ M = .ok ts M' → ts.length = 2) :
    PI X tg (.Call (.Name "range" p) [a, b] [] pos) (tW X.K cA ea W (wRng d)) := by
  refine PI.weak (pi_range2 hg hm ha hs hs2) fun σ H R ⟨ρ, μ, M, he, hmm, hr⟩ => ?_
  refine ⟨ρ, μ, M, he, hmm, ?_⟩
  have hr := hr.bind
  cases q : d ρ M with
  | no => rw [q] at hr; exact hr.elim
  | ex x M' => rw [q] at hr; exact hr
  | ok ts M1 =>
    rw [q] at hr
    intro μ1 H1 hp hx hm1 xs rx
    have h2 := hr.ok hp hx hm1
    have hl := h1 _ _ _ _ q
    cases ts with
    | nil => cases hl
    | cons t r =>
      cases r with
      | nil => cases hl
      | cons u r =>
        cases r with
        | cons _ _ => cases hl
        | nil =>
          obtain ⟨x, y, rfl, r1, r2⟩ := rx.two
          cases t with
          | int i =>
            cases u with
            | int j =>
              rw [RV] at r1; rw [RV] at r2
              subst r1 r2
              by_cases hb : -(2 ^ 62) ≤ i ∧ i < 2 ^ 62 ∧ -(2 ^ 62) ≤ j ∧ j < 2 ^ 62
              · simp only [if_pos hb] at h2
                exact ⟨i, j, rfl, hb, h2.ok0 hm1 _ walk_r⟩
              · simp only [if_neg hb] at h2; exact h2.elim
            | _ => exact h2.elim
          | _ => exact h2.elim
theorem len1 {d : DE} : ∀ ρ M ts M', dConsA d dNilA ρ M = .ok ts M' → ts.length = 1 := fun ρ M ts M' h => by
  unfold dConsA dNilA at h
  cases q : d ρ M with
  | ok t M1 => simp [q, R.bind] at h; rw [← h.1]; rfl
  | ex x M1 => simp [q, R.bind] at h
  | no => simp [q, R.bind] at h
theorem len2 {d d' : DE} : ∀ ρ M ts M', dConsA d (dConsA d' dNilA) ρ M = .ok ts M' → ts.length = 2 := fun ρ M ts M' h => by
  unfold dConsA dNilA at h
  cases q : d ρ M with
  | ok t M1 =>
    cases q2 : d' ρ M1 with
    | ok t2 M2 => simp [q, q2, R.bind] at h; rw [← h.1]; rfl
    | ex x M2 => simp [q, q2, R.bind] at h
    | no => simp [q, q2, R.bind] at h
  | ex x M1 => simp [q, R.bind] at h
  | no => simp [q, R.bind] at h
end

/-! ### for -/
def RS.turn (r : RS) (f : Ev → Mem → RS) : RS := match r with
  | .nx ρ M => f ρ M
  | .ct ρ M => f ρ M
  | .bk ρ M => .nx ρ M
  | r => r
def loopF (chk : Mem → Bool) (g : DG) (b : DS) : List T → Ev → Mem → RS
  | [], ρ, M => if chk M = true then .nx ρ M else .no
  | u :: us, ρ, M => if chk M = true then ((g u ρ M).only).bind fun ρ1 M1 => (b ρ1 M1).turn (loopF chk g b us) else .no
def dFor (w : DW) (g : DG) (b : DS) : DS := fun ρ M => (w ρ M).toS ρ fun w M1 => loopF w.1 g b w.2 ρ M1
def whileF (c : DB) (b : DS) : Nat → Ev → Mem → RS
  | 0, _, _ => .no
  | n + 1, ρ, M => (c ρ M).toS ρ fun x M1 => if x = true then (b ρ M1).turn (whileF c b n) else .nx ρ M1
def dWhile (n : Nat) (c : DB) (b : DS) : DS := whileF c b n
section
variable {X : Cx} {cA : Str → Addr} {ea : Option EA} {W : WX} {k : Nat} {D : Ends} {μ : List Addr} {H : Hp}
theorem RunS.turn {r : RS} {f : Ev → Mem → RS} (N : L2.St → Hp → Prop) (hN : ∀ σ' H' ρ' μ' M', μ <+: μ' → Ext H H' → RE X.K cA ea μ' H' ρ' σ' → RM X.K cA μ' M' H' → RunS X.K cA ea W μ' H' (f ρ' M') D → N σ' H') (h : RunS X.K cA ea W μ H (r.turn f) D) :
    RunS X.K cA ea W μ H r { D with nx := N, ct := N, bk := D.nx } := by
  cases r with
  | nx ρ M => exact fun σ' μ' H' hp hx hm he => hN σ' H' ρ μ' M hp hx he hm (RunS.mono hp hx h)
  | ct ρ M => exact fun σ' μ' H' hp hx hm he => hN σ' H' ρ μ' M hp hx he hm (RunS.mono hp hx h)
  | bk ρ M => exact h
  | rt t M => exact h
  | ex x ρ M => exact h
  | no => exact h
theorem RunS.only {r : RS} {f : Ev → Mem → RS} {Q : L2.St → Hp → Prop} (hQ : ∀ σ' H' ρ' μ' M', μ <+: μ' → Ext H H' → RE X.K cA ea μ' H' ρ' σ' → RM X.K cA μ' M' H' → RunS X.K cA ea W μ' H' (f ρ' M') D → Q σ' H') (h : RunS X.K cA ea W μ H (r.only.bind f) D) :
    RunS X.K cA ea W μ H r ⟨Q, fun _ _ => False, fun _ _ => False, fun _ _ => False⟩ := by
  cases r with
  | nx ρ M => exact fun σ' μ' H' hp hx hm he => hQ σ' H' ρ μ' M hp hx he hm (RunS.mono hp hx h)
  | ex x ρ M => exact h
  | _ => exact h.elim
theorem z_for {tg iter : Expr} {body : List Stmt} {w : DW} {g : DG} {b : DS} {pos : Pos} (cn : Cn X W k) (hi : PI X tg iter (tW X.K cA ea W w)) (hg : PG X tg (tDG X.K cA ea W g)) (hb : PSs X body (tDS X.K cA ea W b)) (hs : ∀ x, foldedSetIterable iter X.env x = pure x := by intro _; rfl) :
    PS X (.For tg iter body [] pos) (tDS X.K cA ea W (dFor w g b)) := by
  refine PS.weak (ps_for cn.po cn.calm hi hg hb hs) fun D σ H ⟨ρ, μ, M, he, hm, hr⟩ => ?_
  refine ⟨ρ, μ, M, he, hm, (unS he hr).imp fun wk M1 μ1 H1 hp hx hm1 h1 J wok => ?_⟩
  refine ⟨fun i m σ' H' => m = wk.2.length - i ∧ i ≤ wk.2.length ∧ ∃ ρ' μ' M', μ1 <+: μ' ∧ Ext H1 H' ∧ RE X.K cA ea μ' H' ρ' σ' ∧ RM X.K cA μ' M' H' ∧ RunS X.K cA ea W μ' H' (loopF wk.1 g b (wk.2.drop i) ρ' M') D,
    ⟨wk.2.length, by simp, Nat.zero_le _, ρ, μ1, M1, List.prefix_refl _, Ext.refl _, he.mono hp hx, hm1, h1⟩, ?_⟩
  rintro i m σ2 H2 ⟨rfl, hi, ρ2, μ2, M2, hp2, hx2, he2, hm2, h2⟩
  by_cases hlt : i < wk.2.length
  · rw [List.drop_eq_getElem_cons hlt] at h2
    have h2 : RunS X.K cA ea W μ2 H2 (if wk.1 M2 = true then ((g wk.2[i] ρ2 M2).only).bind fun ρ1 M1 => (b ρ1 M1).turn (loopF wk.1 g b (wk.2.drop (i + 1))) else .no) D := h2
    by_cases hc : wk.1 M2 = true
    · rw [if_pos hc] at h2
      have eu : wk.2[i]? = some wk.2[i] := List.getElem?_eq_getElem hlt
      refine .inr ⟨wok.go i _ μ2 M2 H2 hp2 hx2 hm2 hc eu, fun σ' H' => ∃ ρ' μ' M', μ1 <+: μ' ∧ Ext H1 H' ∧ RE X.K cA ea μ' H' ρ' σ' ∧ RM X.K cA μ' M' H' ∧ RunS X.K cA ea W μ' H' (loopF wk.1 g b (wk.2.drop (i + 1)) ρ' M') D,
        fun σ' H' ⟨ρ', μ', M', a1, a2, a3, a4, a5⟩ => ⟨wk.2.length - (i + 1), by omega, rfl, hlt, ρ', μ', M', a1, a2, a3, a4, a5⟩, fun x H3 hy => ?_⟩
      obtain ⟨hx3, hm3, rv⟩ := wok.yld i _ μ2 M2 H2 x H3 hp2 hx2 hm2 hc eu hy
      refine ⟨ρ2, μ2, M2, wk.2[i], he2.mono (List.prefix_refl _) hx3, hm3, rv, ?_⟩
      refine RunS.only (fun σ4 H4 ρ4 μ4 M4 hp4 hx4 he4 hm4 h4 => ?_) (RunS.mono (List.prefix_refl _) hx3 h2)
      refine ⟨ρ4, μ4, M4, he4, hm4, RunS.turn _ (fun σ5 H5 ρ5 μ5 M5 hp5 hx5 he5 hm5 h5 => ?_) h4⟩
      exact ⟨ρ5, μ5, M5, (hp2.trans hp4).trans hp5, ((hx2.trans hx3).trans hx4).trans hx5, he5, hm5, h5⟩
    · rw [if_neg hc] at h2; exact h2.elim
  · have ei : i = wk.2.length := by omega
    subst ei
    rw [List.drop_length] at h2
    have h2 : RunS X.K cA ea W μ2 H2 (if wk.1 M2 = true then .nx ρ2 M2 else .no) D := h2
    by_cases hc : wk.1 M2 = true
    · rw [if_pos hc] at h2
      exact .inl ⟨wok.stop μ2 M2 H2 hp2 hx2 hm2 hc, h2.nx hm2 he2⟩
    · rw [if_neg hc] at h2; exact h2.elim
theorem z_while {c : Expr} {body : List Stmt} {dc : DB} {b : DS} {pos : Pos} (n : Nat) (cn : Cn X W k) (hc : PT X c (tDB X.K cA ea W dc)) (hb : PSs X body (tDS X.K cA ea W b)) : PS X (.While c body [] pos) (tDS X.K cA ea W (dWhile n dc b)) := by
  refine PS.weak (ps_while cn.po hc hb) fun D σ H ⟨ρ, μ, M, he, hm, hr⟩ => ?_
  refine ⟨fun m σ' H' => ∃ ρ' μ' M', RE X.K cA ea μ' H' ρ' σ' ∧ RM X.K cA μ' M' H' ∧ RunS X.K cA ea W μ' H' (whileF dc b m ρ' M') D, ⟨n, ρ, μ, M, he, hm, hr⟩, ?_⟩
  rintro m σ2 H2 ⟨ρ2, μ2, M2, he2, hm2, h2⟩
  cases m with
  | zero => exact h2.elim
  | succ m =>
    refine ⟨ρ2, μ2, M2, he2, hm2, (unS he2 h2).imp fun x M3 μ3 H3 hp hx hm3 h3 => ?_⟩
    show if x = true then _ else _
    cases x with
    | true =>
      refine ⟨fun σ' H' => ∃ ρ' μ' M', RE X.K cA ea μ' H' ρ' σ' ∧ RM X.K cA μ' M' H' ∧ RunS X.K cA ea W μ' H' (whileF dc b m ρ' M') D, fun σ' H' q => ⟨m, Nat.lt_succ_self _, q⟩, ρ2, μ3, M3, he2.mono hp hx, hm3, RunS.turn _ (fun σ5 H5 ρ5 μ5 M5 hp5 hx5 he5 hm5 h5 => ⟨ρ5, μ5, M5, he5, hm5, h5⟩) h3⟩
    | false => exact h3.nx hm3 (he2.mono hp hx)
end

/-! ### list comprehensions -/
def wipeT (ρ : Ev) : List Nat → Ev
  | [] => ρ
  | v :: vs => (wipeT ρ vs).set v none
def loopC (chk : Mem → Bool) (g : DG) (c : DB) (e : DE) (ρ : Ev) (n : Nat) : List T → Mem → R T
  | [], M => if chk M = true then .ok (.ob n) M else .no
  | u :: us, M => if chk M = true then (match g u ρ M with
    | .nx ρ1 M1 => (match c ρ1 M1 with
      | .ok true M2 => (match e ρ1 M2 with
        | .ok y M3 => (match M3[n]? with
          | some (.lst acc) => if acc.length < sizeLine then loopC chk g c e ρ n us (M3.set n (.lst (acc ++ [y]))) else .no
          | _ => .no)
        | _ => .no)
      | .ok false M2 => loopC chk g c e ρ n us M2
      | _ => .no)
    | _ => .no) else .no
def dYes : DB := fun _ M => .ok true M
def dLc (w : DW) (vs : List Nat) (g : DG) (c : DB) (e : DE) : DE := fun ρ M => (w ρ M).bind fun w M1 => loopC w.1 g c e (wipeT ρ vs) M1.length w.2 (M1 ++ [.lst []])
abbrev W0 : WX := fun _ _ _ _ => False
section
variable {X : Cx} {cA : Str → Addr} {ea : Option EA} {W : WX} {k : Nat} {D : Ends} {μ : List Addr} {H : Hp}
theorem RE.wipe {K : PySem.W.Frag} {ρ : Ev} {σ : L2.St} (h : RE K cA none μ H ρ σ) : ∀ vs : List Nat, RE K cA none μ H (wipeT ρ vs) (wipe σ vs)
  | [] => h
  | v :: vs => by
    have ih := RE.wipe h vs
    unfold wipeT L2.wipe
    refine ⟨by rw [List.length_set, List.length_set]; exact ih.len, fun i u e => ?_, fun q e => nomatch e⟩
    by_cases q : v = i
    · subst q
      have hj : v < (wipeT ρ vs).length := by
        have := (List.getElem?_eq_some_iff.mp e).1
        rwa [List.length_set] at this
      rw [List.getElem?_set_self hj] at e
      cases e
    · rw [List.getElem?_set_ne q] at e ⊢
      exact ih.at_ i u e
/-- in a comprehension's block nothing is let out -/
theorem Cn.blk (cn : Cn X W k) (s : Shared) (H : Hp) (scope : Scope) (cenv : Env) (fp : List Addr) : Cn (X.blk s H scope cenv fp) W0 k :=
  ⟨fun _ _ x => by obtain ⟨_, _, _, _, _, _, _, _, _, _, _, _, _, _, _, _, z⟩ := x; exact z.elim, PassesOwn.never, cn.hr, cn.nd, cn.calm⟩
/-- a comprehension's target -/
structure LcT (K : PySem.W.Frag) (cA : Str → Addr) (g : DG) (tg : TG) (vs : List Nat) : Prop where
  run : ∀ (σ : L2.St) (μ : List Addr) (M : Mem) (H : Hp) (ρ : Ev) (t : T) (v : V) (ρ' : Ev) (M' : Mem) (Q : L2.St → Hp → Prop), RE K cA none μ H ρ (wipe σ vs) → RM K cA μ M H → RV K μ H t v → g t ρ M = .nx ρ' M' →
    (∀ σ2, RE K cA none μ H ρ' σ2 → RM K cA μ M' H → wipe σ2 vs = wipe σ vs → Q σ2 H) → tg v (wipe σ vs) H Q
theorem set_set' {α : Type} (l : List α) (i : Nat) (a b : α) : (l.set i a).set i b = l.set i b := by simp
theorem lcN {K : PySem.W.Frag} (i : Nat) : LcT K cA (gN i) (gName i) [i] := ⟨fun σ μ M H ρ t v ρ' M' Q he hm rv e hQ => by
  cases e
  refine hQ _ (he.set rv (fun _ e => nomatch e)) hm ?_
  show ((σ.set i none).set i (some v)).set i none = σ.set i none
  simp⟩
theorem lcT2 {K : PySem.W.Frag} (i j : Nat) (h : i ≠ j) : LcT K cA (gT 2 (gsC (gN i) (gsC (gN j) gsN))) (gTup K 2 (gCons (gName i) (gCons (gName j) gNil))) [i, j] := ⟨fun σ μ M H ρ t v ρ' M' Q he hm rv e hQ => by
  cases t with
  | tup ts =>
    rw [RV] at rv
    obtain ⟨a, xs, rfl, h1, h2⟩ := rv
    match ts, h2, e with
    | [t1, t2], h2, e =>
      obtain ⟨x, y, rfl, r1, r2⟩ := h2.two
      cases e
      refine ⟨a, [x, y], rfl, h1, rfl, x, [y], rfl, y, [], rfl, rfl, ?_⟩
      refine hQ _ ((he.set r1 (fun _ e => nomatch e)).set r2 (fun _ e => nomatch e)) hm ?_
      show ((((((σ.set j none).set i none).set i (some x)).set j (some y)).set j none).set i none) = (σ.set j none).set i none
      apply List.ext_getElem?
      intro k
      simp only [List.getElem?_set, List.length_set]
      repeat' split
      all_goals first | rfl | omega | (simp_all; done)
    | [], h2, e => cases e
    | [_], h2, e => cases e
    | _ :: _ :: _ :: _, h2, e => simp [gT] at e
  | _ => cases e⟩
theorem lc_read {K : PySem.W.Frag} {own : List (Str × Nat)} {w : DW} {g : DG} {tg' : TG} {dc : DB} {de : DE} (lt : LcT K cA g tg' (own.map (·.2))) {σ : L2.St} {H : Hp} {Q : VK} (h : tD K cA none W (dLc w (own.map (·.2)) g dc de) σ H Q) :
    tLc (tW K cA none W w) tg' (tDB K cA none W0 dc) (tD K cA none W0 de) (own.map (·.2)) σ H Q := by
  obtain ⟨ρ, μ, M, hee, hm, hr⟩ := h
  refine ⟨ρ, μ, M, hee, hm, hr.bind.imp fun wk M1 μ1 H1 hp hx hm1 h1 J wok D hD => ?_⟩
  have hx1 : Ext H1 (upd H1 D (.lst [])) := Ext.new hD
  have hp1 : μ1 <+: μ1 ++ [D] := List.prefix_append _ _
  have hm1' : RM K cA (μ1 ++ [D]) (M1 ++ [.lst []]) (upd H1 D (.lst [])) := hm1.new hx1 (keep_new hD) hD rfl ⟨[], upd_same, RVs.nil⟩
  have hn : (μ1 ++ [D])[M1.length]? = some D := by rw [← hm1.len, List.getElem?_append_right (Nat.le_refl _), Nat.sub_self]; rfl
  refine ⟨fun i m H' => m = wk.2.length - i ∧ i ≤ wk.2.length ∧ ∃ μ' M', (μ1 ++ [D]) <+: μ' ∧ Ext H1 H' ∧ RM K cA μ' M' H' ∧ Run K cA W σ μ' H' (loopC wk.1 g dc de (wipeT ρ (own.map (·.2))) M1.length (wk.2.drop i) M') (QV K Q),
    ⟨wk.2.length, by simp, Nat.zero_le _, _, _, List.prefix_refl _, hx1, hm1', Run.mono hp1 hx1 h1⟩, ?_⟩
  rintro i m H2 ⟨rfl, hi, μ2, M2, hp2, hx2, hm2, h2⟩
  have hpp : μ1 <+: μ2 := hp1.trans hp2
  have hn2 := pre_get hp2 hn
  by_cases hlt : i < wk.2.length
  · rw [List.drop_eq_getElem_cons hlt, loopC] at h2
    by_cases hc : wk.1 M2 = true
    · rw [if_pos hc] at h2
      have eu : wk.2[i]? = some wk.2[i] := List.getElem?_eq_getElem hlt
      refine .inr ⟨wok.go i _ μ2 M2 H2 hpp hx2 hm2 hc eu, fun H' => ∃ μ' M', (μ1 ++ [D]) <+: μ' ∧ Ext H1 H' ∧ RM K cA μ' M' H' ∧ Run K cA W σ μ' H' (loopC wk.1 g dc de (wipeT ρ (own.map (·.2))) M1.length (wk.2.drop (i + 1)) M') (QV K Q),
        fun H' ⟨μ', M', a1, a2, a3, a4⟩ => ⟨wk.2.length - (i + 1), by omega, rfl, hlt, μ', M', a1, a2, a3, a4⟩, fun x H3 hy => ?_⟩
      obtain ⟨hx3, hm3, rv⟩ := wok.yld i _ μ2 M2 H2 x H3 hpp hx2 hm2 hc eu hy
      have he3 : RE K cA none μ2 H3 (wipeT ρ (own.map (·.2))) (wipe σ (own.map (·.2))) := ((hee.mono hp hx).mono hpp (hx2.trans hx3)).wipe _
      have h3 := Run.mono (List.prefix_refl _) hx3 h2
      cases q : g wk.2[i] (wipeT ρ (own.map (·.2))) M2 with
      | nx ρ4 M4 =>
        rw [q] at h3
        refine lt.run σ μ2 M2 H3 _ _ x ρ4 M4 _ he3 hm3 rv q fun σ4 he4 hm4 ew => ⟨ew, ?_⟩
        refine ⟨ρ4, μ2, M4, he4, hm4, ?_⟩
        dsimp only at h3
        cases q2 : dc ρ4 M4 with
        | no => rw [q2] at h3; exact h3.elim
        | ex x M5 => rw [q2] at h3; exact h3.elim
        | ok b M5 =>
          rw [q2] at h3
          intro μ5 H5 hp5 hx5 hm5
          show if b = true then _ else _
          cases b with
          | false =>
            exact ⟨μ5, M5, hp2.trans hp5, (hx2.trans hx3).trans hx5, hm5, Run.mono hp5 hx5 h3⟩
          | true =>
            refine ⟨ρ4, μ5, M5, he4.mono hp5 hx5, hm5, ?_⟩
            have h4 := Run.mono hp5 hx5 h3
            dsimp only at h4
            cases q3 : de ρ4 M5 with
            | no => rw [q3] at h4; exact h4.elim
            | ex x M6 => rw [q3] at h4; exact h4.elim
            | ok y M6 =>
              rw [q3] at h4
              dsimp only at h4
              intro μ6 H6 hp6 hx6 hm6 yv ryv
              cases q4 : M6[M1.length]? with
              | none => rw [q4] at h4; exact h4.elim
              | some c =>
                cases c with
                | lst acc =>
                  rw [q4] at h4
                  dsimp only at h4
                  by_cases hz : acc.length < sizeLine
                  · rw [if_pos hz] at h4
                    have hn6 := pre_get hp6 (pre_get hp5 hn2)
                    obtain ⟨xs, g1, g2⟩ := hm6.at_ _ _ _ hn6 q4
                    have hx7 : Ext H6 (upd H6 D (.lst (xs ++ [yv]))) := Ext.write (by rw [g1]; trivial)
                    refine ⟨xs, g1, by rw [← g2.length]; exact hz, μ6, M6.set M1.length (.lst (acc ++ [y])), (hp2.trans hp5).trans hp6, (((hx2.trans hx3).trans hx5).trans hx6).trans hx7, hm6.set (c' := .lst (acc ++ [y])) hn6 q4 rfl rfl ⟨_, upd_same, (g2.append (.cons ryv .nil)).mono (List.prefix_refl _) hx7⟩, Run.mono hp6 (hx6.trans hx7) h4⟩
                  · rw [if_neg hz] at h4; exact h4.elim
                | _ => rw [q4] at h4; exact h4.elim
      | _ => rw [q] at h3; exact h3.elim
    · rw [if_neg hc] at h2; exact h2.elim
  · have ei : i = wk.2.length := by omega
    subst ei
    rw [List.drop_length, loopC] at h2
    by_cases hc : wk.1 M2 = true
    · rw [if_pos hc] at h2
      refine .inl ⟨wok.stop μ2 M2 H2 hpp hx2 hm2 hc, h2.val hm2 ?_⟩
      rw [RV]
      exact ⟨D, rfl, hn2⟩
    · rw [if_neg hc] at h2; exact h2.elim
theorem s_lc {elt tg iter : Expr} {ifs : List Expr} {scope : Scope} {own : List (Str × Nat)} {pos : Pos} {w : DW} {g : DG} {tg' : TG} {dc : DB} {de : DE} (cn : Cn X W k) (hi : PI X tg iter (tW X.K cA none W w)) (ok : blkC X.N X.env.scope scope own = true) (lt : LcT X.K cA g tg' (own.map (·.2)))
    (hg : ∀ (s : Shared) (H : Hp) (C : Addr) (cl : List (Str × Addr)) (fp : List Addr), Cn (X.blk s H scope (compEnvC scope cl C X.env) fp) W0 k → PG (X.blk s H scope (compEnvC scope cl C X.env) fp) tg tg')
    (ht : ∀ (s : Shared) (H : Hp) (C : Addr) (cl : List (Str × Addr)) (fp : List Addr), Cn (X.blk s H scope (compEnvC scope cl C X.env) fp) W0 k → PTs (X.blk s H scope (compEnvC scope cl C X.env) fp) ifs (tDB X.K cA none W0 dc))
    (he : ∀ (s : Shared) (H : Hp) (C : Addr) (cl : List (Str × Addr)) (fp : List Addr), Cn (X.blk s H scope (compEnvC scope cl C X.env) fp) W0 k → PE (X.blk s H scope (compEnvC scope cl C X.env) fp) elt (tD X.K cA none W0 de))
    (hs : ∀ x, foldedSetIterable iter X.env x = pure x := by intro _; rfl) :
    PE X (.ListComp elt [⟨tg, iter, ifs, 0⟩] scope pos) (tD X.K cA none W (dLc w (own.map (·.2)) g dc de)) := by
  exact PE.weak (pe_lc (pos := pos) (own := own) cn.calm cn.nd hi (blkOk_by ok) (fun s H C cl fp => hg s H C cl fp (cn.blk s H scope _ fp)) (fun s H C cl fp => ht s H C cl fp (cn.blk s H scope _ fp)) (fun s H C cl fp => he s H C cl fp (cn.blk s H scope _ fp)) hs) fun σ H Q h => lc_read lt h
/-- name = [..] on one line -/
theorem z_setLc (i : Nat) {y : Str} {py spos : Pos} {elt tg iter : Expr} {ifs : List Expr} {scope : Scope} {own : List (Str × Nat)} {pos : Pos} {w : DW} {g : DG} {tg' : TG} {dc : DB} {de : DE} (cn : Cn X W k) (hi : PI X tg iter (tW X.K cA none W w)) (ok : blkC X.N X.env.scope scope own = true) (lt : LcT X.K cA g tg' (own.map (·.2)))
    (hg : ∀ (s : Shared) (H : Hp) (C : Addr) (cl : List (Str × Addr)) (fp : List Addr), Cn (X.blk s H scope (compEnvC scope cl C X.env) fp) W0 k → PG (X.blk s H scope (compEnvC scope cl C X.env) fp) tg tg')
    (ht : ∀ (s : Shared) (H : Hp) (C : Addr) (cl : List (Str × Addr)) (fp : List Addr), Cn (X.blk s H scope (compEnvC scope cl C X.env) fp) W0 k → PTs (X.blk s H scope (compEnvC scope cl C X.env) fp) ifs (tDB X.K cA none W0 dc))
    (he : ∀ (s : Shared) (H : Hp) (C : Addr) (cl : List (Str × Addr)) (fp : List Addr), Cn (X.blk s H scope (compEnvC scope cl C X.env) fp) W0 k → PE (X.blk s H scope (compEnvC scope cl C X.env) fp) elt (tD X.K cA none W0 de))
    (hsw : swapsWith (.ListComp elt [⟨tg, iter, ifs, 0⟩] scope pos) (some (.Name y py)) spos.line X.env = pure true := by exact sw_true rfl rfl rfl (by decide +kernel))
    (hy : X.N[i]? = some y := by rfl) (hyl : X.env.scope.names.lookup y = some .local := by rfl) (hs : ∀ x, foldedSetIterable iter X.env x = pure x := by intro _; rfl) :
    PS X (.Assign [.Name y py] (.ListComp elt [⟨tg, iter, ifs, 0⟩] scope pos) spos) (tDS X.K cA none W (dSet i (dLc w (own.map (·.2)) g dc de))) := by
  refine PS.weak (ps_setLc (own := own) cn.calm cn.nd hy hyl hsw hi (blkOk_by ok) (fun s H C cl fp => hg s H C cl fp (cn.blk s H scope _ fp)) (fun s H C cl fp => ht s H C cl fp (cn.blk s H scope _ fp)) (fun s H C cl fp => he s H C cl fp (cn.blk s H scope _ fp)) hs) fun D σ H ⟨ρ, μ, M, hee, hm, hr⟩ => ?_
  exact lc_read lt ⟨ρ, μ, M, hee, hm, (unS hee hr).imp fun t M1 μ1 H1 hp hx hm1 h1 x rx => h1.nx hm1 ((hee.mono hp hx).set rx okSlot.non)⟩
theorem t_none {X : Cx} : PTs X [] (tDB X.K cA none W0 dYes) := ⟨fun pins s σ H Q I ⟨ρ, μ, M, he, hm, hr⟩ => pts_nil.run pins s σ H Q I (hr.ok0 hm)⟩
theorem t_one {X : Cx} {c : Expr} {d : DB} (h : PT X c (tDB X.K cA none W0 d)) : PTs X [c] (tDB X.K cA none W0 d) := pts_one h
end
end DN

set_option maxHeartbeats 2000000
namespace DN
open PySem PySem.Spec L2

/-! ### isinstance -/
inductive TyN where
  | b (n : String) | c (c : Str)
def tyN (t : T) (M : Mem) : Option TyN := match t with
  | .non => some (.b "NoneType")
  | .bl _ => some (.b "bool")
  | .int _ => some (.b "int")
  | .str _ => some (.b "str")
  | .tup _ => some (.b "tuple")
  | .ob n => (match M[n]? with
    | some (.lst _) => some (.b "list")
    | some (.ins c _) => some (.c c)
    | some (.dic _ _) => some (.b "dict")
    | _ => none)
def tags : List String := ["NoneType", "bool", "int", "str", "tuple", "list", "dict"]
/-- isinstance(x, b), b a built-in type -/
def isiB (cs : List Str) (b : String) (t : T) (M : Mem) : R T := match tyN t M with
  | some (.b n) => .ok (.bl (n == b || (n == "bool" && b == "int"))) M
  | some (.c c) => if c ∈ cs then .ok (.bl false) M else .no
  | none => .no
/-- isinstance(x, C), C an own class -/
def isiC (cs : List Str) (C : Str) (t : T) (M : Mem) : R T := match tyN t M with
  | some (.b _) => .ok (.bl false) M
  | some (.c c) => if c ∈ cs then .ok (.bl (decide (c = C))) M else .no
  | none => .no
/-- what the written part says of an own class for isinstance -/
structure InsF (K : PySem.W.Frag) (C : Addr) : Prop where
  cl : Cls K C
  ha : PySem.W.findIn K (.ref C) "__class__" = some (some (.builtin "object.__class__"))
  hn : PySem.W.specialIn K (.builtin "object.__class__") "__get__" = some (some (.builtin "getset_descriptor.__get__"))
  ht : PySem.W.takesIn K (.builtin "object.__class__") = some true
  hm : PySem.W.mroIn K C (.type "object") = some true
def KitB (K : PySem.W.Frag) (cA : Str → Addr) (cs : List Str) (b : String) : Prop := ∀ c, c ∈ cs → InsF K (cA c) ∧ PySem.W.kitOne K (.ref (cA c)) (.type b) = some false
def KitC (K : PySem.W.Frag) (cA : Str → Addr) (cs : List Str) (C : Str) : Prop := (∀ n, n ∈ tags → PySem.W.kitOne K (.type n) (.ref (cA C)) = some false) ∧ ∀ c, c ∈ cs → InsF K (cA c) ∧ PySem.W.kitOne K (.ref (cA c)) (.ref (cA C)) = some (decide (c = C))
theorem kit_tags {K : PySem.W.Frag} : ∀ n, n ∈ tags → ∀ b, b ∈ tags → PySem.W.kitOne K (.type n) (.type b) = some (n == b || (n == "bool" && b == "int")) := by
  intro n hn b hb
  refine kit_ty ?_
  have all : (tags.all fun n => tags.all fun b => decide (kitB n b = some (n == b || (n == "bool" && b == "int")))) = true := by decide +kernel
  exact of_decide_eq_true (List.all_eq_true.mp (List.all_eq_true.mp all n hn) b hb)
section
variable {K : PySem.W.Frag} {cA : Str → Addr} {μ : List Addr} {H : Hp} {M : Mem}
theorem ty_b (hm : RM K cA μ M H) {t : T} {x : V} {n : String} (e : tyN t M = some (.b n)) (rx : RV K μ H t x) : TyX K H x (.type n) ∧ n ∈ tags := by
  cases t with
  | non => rw [RV] at rx; subst rx; cases e; exact ⟨.base .non, by decide⟩
  | bl b => rw [RV] at rx; subst rx; cases e; exact ⟨.base (.bl b), by decide⟩
  | int b => rw [RV] at rx; subst rx; cases e; exact ⟨.base (.int b), by decide⟩
  | str b => rw [RV] at rx; subst rx; cases e; exact ⟨.base (.str b), by decide⟩
  | tup ts =>
    rw [RV] at rx
    cases e
    obtain ⟨a, xs, rfl, h1, h2⟩ := rx
    refine ⟨?_, by decide⟩
    rcases h1 with (h | ⟨o, h⟩) | ⟨o, its, m, h3, h4, _⟩
    · exact .base (.tup h)
    · exact .fTuple h
    · exact .kTuple h3 h4
  | ob k =>
    rw [RV] at rx
    obtain ⟨a, rfl, ha⟩ := rx
    unfold tyN at e
    cases q : M[k]? with
    | none => simp [q] at e
    | some c =>
      have hc := hm.at_ k a c ha q
      cases c with
      | lst ts =>
        simp [q] at e; subst e
        obtain ⟨xs, h1, _⟩ := hc
        exact ⟨.base (.lst h1), by decide⟩
      | dic kk kvs =>
        simp [q] at e; subst e
        refine ⟨?_, by decide⟩
        cases kk with
        | zero => obtain ⟨xs, h1, _⟩ := hc; exact .base (.dK h1)
        | succ kk => obtain ⟨xs, h1, _⟩ := hc; exact .base (.dT h1)
      | _ => simp [q] at e
theorem ty_c (hm : RM K cA μ M H) {t : T} {x : V} {c : Str} (e : tyN t M = some (.c c)) (F : InsF K (cA c)) (rx : RV K μ H t x) : TyX K H x (.ref (cA c)) := by
  cases t with
  | ob k =>
    unfold tyN at e
    cases q : M[k]? with
    | none => simp [q] at e
    | some d =>
      cases d with
      | ins c' fs =>
        simp [q] at e; subst e
        obtain ⟨a, dx, vs, rfl, _, g1, _⟩ := hm.ins q rx
        exact .base (.ins g1 F.cl F.ha F.hn F.ht F.hm)
      | _ => simp [q] at e
  | _ => simp [tyN] at e
end
section
variable {X : Cx} {cA : Str → Addr} {ea : Option EA} {W : WX} {k : Nat} {e : Expr} {p p2 pos : Pos} {d : DE}
theorem s_isiB {b : Str} (cs : List Str) (n : String) (hb : n ∈ tags) (hK : KitB X.K cA cs n) (hm : X.mg "isinstance" = none) (hmb : X.mg b = none) (he : PE X e (tD X.K cA ea W d)) (hv : bootBuiltins b = some (.type n) := by decide +kernel) (hg : Gl X "isinstance" := by rfl) (hgb : Gl X b := by rfl)
    (hnb : b ≠ "__name__" := by decide) (hdb : (b == ("__debug__" : Str)) = false := by decide) (hst : starEach [e, .Name b p2] X.env = (false, eval e X.env) :: starEach [.Name b p2] X.env := by rfl) (hst2 : starEach [.Name b p2] X.env = (false, eval (.Name b p2) X.env) :: starEach [] X.env := by rfl) (hpl : (backTo pos (starEach [.Name b p2] X.env)).any (·.1) = false := by rfl) :
    PE X (.Call (.Name "isinstance" p) [e, .Name b p2] [] pos) (tD X.K cA ea W (dUn (isiB cs n) d)) := by
  refine PE.weak (pe_callB call_isi hg hm (by decide +kernel) (pa_cons he (pa_cons (pe_bltn (v := .ty n) hgb hmb hv rfl hnb hdb) pa_nil hst2) hst) (by decide) (by decide) hst hpl) fun σ H Q ⟨ρ, μ, M, hee, hmm, hr⟩ => ?_
  refine ⟨ρ, μ, M, hee, hmm, hr.bind.imp fun t M1 μ1 H1 hp hx hm1 h1 x rx => ?_⟩
  unfold isiB at h1
  cases q : tyN t M1 with
  | none => simp only [q] at h1; exact h1.elim
  | some ty =>
    cases ty with
    | b m =>
      simp only [q] at h1
      obtain ⟨h2, h3⟩ := ty_b hm1 q rx
      exact ⟨x, .ty n, .type m, .type n, _, rfl, .ty n, h2, kit_tags m h3 n hb, bl_ok h1 hm1⟩
    | c c =>
      simp only [q] at h1
      by_cases hc : c ∈ cs
      · rw [if_pos hc] at h1
        obtain ⟨h2, h3⟩ := hK c hc
        exact ⟨x, .ty n, .ref (cA c), .type n, false, rfl, .ty n, ty_c hm1 q h2 rx, h3, bl_ok h1 hm1⟩
      · rw [if_neg hc] at h1; exact h1.elim
theorem s_isiC {C : Str} (cs : List Str) (hK : KitC X.K cA cs C) (hm : X.mg "isinstance" = none) (hmb : X.mg C = some (.ref (cA C))) (he : PE X e (tD X.K cA ea W d)) (hg : Gl X "isinstance" := by rfl) (hgb : Gl X C := by rfl)
    (hdb : (C == ("__debug__" : Str)) = false := by decide) (hst : starEach [e, .Name C p2] X.env = (false, eval e X.env) :: starEach [.Name C p2] X.env := by rfl) (hst2 : starEach [.Name C p2] X.env = (false, eval (.Name C p2) X.env) :: starEach [] X.env := by rfl) (hpl : (backTo pos (starEach [.Name C p2] X.env)).any (·.1) = false := by rfl) :
    PE X (.Call (.Name "isinstance" p) [e, .Name C p2] [] pos) (tD X.K cA ea W (dUn (isiC cs C) d)) := by
  refine PE.weak (pe_callB call_isi hg hm (by decide +kernel) (pa_cons he (pa_cons (pe_glob (v := .ref (cA C)) hgb hmb rfl hdb) pa_nil hst2) hst) (by decide) (by decide) hst hpl) fun σ H Q ⟨ρ, μ, M, hee, hmm, hr⟩ => ?_
  refine ⟨ρ, μ, M, hee, hmm, hr.bind.imp fun t M1 μ1 H1 hp hx hm1 h1 x rx => ?_⟩
  unfold isiC at h1
  cases q : tyN t M1 with
  | none => simp only [q] at h1; exact h1.elim
  | some ty =>
    cases ty with
    | b m =>
      simp only [q] at h1
      obtain ⟨h2, h3⟩ := ty_b hm1 q rx
      exact ⟨x, .ref (cA C), .type m, .ref (cA C), _, rfl, .own _, h2, hK.1 m h3, bl_ok h1 hm1⟩
    | c c =>
      simp only [q] at h1
      by_cases hc : c ∈ cs
      · rw [if_pos hc] at h1
        obtain ⟨h2, h3⟩ := hK.2 c hc
        exact ⟨x, .ref (cA C), .ref (cA c), .ref (cA C), _, rfl, .own _, ty_c hm1 q h2 rx, h3, bl_ok h1 hm1⟩
      · rw [if_neg hc] at h1; exact h1.elim

/-! ### raise -/
/-- what the written part says of an exception class without own __init__ -/
structure ExF (K : PySem.W.Frag) (C : Addr) : Prop where
  ex : PySem.W.excIn K C He.veBase "ValueError.__new__" = true
  kp : PySem.W.keepIn K (.ref C) = true
  sb : PySem.W.subIn K (.ref C) (.type "BaseException") = some true
  ty : PySem.W.typeIn K (.ref C) = some (.type "type")
def dRaise (c : Str) : DS := fun ρ M => .ex (c, []) ρ M
open PyProof.Rows in
theorem z_raise {c : Str} {pos' : Pos} (cn : Cn X W k) (F : ExF X.K (cA c)) (hm : X.mg c = some (.ref (cA c))) (hg : Gl X c := by rfl) (hdb : (c == ("__debug__" : Str)) = false := by decide) :
    PS X (.Raise (some (.Call (.Name c p) [] [] pos)) none pos') (tDS X.K cA ea W (dRaise c)) := by
  have mk : PMk X (.Call (.Name c p) [] [] pos) (fun _ H Q => Q (.ref (cA c)) none H) := by
    intro pins s σ H Q I h
    refine wpAny_Call_Name_kw (ld_glob I hg hm ?_ hdb)
    refine PySem.W.callWith_K0 I.kIn F.kp ?_
    show wpAny _ _ (call (.ref (cA c)) []) _ _ _
    obtain ⟨bm, N, nm, qn, bs, hdct, sn, sub, ab, col, dd, k0, k1, k2, k3, k5, mN, hC, hN, hni, TT⟩ := exc_obj I.kIn F.ex
    exact wpAny_call_exc_subT PySem.F.excBase_ValueError TT hC hN hni (fun h' e hmd => mk_of I hmd (raises_own F.sb F.ty) h (I.hok.gone hmd.new)) (by show 0 ≤ sizeLine; exact Nat.zero_le _)
  refine PS.weak (ps_raise cn.calm cn.tk mk) fun D σ H ⟨ρ, μ, M, hee, hmm, hr⟩ => ?_
  exact hr σ μ H _ _ (List.prefix_refl _) (Ext.refl _) hmm hee ⟨rfl, .inl ⟨rfl, rfl⟩⟩
end
end DN

set_option maxHeartbeats 2000000
namespace DN
open PySem PySem.Spec L2 PyProof.Rows

/-! ### try -/
/-- a clause: which of the errors it takes, the slot of its name, its suite -/
structure Clz where
  tab : List (Str × Bool)
  slot : Option Nat
  suite : Er → DS
def unsetR (i : Nat) : RS → RS
  | .nx ρ M => .nx (ρ.set i none) M
  | .rt t M => .rt t M
  | .bk ρ M => .bk (ρ.set i none) M
  | .ct ρ M => .ct (ρ.set i none) M
  | _ => .no
def noEx : RS → RS
  | .ex _ _ _ => .no
  | r => r
def catchD : List Clz → Er → DS
  | [], x, ρ, M => .ex x ρ M
  | c :: r, x, ρ, M => match c.tab.lookup x.1 with
    | some true => (match c.slot with
      | none => noEx (c.suite x ρ M)
      | some i => if i < ρ.length then unsetR i (c.suite x (ρ.set i none) M) else .no)
    | some false => catchD r x ρ M
    | none => .no
def dTry (b : DS) (cs : List Clz) : DS := fun ρ M => match b ρ M with
  | .ex x ρ' M' => catchD cs x ρ' M'
  | r => r
/-- what the written part says: which of the errors the class at v takes -/
def ExmF (K : PySem.W.Frag) (cA : Str → Addr) (v : Value) (tab : List (Str × Bool)) : Prop := ∀ c b, tab.lookup c = some b → PySem.W.exmOne K (.ref (cA c)) v = some b
section
variable {K : PySem.W.Frag} {cA : Str → Addr} {ea : Option EA} {W : WX} {μ μ' : List Addr} {H H' : Hp} {D : Ends}
theorem RE.enter {ρ : Ev} {σ : L2.St} {q : EA} (h : RE K cA none μ H ρ σ) (hx : RX K cA μ H q.e q.cls q.d) (hi : q.i < ρ.length) : RE K cA (some q) μ H (ρ.set q.i none) (σ.set q.i (some (.ref q.a))) := by
  refine ⟨by rw [List.length_set, List.length_set]; exact h.len, fun i u e => ?_, fun q' e => ?_⟩
  · by_cases z : q.i = i
    · subst z
      rw [List.getElem?_set_self hi] at e
      cases e
    · rw [List.getElem?_set_ne z] at e ⊢
      exact h.at_ i u e
  · cases e
    exact ⟨List.getElem?_set_self (by rw [← h.len]; exact hi), hx⟩
theorem RE.quit {ρ : Ev} {σ : L2.St} {i : Nat} (h : RE K cA ea μ H ρ σ) : RE K cA none μ H (ρ.set i none) (σ.set i none) := by
  refine ⟨by rw [List.length_set, List.length_set]; exact h.len, fun j u e => ?_, fun q' e => nomatch e⟩
  by_cases z : i = j
  · subst z
    have hj : i < ρ.length := by
      have := (List.getElem?_eq_some_iff.mp e).1
      rwa [List.length_set] at this
    rw [List.getElem?_set_self hj] at e
    cases e
  · rw [List.getElem?_set_ne z] at e ⊢
    exact h.at_ j u e
end
/-- what the clauses wish of an error of the body -/
def wCl (K : PySem.W.Frag) (Wout : WX) (D : Ends) : List (Value × Option Nat × (Addr → Value → Option Addr → TS)) → WX
  | [] => Wout
  | (c, sl, ts) :: r => fun cls d σ H => ∃ b, PySem.W.exmOne K cls c = some b ∧ (b = true → ∀ a, H a = none → (match sl with
      | none => ts a cls d D σ H
      | some i => ts a cls d ⟨fun σ' H' => D.nx (σ'.set i none) H', D.rt, fun σ' H' => D.bk (σ'.set i none) H', fun σ' H' => D.ct (σ'.set i none) H'⟩ (σ.set i (some (.ref a))) H)) ∧ (b = false → wCl K Wout D r cls d σ H)
inductive Clauses (X : Cx) : List ExceptHandler → List (Value × Option Nat × (Addr → Value → Option Addr → TS)) → Prop
  | nil : Clauses X [] []
  | plain {x : Str} {c : Value} {ts : Addr → Value → Option Addr → TS} {b₀ : Stmt} {suite : List Stmt} {np pos' : Pos} {hds : List ExceptHandler} {l : List (Value × Option Nat × (Addr → Value → Option Addr → TS))} (hc : Names X x c)
      (hsu : ∀ (a : Addr) (oe : Obj) (cls : Value) (d : Option Addr) (pn : List (Addr × Obj)), Zc cls d oe → (∃ vs, oe.data = .fields vs) → PSs (X.suite a ((a, oe) :: pn)) (b₀ :: suite) (ts a cls d)) (r : Clauses X hds l) :
      Clauses X (.ExceptHandler (some (.Name x np)) none (b₀ :: suite) pos' :: hds) ((c, none, ts) :: l)
  | named {x n : Str} {i : Nat} {c : Value} {ts : Addr → Value → Option Addr → TS} {b₀ : Stmt} {suite : List Stmt} {np pos' : Pos} {hds : List ExceptHandler} {l : List (Value × Option Nat × (Addr → Value → Option Addr → TS))} (hc : Names X x c)
      (hi : X.N[i]? = some n) (hln : X.env.kindOf n = some .local)
      (hsu : ∀ (a : Addr) (oe : Obj) (cls : Value) (d : Option Addr) (pn : List (Addr × Obj)), Zc cls d oe → (∃ vs, oe.data = .fields vs) → PSs (X.suite a ((a, oe) :: pn)) (b₀ :: suite) (ts a cls d)) (r : Clauses X hds l) :
      Clauses X (.ExceptHandler (some (.Name x np)) (some n) (b₀ :: suite) pos' :: hds) ((c, some i, ts) :: l)
/-- an error that has come down to a try -/
structure Here (X : Cx) (pins : List (Addr × Obj)) (σ : L2.St) (H : Hp) (a : Addr) (cls : Value) (d : Option Addr) (s : Shared) (B : Heap) (sI : Shared) : Prop where
  J : Inv X pins σ H sI
  nb : ∀ b o, sI.heap.get? b = some o → b ∉ frs X.stack → B.get? b = some o
  up : sI.heap.UpToSlots s.heap
  fl : HandSPX.FlyingZ B (X.env :: X.outer) a (Zc cls d) s.heap
  na : H a = none
  os : s.os = sI.os
  ag : AllBare s.gens
section
variable {X : Cx} {pins : List (Addr × Obj)} {σ : L2.St} {H : Hp} {a : Addr} {cls : Value} {d : Option Addr} {s sI : Shared} {B : Heap} {oe : Obj} {vs : Array Value}
theorem Here.inv (h : Here X pins σ H a cls d s B sI) : Inv X pins σ H s := h.J.landed h.nb h.fl.1 h.up h.os h.ag
theorem Here.notFr (h : Here X pins σ H a cls d s B sI) : a ∉ frs (X.env :: X.outer) := fun hm => by
  obtain ⟨oe, vs, he, _, hd⟩ := h.fl.there
  obtain ⟨_, o', e', hnf⟩ := h.fl.2.2.1.mem hm
  rw [he] at e'; cases e'
  exact hnf _ hd
theorem Here.notL (h : Here X pins σ H a cls d s B sI) (hf : X.env.frame = some X.env.locals) : a ≠ X.env.locals := fun z => h.notFr (List.mem_filterMap.mpr ⟨X.env, List.mem_cons_self, by rw [hf, z]⟩)
theorem Here.notF (h : Here X pins σ H a cls d s B sI) : a ∉ X.fs := fun hm => by
  obtain ⟨e, he, q⟩ := List.mem_filterMap.mp hm
  exact h.notFr (List.mem_filterMap.mpr ⟨e, List.mem_cons_of_mem _ he, q⟩)
theorem Here.into (h : Here X pins σ H a cls d s B sI) (hf : X.env.frame = some X.env.locals) (he : s.heap.get? a = some oe) (hd : oe.data = .fields vs) : Inv (X.suite a ((a, oe) :: (X.pn ++ pins))) [] σ H s :=
  h.inv.suite he hd h.na (h.notL hf) h.notF
/-- no clause takes it: it goes on -/
theorem Here.pass {W : WX} {D : Ends} (h : Here X pins σ H a cls d s B sI) (hs : X.stack = X.env :: X.outer) (hf : X.env.frame = some X.env.locals) (tk : Takes X W) (w : W cls d σ H) :
    wpAny (model X.prog X.w) X.A (handleBy (.ref a) X.env []) (SP X pins D) X.xe s := by
  refine wpAny_handleBy_nil ?_
  obtain ⟨k1, k2, k3, oe, vs, T, oT, ts, he, hz, hd, h1, hr⟩ := id h.fl
  unfold PySem.passOn
  refine wpAny_bind (wpAny_field he hd h1 ?_)
  have nt : ¬ ((Value.ref T == Value.none) = true) := by simp
  rw [if_neg nt]
  have fin : wpAny (model X.prog X.w) X.A (setFlight (.ref a) X.env.frame) (fun _ s4 => wpAny (model X.prog X.w) X.A (throw (.ref a) : Sem Flow) (SP X pins D) X.xe s4) X.xe s := by
    rw [hf]
    refine HandSPX.setFlight_upZ h.fl fun h4 hh4 up4 => wpAny_throw (tk _ _ ?_)
    exact ⟨a, B, sI, pins, σ, H, cls, d, rfl, h.J, h.nb, h.up.trans up4, .inr (.inr (by rw [hs]; exact hh4)), h.na, h.os, h.ag, w⟩
  first
    | exact wpAny_bind (wpAny_pure (wpAny_bind fin))
    | exact wpAny_bind fin
/-- the clauses, one after the other -/
theorem Here.clauses {W : WX} {D : Ends} (h : Here X pins σ H a cls d s B sI) (hs : X.stack = X.env :: X.outer) (hf : X.env.frame = some X.env.locals) (nd : X.N.Nodup) (tk : Takes X W) {hds : List ExceptHandler} {l : List (Value × Option Nat × (Addr → Value → Option Addr → TS))} (hk : Clauses X hds l) (w : wCl X.K W D l cls d σ H) :
    wpAny (model X.prog X.w) X.A (handleBy (.ref a) X.env hds) (SP X pins D) X.xe s := by
  have ok := h.J.ok
  obtain ⟨oe3, vs3, he3, hz3, hd3⟩ := h.fl.there
  have S3 := h.into hf he3 hd3
  have LT : PySem.W.Looks (model X.prog X.w) s.heap (typeOf (.ref a)) cls := fun A Q E s k q => wpAny_typeOf_ref (k _ _ he3) (by rw [hz3.1]; exact q)
  have test : ∀ {x : Str} {c : Value} {np : Pos} {Q : Value → Shared → Prop} {E : Value → Shared → Prop}, Names X x c → Q c s → wpAny (model X.prog X.w) (X.A.mark (some (.ref a))) (eval (.Name x np) X.env) Q E s := fun {x c np Q E} hc q => by
    obtain ⟨hg, hdbg, hm | ⟨hm, hv, hnn⟩⟩ := hc
    · exact ld_glob (X := X.suite a ((a, oe3) :: (X.pn ++ pins))) S3 hg hm q hdbg
    · exact ld_blt (X := X.suite a ((a, oe3) :: (X.pn ++ pins))) S3 hg hm hv q hnn hdbg
  induction hk with
  | nil => exact h.pass hs hf tk w
  | plain hc hsu r ih =>
    obtain ⟨b, hb1, hyes, hno⟩ := w
    refine wpAny_handleBy_cons (codeAny_handlers_test ?_) (by intro q; cases q)
    refine test hc ((PySem.W.exm_one (M := model X.prog X.w) h.inv.kIn LT hb1).here ?_)
    cases b with
    | false => exact ih (hno rfl)
    | true =>
      refine codeAny_handlers_suite (HandSPX.lands_againZ h.fl fun h4 fl4 up4 => ?_)
      have h' : Here X pins σ H a cls d { s with heap := h4 } B sI := ⟨h.J, h.nb, h.up.trans up4, fl4, h.na, h.os, h.ag⟩
      obtain ⟨oe4, vs4, he4, hz4, hd4⟩ := fl4.there
      refine wpAny_mono ((hsu a oe4 cls d (X.pn ++ pins) hz4 ⟨_, hd4⟩).run [] _ _ H _ (h'.into hf he4 hd4) (hyes rfl a h.na)) (fun f s6 hsp => ?_) (fun _ _ z => False.elim z)
      cases f with
      | ret u =>
        obtain ⟨v6, σ6, H6, S6, r6, q6⟩ := hsp
        exact ⟨_, _, _, S6.unsuite ok, r6, q6⟩
      | next =>
        obtain ⟨σ6, H6, S6, q6⟩ := hsp
        exact ⟨_, _, S6.unsuite ok, q6⟩
      | brk =>
        obtain ⟨σ6, H6, S6, q6⟩ := hsp
        exact ⟨_, _, S6.unsuite ok, q6⟩
      | cont =>
        obtain ⟨σ6, H6, S6, q6⟩ := hsp
        exact ⟨_, _, S6.unsuite ok, q6⟩
  | @named x n i c ts b₀ suite np pos' hds2 l2 hc hi hln hsu r ih =>
    obtain ⟨b, hb1, hyes, hno⟩ := w
    refine wpAny_handleBy_cons (codeAny_handlers_test ?_) (by intro q; cases q)
    refine test hc ((PySem.W.exm_one (M := model X.prog X.w) h.inv.kIn LT hb1).here ?_)
    cases b with
    | false => exact ih (hno rfl)
    | true =>
      refine codeAny_handlers_suite_as (HandSPX.lands_againZ h.fl fun h4 fl4 up4 => ?_)
      have h' : Here X pins σ H a cls d { s with heap := h4 } B sI := ⟨h.J, h.nb, h.up.trans up4, fl4, h.na, h.os, h.ag⟩
      obtain ⟨oe4, vs4, he4, hz4, hd4⟩ := fl4.there
      refine store_ok (X := X.suite a ((a, oe4) :: (X.pn ++ pins))) (v := .ref a) (h'.into hf he4 hd4) nd hi (.inl hln) rfl (fun s5 S5 => ?_) (.inr hln)
      refine wpAny_mono ((hsu a oe4 cls d (X.pn ++ pins) hz4 ⟨_, hd4⟩).run [] s5 _ H _ S5 (hyes rfl a h.na)) (fun f s6 hsp => ?_) (fun _ _ z => False.elim z)
      have off : ∀ {σ6 : L2.St} {H6 : Hp} {Q : Shared → Prop}, Inv (X.suite a ((a, oe4) :: (X.pn ++ pins))) [] σ6 H6 s6 → (∀ s7, Inv X pins (σ6.set i none) H6 s7 → Q s7) →
          wpAny (model X.prog X.w) X.A (do bindName X.env n .none; unbindBehindTheSuite X.env n pos') (fun _ s7 => Q s7) X.xe s6 := fun {σ6 H6 Q} S6 hq => gone_ok (S6.unsuite ok) nd hi hln hq
      cases f with
      | ret u =>
        obtain ⟨v6, σ6, H6, S6, r6, q6⟩ := hsp
        exact off S6 fun s7 J7 => ⟨_, _, _, J7, r6, q6⟩
      | next =>
        obtain ⟨σ6, H6, S6, q6⟩ := hsp
        exact off S6 fun s7 J7 => ⟨_, _, J7, q6⟩
      | brk =>
        obtain ⟨σ6, H6, S6, q6⟩ := hsp
        exact off S6 fun s7 J7 => ⟨_, _, J7, q6⟩
      | cont =>
        obtain ⟨σ6, H6, S6, q6⟩ := hsp
        exact off S6 fun s7 J7 => ⟨_, _, J7, q6⟩
end
section
variable {X : Cx} {body : List Stmt} {h₀ : ExceptHandler} {hds : List ExceptHandler} {l : List (Value × Option Nat × (Addr → Value → Option Addr → TS))} {pos : Pos} {tb : WX → TS} {W : WX}
theorem ps_try_cl (hs : X.stack = X.env :: X.outer) (hf : X.env.frame = some X.env.locals) (nd : X.N.Nodup) (tk : Takes X W)
    (hb : ∀ (W : WX) (pn : List (Addr × Obj)) (xe : Value → Shared → Prop), Takes (X.tr pn xe) W → PassesOwn (model X.prog X.w) X.A X.env xe → PSs (X.tr pn xe) body (tb W))
    (hh : Clauses X (h₀ :: hds) l) : PS X (.Try body (h₀ :: hds) [] [] pos) (fun D σ H => tb (wCl X.K W D l) D σ H) := by
  refine ⟨fun pins s σ H D I h => ?_⟩
  have ok := I.ok
  refine wpAny_Try_except ?_
  refine wpAny_mono ((hb (wCl X.K W D l) (X.pn ++ pins) (fun e s₁ => wpAny (model X.prog X.w) X.A (noteFrame e X.env) (fun _ s₂ => wpAny (model X.prog X.w) X.A (setFlight e none) (fun _ s₃ =>
    wpAny (model X.prog X.w) X.A (handleBy e X.env (h₀ :: hds)) (SP X pins D) X.xe s₃) X.xe s₂) X.xe s₁) (fun u s' xx => ?_) PassesOwn.looking).run [] s σ H D (I.toTry _) h) (fun f s1 hsp => ?_) (fun e s1 he => he)
  · obtain ⟨a, B, sI, pins', σ', H', cls, d, rfl, J', nb, up, sky, na, os, ag, w⟩ := xx
    show wpAny (model X.prog X.w) X.A (noteFrame (.ref a) X.env) _ _ _
    have sky' : Sky B (X.env :: X.outer) a (Zc cls d) X.env.locals s'.heap := by rw [← hs]; exact sky
    refine Sky.land Zc.steady (by rw [ok.frames, hs]) hf sky' fun h3 fl3 up3 => ?_
    have hh3 : Here X pins σ' H' a cls d { s' with heap := h3 } B sI := ⟨J'.ofTry ok, nb, up.trans up3, fl3, na, os, ag⟩
    exact hh3.clauses hs hf nd tk hh w
  · cases f with
    | next =>
      obtain ⟨σ', H', J', q⟩ := hsp
      exact wpAny_execs_nil ⟨σ', H', J'.ofTry ok, q⟩
    | brk =>
      obtain ⟨σ', H', J', q⟩ := hsp
      exact ⟨σ', H', J'.ofTry ok, q⟩
    | cont =>
      obtain ⟨σ', H', J', q⟩ := hsp
      exact ⟨σ', H', J'.ofTry ok, q⟩
    | ret u =>
      obtain ⟨v, σ', H', J', r, q⟩ := hsp
      exact ⟨v, σ', H', J'.ofTry ok, r, q⟩
end
/-! ### the clauses of the layer -/
/-- the suite of an error er that lies at q.a -/
def tSu (K : PySem.W.Frag) (cA : Str → Addr) (sl : Option Nat) (su : Er → DS) : Addr → Value → Option Addr → TS := fun a cls d D σ H => ∃ (er : Er) (ea : Option EA), (match sl with
    | none => ea = none
    | some i => ea = some ⟨i, a, cls, d, er⟩) ∧ tDS K cA ea W0 (su er) D σ H
inductive CL (X : Cx) (cA : Str → Addr) : List ExceptHandler → List Clz → Prop
  | nil : CL X cA [] []
  | plain {x : Str} {c : Value} {tab : List (Str × Bool)} {su : DS} {b₀ : Stmt} {suite : List Stmt} {np pos' : Pos} {hds : List ExceptHandler} {l : List Clz} (hc : Names X x c) (he : ExmF X.K cA c tab)
      (hsu : ∀ (a : Addr) (pn : List (Addr × Obj)), PSs (X.suite a pn) (b₀ :: suite) (tDS X.K cA none W0 su)) (r : CL X cA hds l) :
      CL X cA (.ExceptHandler (some (.Name x np)) none (b₀ :: suite) pos' :: hds) (⟨tab, none, fun _ => su⟩ :: l)
  | named (i : Nat) {x n : Str} {c : Value} {tab : List (Str × Bool)} {su : Er → DS} {b₀ : Stmt} {suite : List Stmt} {np pos' : Pos} {hds : List ExceptHandler} {l : List Clz} (hc : Names X x c) (he : ExmF X.K cA c tab)
      (hi : X.N[i]? = some n) (hln : X.env.kindOf n = some .local)
      (hsu : ∀ (q : EA) (oe : Obj) (pn : List (Addr × Obj)), q.i = i → Zc q.cls q.d oe → (∃ vs, oe.data = .fields vs) → PSs (X.suite q.a ((q.a, oe) :: pn)) (b₀ :: suite) (tDS X.K cA (some q) W0 (su q.e))) (r : CL X cA hds l) :
      CL X cA (.ExceptHandler (some (.Name x np)) (some n) (b₀ :: suite) pos' :: hds) (⟨tab, some i, su⟩ :: l)
theorem CL.nm {X : Cx} {cA : Str → Addr} {hds : List ExceptHandler} {l : List Clz} {x n : Str} {c : Value} {tab : List (Str × Bool)} {su : Er → DS} {b₀ : Stmt} {suite : List Stmt} {np pos' : Pos} (i : Nat) (hc : Names X x c) (he : ExmF X.K cA c tab)
    (hsu : ∀ (q : EA) (oe : Obj) (pn : List (Addr × Obj)), q.i = i → Zc q.cls q.d oe → (∃ vs, oe.data = .fields vs) → PSs (X.suite q.a ((q.a, oe) :: pn)) (b₀ :: suite) (tDS X.K cA (some q) W0 (su q.e))) (r : CL X cA hds l) (hi : X.N[i]? = some n := by rfl) (hln : X.env.kindOf n = some .local := by rfl) :
    CL X cA (.ExceptHandler (some (.Name x np)) (some n) (b₀ :: suite) pos' :: hds) (⟨tab, some i, su⟩ :: l) := .named i hc he hi hln hsu r
section
variable {X : Cx} {cA : Str → Addr} {W : WX} {k : Nat} {body : List Stmt} {h₀ : ExceptHandler} {hds : List ExceptHandler} {b : DS} {pos : Pos} {l : List Clz}
/-- what a suite wishes for its clause's end -/
theorem suite_plain {μ : List Addr} {H : Hp} {ρ : Ev} {M : Mem} {r : RS} {D : Ends} (h : RunS X.K cA none W μ H (noEx r) D) : RunS X.K cA none W0 μ H r D := by
  cases r with
  | ex x ρ' M' => exact h.elim
  | _ => exact h
theorem suite_named {μ : List Addr} {H : Hp} {i : Nat} {q : EA} {r : RS} {D : Ends} (h : RunS X.K cA none W μ H (unsetR i r) D) :
    RunS X.K cA (some q) W0 μ H r ⟨fun σ' H' => D.nx (σ'.set i none) H', D.rt, fun σ' H' => D.bk (σ'.set i none) H', fun σ' H' => D.ct (σ'.set i none) H'⟩ := by
  cases r with
  | nx ρ M => exact fun σ' μ' H' hp hx hm he => h _ μ' H' hp hx hm he.quit
  | rt t M => exact fun μ' H' x hp hx hm rx => h μ' H' x hp hx hm rx
  | bk ρ M => exact fun σ' μ' H' hp hx hm he => h _ μ' H' hp hx hm he.quit
  | ct ρ M => exact fun σ' μ' H' hp hx hm he => h _ μ' H' hp hx hm he.quit
  | ex x ρ' M' => exact h.elim
  | no => exact h.elim
theorem CL.clauses {hds : List ExceptHandler} {l : List Clz} (h : CL X cA hds l) : ∃ l' : List (Value × Option Nat × (Addr → Value → Option Addr → TS)), Clauses X hds l' ∧
    ∀ (D : Ends) (x : Er) (ρ : Ev) (M : Mem) (μ : List Addr) (H : Hp) (σ : L2.St) (cls : Value) (d : Option Addr), RunS X.K cA none W μ H (catchD l x ρ M) D → RM X.K cA μ M H → RE X.K cA none μ H ρ σ → RX X.K cA μ H x cls d → wCl X.K W D l' cls d σ H := by
  induction h with
  | nil => exact ⟨[], .nil, fun D x ρ M μ H σ cls d hr hm he hx => hr σ μ H cls d (List.prefix_refl _) (Ext.refl _) hm he hx⟩
  | @plain x c tab su b₀ suite np pos' hds l hc hex hsu r ih =>
    obtain ⟨l', c', w'⟩ := ih
    refine ⟨(c, none, tSu X.K cA none (fun _ => su)) :: l', .plain hc (fun a oe cls d pn hz hf => ⟨fun pins s σ H D I q => ?_⟩) c', fun D x ρ M μ H σ cls d hr hm he hx => ?_⟩
    · obtain ⟨er, ea, e1, h1⟩ := q
      cases e1
      exact (hsu a _).run pins s σ H D I h1
    · unfold catchD at hr
      cases e1 : tab.lookup x.1 with
      | none => simp only [e1] at hr; exact hr.elim
      | some bb =>
        refine ⟨bb, by rw [hx.1]; exact hex _ _ e1, fun hbb a na => ?_, fun hbb => ?_⟩
        · subst hbb
          simp only [e1] at hr
          exact ⟨x, none, rfl, ρ, μ, M, he, hm, suite_plain (ρ := ρ) (M := M) hr⟩
        · subst hbb
          simp only [e1] at hr
          exact w' D x ρ M μ H σ cls d hr hm he hx
  | @named i x n c tab su b₀ suite np pos' hds l hc hex hi hln hsu r ih =>
    obtain ⟨l', c', w'⟩ := ih
    refine ⟨(c, some i, tSu X.K cA (some i) su) :: l', .named hc hi hln (fun a oe cls d pn hz hf => ⟨fun pins s σ H D I q => ?_⟩) c', fun D x ρ M μ H σ cls d hr hm he hx => ?_⟩
    · obtain ⟨er, ea, e1, h1⟩ := q
      cases e1
      exact (hsu ⟨i, a, cls, d, er⟩ oe _ rfl hz hf).run pins s σ H D I h1
    · unfold catchD at hr
      cases e1 : tab.lookup x.1 with
      | none => simp only [e1] at hr; exact hr.elim
      | some bb =>
        refine ⟨bb, by rw [hx.1]; exact hex _ _ e1, fun hbb a na => ?_, fun hbb => ?_⟩
        · subst hbb
          simp only [e1] at hr
          by_cases hl : i < ρ.length
          · rw [if_pos hl] at hr
            exact ⟨x, some ⟨i, a, cls, d, x⟩, rfl, ρ.set i none, μ, M, RE.enter (q := ⟨i, a, cls, d, x⟩) he hx hl, hm, suite_named hr⟩
          · rw [if_neg hl] at hr; exact hr.elim
        · subst hbb
          simp only [e1] at hr
          exact w' D x ρ M μ H σ cls d hr hm he hx
theorem z_try (cn : Cn X W k) (hb : ∀ (W : WX) (pn : List (Addr × Obj)) (xe : Value → Shared → Prop), Cn (X.tr pn xe) W k → PSs (X.tr pn xe) body (tDS X.K cA none W b)) (hh : CL X cA (h₀ :: hds) l) (hs : X.stack = X.env :: X.outer := by rfl) (hf : X.env.frame = some X.env.locals := by rfl) :
    PS X (.Try body (h₀ :: hds) [] [] pos) (tDS X.K cA none W (dTry b l)) := by
  obtain ⟨l', c', w'⟩ := hh.clauses (W := W)
  refine PS.weak (ps_try_cl hs hf cn.nd cn.tk (tb := fun W => tDS X.K cA none W b) (fun W' pn xe tk po => hb W' pn xe ⟨tk, po, cn.hr, cn.nd, cn.calm⟩) c') fun D σ H ⟨ρ, μ, M, he, hm, hr⟩ => ⟨ρ, μ, M, he, hm, ?_⟩
  unfold dTry at hr
  cases q : b ρ M with
  | ex x ρ' M' =>
    rw [q] at hr
    exact fun σ' μ' H' cls d hp hx hm' he' hx' => w' D x ρ' M' μ' H' σ' cls d (RunS.mono hp hx hr) hm' he' hx'
  | _ => rw [q] at hr; exact hr
end
end DN

set_option maxHeartbeats 2000000
namespace DN
open PySem PySem.Spec L2 PyProof.Rows

/-! ### errors with fields -/
/-- what an own error's __init__ does: each of the arguments stands in its field -/
def spI (C : Addr) (fs : List Str) : Sp := fun vs H Q _ => ∃ (a : Addr) (ws : List V), vs = .ref a :: ws ∧ ws.length = fs.length ∧ H a = some (exo a C none) ∧
  ∀ (dx : Addr) (H' : Hp), H dx = none → dx ≠ a → H' a = some (exo a C (some dx)) → H' dx = some (exd dx (fs.zip ws).reverse) → (∀ b, b ≠ a → b ≠ dx → H' b = H b) → Q .non H'
structure IniF (P : Program) (w : World) (K : PySem.W.Frag) (mg : Str → Option Value) (base : Heap) (k : Nat) (f C : Addr) (fs : List Str) : Prop where
  ex : ∃ fd ps, Binds K fd ps [] ∧ FnOk P w K mg base (L2.CX P w) k f fd ps (spI C fs)
section
variable {P : Program} {w : World} {K : PySem.W.Frag} {mg : Str → Option Value} {base : Heap} {x qual : Str} {params : Arguments} {body : List Stmt} {scope : Scope} {f C : Addr} {fd : FuncData} {N ps : List Str}
theorem ini_one {f1 : Str} (T : OexC K C) (F : FunD K x qual params body scope [] [] f fd) (S : FnScope N ps scope) (hl : ps.length = 2)
    (hb : ∀ (kV doc pm : Value) (an : Option Addr) (cdv ct : Value) (us : List Value), us.length = ps.length → bindArgs (PySem.W.fnOf x qual params body scope .none kV doc pm an cdv ct) ⟨us, []⟩ = pure (ps.zip us))
    (n1 : PySem.W.findIn K (.ref C) f1 = some none)
    (h : ∀ (cdv : Value) (A : Around) (outer : List Env) (s : Shared) (H : Hp) (E : XK), PSs (cxOf (L2.CX P w) P w K mg base N qual scope f cdv A outer s H E) body (tOst K f1 (tVar 0) (tVar 1))) : IniF P w K mg base 1 f C [f1] := by
  refine ⟨fd, ps, F.bindsN hb, F.ok S (fun vs H Q E ⟨a, ws, e1, e2, _⟩ => by rw [e1, hl, List.length_cons, e2]; rfl) fun cdv A outer s H vs Q E hr hsp => ⟨_, h cdv A outer s H E, ?_⟩⟩
  obtain ⟨a, ws, rfl, e2, ha, hq⟩ := hsp
  match ws, e2 with
  | [y], _ =>
    refine ⟨y, rfl, .ref a, rfl, a, C, rfl, T, n1, .inl ⟨ha, fun dx hd hn => ?_⟩⟩
    refine hq dx _ hd hn upd_same ?_ fun b h1 h2 => ?_
    · rw [upd_ne hn, upd_same]; rfl
    · rw [upd_ne h1, upd_ne h2]
theorem ini_two {f1 f2 : Str} (T : OexC K C) (F : FunD K x qual params body scope [] [] f fd) (S : FnScope N ps scope) (hl : ps.length = 3)
    (hb : ∀ (kV doc pm : Value) (an : Option Addr) (cdv ct : Value) (us : List Value), us.length = ps.length → bindArgs (PySem.W.fnOf x qual params body scope .none kV doc pm an cdv ct) ⟨us, []⟩ = pure (ps.zip us))
    (n1 : PySem.W.findIn K (.ref C) f1 = some none) (n2 : PySem.W.findIn K (.ref C) f2 = some none)
    (h : ∀ (cdv : Value) (A : Around) (outer : List Env) (s : Shared) (H : Hp) (E : XK), PSs (cxOf (L2.CX P w) P w K mg base N qual scope f cdv A outer s H E) body (tSeq (tOst K f1 (tVar 0) (tVar 1)) (tOst K f2 (tVar 0) (tVar 2)))) : IniF P w K mg base 1 f C [f1, f2] := by
  refine ⟨fd, ps, F.bindsN hb, F.ok S (fun vs H Q E ⟨a, ws, e1, e2, _⟩ => by rw [e1, hl, List.length_cons, e2]; rfl) fun cdv A outer s H vs Q E hr hsp => ⟨_, h cdv A outer s H E, ?_⟩⟩
  obtain ⟨a, ws, rfl, e2, ha, hq⟩ := hsp
  match ws, e2 with
  | [y, z], _ =>
    refine ⟨y, rfl, .ref a, rfl, a, C, rfl, T, n1, .inl ⟨ha, fun dx hd hn => ?_⟩⟩
    refine ⟨z, rfl, .ref a, rfl, a, C, rfl, T, n2, .inr ⟨dx, _, upd_same, by rw [upd_ne hn, upd_same], Nat.le_of_ble_eq_true rfl, ?_⟩⟩
    refine hq dx _ hd hn ?_ ?_ fun b h1 h2 => ?_
    · rw [upd_ne (Ne.symm hn), upd_same]
    · rw [upd_same]; rfl
    · rw [upd_ne h2, upd_ne h1, upd_ne h2]
end
def dRaiseA (c : Str) (fs : List Str) (d : DA) : DS := fun ρ M => (d ρ M).toS ρ fun ts M1 => if ts.length = fs.length ∧ fs ≠ [] then .ex (c, (fs.zip ts).reverse) ρ M1 else .no
theorem RF.zip {K : PySem.W.Frag} {μ : List Addr} {H : Hp} : ∀ {fs : List Str} {ts : List T} {vs : List V}, RVs K μ H ts vs → RF K μ H (fs.zip ts) (fs.zip vs)
  | [], ts, vs, h => by
    rw [List.zip_nil_left, List.zip_nil_left]; rfl
  | f :: fs, [], vs, h => by rw [RVs] at h; subst h; rfl
  | f :: fs, t :: ts, vs, h => by
    rw [RVs] at h
    obtain ⟨v, r, rfl, h1, h2⟩ := h
    exact ⟨v, _, rfl, h1, RF.zip h2⟩
theorem RF.append {K : PySem.W.Frag} {μ : List Addr} {H : Hp} : ∀ {fs gs : List (Str × T)} {vs ws : List (Str × V)}, RF K μ H fs vs → RF K μ H gs ws → RF K μ H (fs ++ gs) (vs ++ ws)
  | [], gs, vs, ws, h, g => by rw [show vs = [] from h]; exact g
  | p :: ps, gs, vs, ws, ⟨v, r, e, h1, h2⟩, g => by
    subst e
    exact ⟨v, _, rfl, h1, RF.append h2 g⟩
theorem RF.reverse {K : PySem.W.Frag} {μ : List Addr} {H : Hp} : ∀ {fs : List (Str × T)} {vs : List (Str × V)}, RF K μ H fs vs → RF K μ H fs.reverse vs.reverse
  | [], vs, h => by rw [show vs = [] from h]; rfl
  | p :: ps, vs, ⟨v, r, e, h1, h2⟩ => by
    subst e
    rw [List.reverse_cons, List.reverse_cons]
    exact RF.append (RF.reverse h2) ⟨v, [], rfl, h1, rfl⟩
/-- what the written part says of such a class -/
structure OexF (K : PySem.W.Frag) (C fI : Addr) : Prop where
  ox : OexC K C
  iC : PySem.W.findIn K (.ref C) "__init__" = some (some (.ref fI))
  tI : PySem.W.typeIn K (.ref fI) = some (.type "function")
section
variable {X : Cx} {cA : Str → Addr} {W : WX} {k j : Nat} {fI : Addr} {d : DA} {p pos pos' : Pos} {e : Expr} {es : List Expr} {c : Str} {fs : List Str}
theorem z_raiseA (cn : Cn X W k) (F : OexF X.K (cA c) fI) (I : IniF X.prog X.w X.K X.mg X.base j fI (cA c) fs) (hj : j + 1 ≤ k) (hm : X.mg c = some (.ref (cA c))) (ha : PA X (e :: es) (tDA X.K cA none W d)) (hz : fs.length ≤ 1000 := by decide) (hg : Gl X c := by rfl) (hdb : (c == ("__debug__" : Str)) = false := by decide)
    (he : starEach (e :: es) X.env = (false, eval e X.env) :: starEach es X.env := by rfl) (hpl : (backTo pos (starEach es X.env)).any (·.1) = false := by rfl) :
    PS X (.Raise (some (.Call (.Name c p) (e :: es) [] pos)) none pos') (tDS X.K cA none W (dRaiseA c fs d)) := by
  obtain ⟨fd, ps, b, F1⟩ := I.ex
  refine PS.weak (ps_raise cn.calm cn.tk (pmk_oex F.ox F.iC F.tI F1 (cn.hr.mono hj) b .nil (passes_call cn.tk fun _ _ _ _ z => z.elim) hg hm ha hdb he hpl)) fun D σ H ⟨ρ, μ, M, hee, hmm, hr⟩ => ?_
  refine ⟨ρ, μ, M, hee, hmm, (unS hee hr).imp fun ts M1 μ1 H1 hp hx hm1 h1 vs rv => ?_⟩
  have hl := rv.length
  by_cases hc : ts.length = fs.length ∧ fs ≠ []
  · rw [if_pos hc] at h1
    refine ⟨by rw [← hl, hc.1]; exact hz, fun a ha => ?_⟩
    refine ⟨a, vs, by rw [List.append_nil], by rw [← hl, hc.1], upd_same, fun dx H' hd hn e1 e2 hk => ⟨rfl, dx, _, e1, e2, by rw [upd_ne hn] at hd; exact hd, ?_⟩⟩
    rw [upd_ne hn] at hd
    have eH : upd (del H' a) dx (.xd (fs.zip vs).reverse) = upd H1 dx (.xd (fs.zip vs).reverse) := by
      funext b
      by_cases h2 : b = dx
      · subst h2; rw [upd_same, upd_same]
      · rw [upd_ne h2, upd_ne h2]
        by_cases h3 : b = a
        · subst h3; rw [del_same]; exact ha.symm
        · rw [del_ne h3, hk b h3 h2, upd_ne h3]
    rw [eH]
    have hx3 : Ext H1 (upd H1 dx (.xd (fs.zip vs).reverse)) := Ext.new hd
    refine h1 σ μ1 _ _ _ (List.prefix_refl _) hx3 (hm1.fresh hd) ((hee.mono hp hx).mono (List.prefix_refl _) hx3) ⟨rfl, .inr ⟨?_, dx, _, rfl, upd_same, RF.mono (List.prefix_refl _) hx3 (RF.reverse (RF.zip rv))⟩⟩
    show (fs.zip ts).reverse ≠ []
    intro z
    have z2 := congrArg List.length z
    rw [List.length_reverse, List.length_zip, hc.1, Nat.min_self] at z2
    exact hc.2 (List.length_eq_zero_iff.mp z2)
  · rw [if_neg hc] at h1; exact h1.elim
end
end DN

set_option maxHeartbeats 2000000
namespace PySem
open Sem (wp)
/-- enumerate(v): what is made, v told by what begins -/
theorem dn_enum_new {v : Value} {o : Obj} {H : Heap → Prop} (B : Begins v o H) :
    Meets (Builtin.«enumerate.__new__» ⟨[.type "enumerate", v], []⟩) (fun _ R s => H s.heap ∧
      R (.ok (.ret (.ref (s.heap.push o).objs.size))) { s with heap := (s.heap.push o).push { cls := .type "enumerate", data := .fields #[.none, .bool false, .ref s.heap.objs.size, rawInt 0, .none, .none] } }) :=
  .of_wp fun prog w A R s h => by
    obtain ⟨hp, g, d, tk, os⟩ := s
    obtain ⟨h1, h⟩ := h
    have hsub := sub_enumerate
    have q1 : ∀ {A' : Around} {E : Value → Shared → Prop} {Q : Value → Shared → Prop}, Q (.ref hp.objs.size) ⟨hp.push o, g, d, tk, os⟩ → wpAny (model prog w) A' (pyIter v) Q E ⟨hp, g, d, tk, os⟩ :=
      fun q => B.iter prog w _ _ ⟨hp, g, d, tk, os⟩ _ h1 q
    wp_walk using q1
    refine wpAny_stack_any fun st => wpAny_pure ?_
    split
    · rename_i c _ _ _ _ _
      cases (c == Value.type "enumerate")
      · wp_walk using q1
        exact ⟨_, rfl, h⟩
      · wp_walk using q1
        exact ⟨_, rfl, h⟩
    · wp_walk using q1
      exact ⟨_, rfl, h⟩
section
variable {prog : Program} {w : World} {A : Around} {E : Value → Shared → Prop} {s : Shared}
theorem dn_enum_call {v : Value} {o : Obj} {H : Heap → Prop} {Q : Value → Shared → Prop} (B : Begins v o H) (h1 : H s.heap)
    (h : ∀ h', IsEnum h' (s.heap.objs.size + 1) s.heap.objs.size 0 .none → h'.get? s.heap.objs.size = some o →
      (∀ b o, s.heap.get? b = some o → h'.get? b = some o) → Q (.ref (s.heap.objs.size + 1)) { s with heap := h' }) :
    wpAny (model prog w) A (call (.type "enumerate") [v]) Q E s := by
  refine callType_new F.called_enumerate (by decide) (F.typeCall_enumerate_1 _) (F.newCall_enumerate_1 _) (fun obj => F.args_object_init_2 obj _) F.entry_enumerate_new
    (dn_enum_new B) ⟨h1, ?_⟩
  have hz : (s.heap.push o).objs.size = s.heap.objs.size + 1 := Heap.size_push ..
  show _ ∧ _
  rw [hz]
  have he : IsEnum ((s.heap.push o).push { cls := .type "enumerate", data := .fields #[.none, .bool false, .ref s.heap.objs.size, rawInt 0, .none, .none] }) (s.heap.objs.size + 1) s.heap.objs.size 0 .none := by
    have := Heap.get?_push_size (s.heap.push o) (o := { cls := .type "enumerate", data := .fields #[.none, .bool false, .ref s.heap.objs.size, rawInt 0, .none, .none] }) rfl
    rw [hz] at this; exact this
  exact ⟨⟨_, he, rfl⟩, h _ he (Heap.get?_push_of_some _ (Heap.get?_push_size _ B.free)) fun b o x => Heap.get?_push_of_some _ (Heap.get?_push_of_some _ x)⟩
end
end PySem
namespace DN
open PySem PySem.Spec L2 PyProof.Rows

/-- the tuple at a, each item in a new pair with its place -/
def IteT (K : PySem.W.Frag) (a : Addr) : It :=
  ⟨fun i H => ∃ (xs : List V) (x : V), SqT K H a xs ∧ xs[i]? = some x, fun i H v H' => ∃ T x, v = .ref T ∧ H T = none ∧ H' = upd H T (.tup [.int (i : Nat), x]) ∧ ∀ xs, SqT K H a xs → xs[i]? = some x, fun i H => ∃ xs : List V, SqT K H a xs ∧ xs.length ≤ i⟩
theorem turn_enumT {P : Program} {w : World} {K : PySem.W.Frag} {elts : List Expr} {kk : Nat} {tpos : Pos} (a e it : Addr) :
    Turn P w K (.Tuple elts kk tpos) (IteT K a) [e, it] e (fun i h => (∃ old, IsEnum h e it ((i : Nat) : Int) old) ∧ h.IsTupleIter it a i ∧ e ≠ it) where
  mem := List.mem_cons_self
  obj := fun i h st b hb => by
    obtain ⟨⟨old, he⟩, ⟨o, ho, hc, hd⟩, _⟩ := st
    rcases List.mem_cons.mp hb with z | z
    · rw [z]; exact ⟨_, he, fun v q => nomatch q⟩
    · rw [List.mem_singleton.mp z]; exact ⟨o, ho, fun v q => by rw [hd] at q; cases q⟩
  keep := fun i h h' ⟨⟨old, he⟩, hi, hne⟩ k => ⟨⟨old, k e (by simp) _ he⟩, hi.at fun o q => k it (by simp) o q, hne⟩
  item := by
    intro X hP hw hK hc i pins s σ H E I hf ⟨⟨old, he⟩, hit, hne⟩ ⟨xs, x, hq, hx⟩
    subst hP hw hK
    obtain ⟨its, rv, p, hz⟩ := I.tuple hq
    have hp : s.heap.IsTuple a its.toArray := p
    obtain ⟨u, hu, ru⟩ := rv.get hx
    have hel : e < s.heap.objs.size := Heap.lt_size he
    have hil : it < s.heap.objs.size := by obtain ⟨_, q, _⟩ := hit; exact Heap.lt_size q
    have hae : e ≠ a := fun z => by
      obtain ⟨o, q, hc, _⟩ := hp
      rw [← z, he] at q
      cases q
      exact absurd (Value.type.inj hc) (by decide)
    have hai : a ≠ it := fun z => by
      obtain ⟨o, q, hc, _⟩ := hp
      obtain ⟨o2, q2, hc2, _⟩ := hit
      rw [z, q2] at q
      cases q
      rw [hc2] at hc; exact absurd (Value.type.inj hc) (by decide)
    have hD : Draws X.prog X.w X.A.in1 it [it, a] its.toArray.size (fun i v => its.toArray[i]? = some v) (fun i h => h.IsTupleIter it a i ∧ h.IsTuple a its.toArray) := Draws.tuple (show X.A.in1.handled = none from I.ok.hd hc) it a hai its.toArray
    have hlt : i < its.toArray.size := by
      have := (List.getElem?_eq_some_iff.mp hu).1
      simpa using this
    refine wpAny_pyNext_enum_itemD hD he ⟨hit, hp⟩ hlt hne (fun z => by
      rcases List.mem_cons.mp z with z | z
      · exact hne z
      · exact hae (List.mem_singleton.mp z)) fun y h' tk hy ho hst hT hsz hk => ?_
    have ey : y = u := by
      have hu' : its.toArray[i]? = some u := by simpa using hu
      rw [hu'] at hy; exact (Option.some.inj hy).symm
    subst ey
    refine ⟨_, rfl, wpAny_letOwnedTupleGo_enum (s := { s with heap := h', toks := tk + 1 }) ho fun h'' he' sb => ?_⟩
    have hT2 : h''.get? s.heap.objs.size = some { cls := .type "tuple", data := .seq #[.int i tk, y] } := (sb.2 _ (Nat.ne_of_gt hel)).trans hT
    have new : ObjOk X.prog X.w (upd H s.heap.objs.size (.tup [.int (i : Nat), x])) h'' s.heap.objs.size (.tup [.int (i : Nat), x]) :=
      ⟨by show 2 ≤ sizeLine; decide, [.int i tk, y], .cons ⟨_, rfl⟩ (.cons ru .nil), ⟨_, hT2, rfl, _, rfl⟩⟩
    have I1 : Inv X pins σ (upd H s.heap.objs.size (.tup [.int (i : Nat), x])) { s with heap := h'', toks := tk + 1 } :=
      I.turnedNew (ch := [e, it]) (fun b ob hb q => (sb.2 b (fun z => hb (by simp [z]))).trans (hk b ob (fun z => hb (by simp [z])) (fun z => hb (by simp [z])) q)) hf (Nat.le_refl _) new
    refine ⟨.ref s.heap.objs.size, _, I1, rfl, ⟨_, x, rfl, I.hok.fresh (Nat.le_refl _), rfl, fun ys hy => by rw [I.tuple_inj hy hq]; exact hx⟩, ⟨⟨y, ?_⟩, hst.1.at fun o q => (sb.2 it (Ne.symm hne)).trans q, hne⟩, fun b hb => ?_⟩
    · have e1 : ((i + 1 : Nat) : Int) = (i : Int) + 1 := by omega
      rw [e1]; exact he'
    · have hb' : b ≠ s.heap.objs.size := by
        rcases List.mem_cons.mp hb with z | z
        · rw [z]; exact Nat.ne_of_lt hel
        · rw [List.mem_singleton.mp z]; exact Nat.ne_of_lt hil
      rw [upd_ne hb']
      exact (hf b hb).1
  done := by
    intro X hP hw hK hc i pins s σ H E I hf ⟨⟨old, he⟩, hit, hne⟩ ⟨xs, hq, hx⟩
    subst hP hw hK
    obtain ⟨its, rv, p, hz⟩ := I.tuple hq
    have hp : s.heap.IsTuple a its.toArray := p
    obtain ⟨f0, f1, f2, f3, f4, f5⟩ := hf it (by simp)
    have hl := rv.length
    have hai : a ≠ it := fun z => by
      obtain ⟨o, q, hc, _⟩ := hp
      obtain ⟨o2, q2, hc2, _⟩ := hit
      rw [z, q2] at q
      cases q
      rw [hc2] at hc; exact absurd (Value.type.inj hc) (by decide)
    have hT : s.TypeIs (.ref e) "enumerate" := ⟨_, he, rfl⟩
    unfold pyNext
    refine wpAny_bind (wpAny_attempt (wpAny_callSpecial?_slot (name := Str.ofString "__next__") hT F.slot_enumerate_next
      (wpAny_call_entry F.slot_enumerate_next hT F.entry_enumerate_next ?_ (F.args_enumerate_next_1 _))))
    show wpAny _ _ (field (.ref e) 2 >>= _) _ _ _
    refine wpAny_bind (wpAny_field he rfl (x := .ref it) rfl ?_)
    refine wpAny_bind (wpAny_nextOf_tuple_end (show X.A.in1.handled = none from I.ok.hd hc) hit hp (by simp; omega) fun h' y he' hx' => ?_)
    obtain ⟨o, ho, hcl⟩ := hx'
    refine wpAny_bind (wpAny_isInstance (T := "StopIteration") (b := true) ⟨o, ho, hcl⟩ isSubtype_stop ?_)
    exact wpAny_pure ⟨rfl, I.turned (t' := s.toks) (fun b o hb q => he' b o hb q) f0 f1 f3 f4 f5⟩
  self := fun A i s Q E ⟨⟨_, he⟩, _⟩ h => wpAny_pyIter_enum he h
def iEnumT (K : PySem.W.Frag) (ta : TA) : TI := fun σ H R => ta σ H fun vs H1 => ∃ a xs, vs = [.ref a] ∧ SqT K H1 a xs ∧ R (IteT K a) H1
theorem pi_enumT {X : Cx} {e : Expr} {ta : TA} {p pos tpos : Pos} {elts : List Expr} {kk : Nat} (hg : Gl X "enumerate") (hm : X.mg "enumerate" = none) (ha : PA X [e] ta) (hs : starEach [e] X.env = [(false, eval e X.env)] := by rfl) :
    PI X (.Tuple elts kk tpos) (.Call (.Name "enumerate" p) [e] [] pos) (iEnumT X.K ta) := by
  refine ⟨fun pins s σ H R I h => ?_⟩
  refine Call_ (ld_blt I hg hm boot_enumerate (PyProof.Rows.callWith_type1 (thn (ha.run pos pins s σ H _ I h) fun us s1 ⟨vs, H1, I1, r1, a, xs, ex, hq, q⟩ => ?_) hs rfl))
  subst ex
  cases r1 with
  | cons r rr =>
    cases rr
    cases r
    obtain ⟨its, rv, p', hz⟩ := I1.tuple hq
    refine dn_enum_call (begins_tuple a its.toArray) p' fun h' he hit hk => wpAny_pyIter_enum he ?_
    have I2 : Inv X pins σ H1 { s1 with heap := h' } := I1.kept (t' := s1.toks) hk
    refine ⟨s1.heap.objs.size + 1, [s1.heap.objs.size + 1, s1.heap.objs.size], _, _, H1, rfl, I2, turn_enumT a (s1.heap.objs.size + 1) s1.heap.objs.size, ⟨⟨.none, he⟩, ⟨_, hit, rfl, rfl⟩, Nat.succ_ne_self _⟩, fun b hb => ?_, q⟩
    have hle : s1.heap.objs.size ≤ b := by
      rcases List.mem_cons.mp hb with z | z
      · rw [z]; exact Nat.le_add_right _ _
      · rw [List.mem_singleton.mp z]; exact Nat.le_refl _
    exact I1.fpOk hle (I1.hok.fresh hle)
end DN

set_option maxHeartbeats 2000000
namespace DN
open PySem PySem.Spec L2 PyProof.Rows

/-! ### enumerate of a list or a tuple -/
def wEn (d : DE) : DW := fun ρ M => (d ρ M).bind fun t M1 => match seqT t M1 with
  | some us => .ok (fun M => decide (seqT t M = some us), enumT us) M1
  | none => .no
section
variable {K : PySem.W.Frag} {cA : Str → Addr} {μ : List Addr} {H : Hp} {M : Mem}
theorem enumT_get {us : List T} {i : Nat} {u : T} (e : (enumT us)[i]? = some u) : ∃ x, us[i]? = some x ∧ u = .tup [.int i, x] := by
  have hi := (List.getElem?_eq_some_iff.mp e).1
  have hl : i < us.length := by simpa [enumT] using hi
  refine ⟨us[i], List.getElem?_eq_getElem hl, ?_⟩
  simp [enumT, hl, List.getD, List.getElem?_eq_getElem hl] at e
  exact e.symm
theorem enumT_len {us : List T} : (enumT us).length = us.length := by simp [enumT]
theorem walk_e {n : Nat} {a : Addr} {us : List T} (ha : μ[n]? = some a) : WalkOk K cA μ H (Ite K a) (fun M => decide (seqT (.ob n) M = some us), enumT us) := by
  have at_ : ∀ {μ' : List Addr} {M' : Mem} {H' : Hp}, μ <+: μ' → RM K cA μ' M' H' → decide (seqT (.ob n) M' = some us) = true → ∃ xs, SqL K H' a xs ∧ RVs K μ' H' us xs := fun {μ' M' H'} hp hm hc => by
    have rv : RV K μ' H' (.ob n) (.ref a) := by rw [RV]; exact ⟨a, rfl, pre_get hp ha⟩
    obtain ⟨b, xs, e1, _, h2, _, h4⟩ := hm.seq (t := .ob n) (of_decide_eq_true hc) rv
    cases e1
    exact ⟨xs, h4 ⟨_, rfl⟩, h2⟩
  refine ⟨fun i u μ' M' H' hp _ hm hc e => ?_, fun i u μ' M' H' x H2 hp _ hm hc e hy => ?_, fun μ' M' H' hp _ hm hc => ?_⟩
  · obtain ⟨xs, h1, h2⟩ := at_ hp hm hc
    obtain ⟨y, e1, _⟩ := enumT_get e
    obtain ⟨v, e2, _⟩ := h2.get e1
    exact ⟨xs, v, h1, e2⟩
  · obtain ⟨xs, h1, h2⟩ := at_ hp hm hc
    obtain ⟨y, e1, rfl⟩ := enumT_get e
    obtain ⟨v, e2, rv⟩ := h2.get e1
    obtain ⟨A, z, rfl, hA, rfl, e3⟩ := hy
    rw [e3 xs h1] at e2
    cases e2
    have hx : Ext H' (upd H' A (.tup [.int i, v])) := Ext.new hA
    refine ⟨hx, hm.fresh hA, ?_⟩
    rw [RV]
    exact ⟨A, _, rfl, .inl (.inl upd_same), .cons (by rw [RV]) (.cons (rv.mono (List.prefix_refl _) hx) .nil)⟩
  · obtain ⟨xs, h1, h2⟩ := at_ hp hm hc
    exact ⟨xs, h1, by rw [enumT_len]; exact Nat.le_of_eq h2.length.symm⟩
theorem walk_eT {a : Addr} {us : List T} {xs : List V} {chk : Mem → Bool} (h1 : SqT K H a xs) (h2 : RVs K μ H us xs) : WalkOk K cA μ H (IteT K a) (chk, enumT us) := by
  refine ⟨fun i u μ' M' H' hp hx hm hc e => ?_, fun i u μ' M' H' x H2 hp hx hm hc e hy => ?_, fun μ' M' H' hp hx hm hc => ?_⟩
  · obtain ⟨y, e1, _⟩ := enumT_get e
    obtain ⟨v, e2, _⟩ := h2.get e1
    exact ⟨xs, v, hx.tup h1, e2⟩
  · obtain ⟨y, e1, rfl⟩ := enumT_get e
    obtain ⟨v, e2, rv⟩ := h2.get e1
    obtain ⟨A, z, rfl, hA, rfl, e3⟩ := hy
    rw [e3 xs (hx.tup h1)] at e2
    cases e2
    have hx2 : Ext H' (upd H' A (.tup [.int i, v])) := Ext.new hA
    refine ⟨hx2, hm.fresh hA, ?_⟩
    rw [RV]
    exact ⟨A, _, rfl, .inl (.inl upd_same), .cons (by rw [RV]) (.cons (rv.mono hp (hx.trans hx2)) .nil)⟩
  · exact ⟨xs, hx.tup h1, by rw [enumT_len]; exact Nat.le_of_eq h2.length.symm⟩
end
section
variable {X : Cx} {cA : Str → Addr} {ea : Option EA} {W : WX} {l : Expr} {d : DE} {p pos tpos : Pos} {elts : List Expr} {kk : Nat}
theorem w_enum (hm : X.mg "enumerate" = none) (hl : PE X l (tD X.K cA ea W d)) (hg : Gl X "enumerate" := by rfl) (hs : starEach [l] X.env = [(false, eval l X.env)] := by rfl) :
    PI X (.Tuple elts kk tpos) (.Call (.Name "enumerate" p) [l] [] pos) (tW X.K cA ea W (wEn d)) := by
  refine ⟨fun pins s σ H R I ⟨ρ, μ, M, he, hmm, hr⟩ => ?_⟩
  have hA : PA X [l] (tDA X.K cA ea W (dConsA d dNilA)) := s_consA hl s_nilA hs
  have h1 := hr.bind
  cases q : d ρ M with
  | no => rw [q] at h1; exact h1.elim
  | ex x M1 =>
    rw [q] at h1
    refine (pi_enum hg hm hA hs).run pins s σ H R I ⟨ρ, μ, M, he, hmm, ?_⟩
    show Run X.K cA W σ μ H ((d ρ M).bind _) _
    rw [q]
    exact h1
  | ok t M1 =>
    rw [q] at h1
    have ev : dConsA d dNilA ρ M = .ok [t] M1 := by unfold dConsA dNilA; rw [q]; rfl
    cases e : seqT t M1 with
    | none =>
      refine (pi_enum hg hm hA hs).run pins s σ H R I ⟨ρ, μ, M, he, hmm, ?_⟩
      rw [ev]
      intro μ1 H1 hp hx hm1 xs rx
      have h2 := h1.ok hp hx hm1
      simp only [e] at h2
      exact h2.elim
    | some us =>
      cases t with
      | tup ts =>
        refine (pi_enumT hg hm hA hs).run pins s σ H R I ⟨ρ, μ, M, he, hmm, ?_⟩
        rw [ev]
        intro μ1 H1 hp hx hm1 xs rx
        have h2 := h1.ok hp hx hm1
        rw [RVs] at rx
        obtain ⟨v, r, rfl, r1, r2⟩ := rx
        rw [RVs] at r2
        subst r2
        rw [RV] at r1
        obtain ⟨a, ys, rfl, g1, g2⟩ := r1
        exact ⟨a, ys, rfl, g1, h2.ok0 hm1 _ (walk_eT g1 g2)⟩
      | ob n =>
        refine (pi_enum hg hm hA hs).run pins s σ H R I ⟨ρ, μ, M, he, hmm, ?_⟩
        rw [ev]
        intro μ1 H1 hp hx hm1 xs rx
        have h2 := h1.ok hp hx hm1
        simp only [e] at h2
        rw [RVs] at rx
        obtain ⟨v, r, rfl, r1, r2⟩ := rx
        rw [RVs] at r2
        subst r2
        have r1' := r1
        rw [RV] at r1
        obtain ⟨a, rfl, ha⟩ := r1
        obtain ⟨b, ys, e1, _, _, _, h4⟩ := hm1.seq (t := .ob n) e r1'
        cases e1
        exact ⟨a, ys, rfl, h4 ⟨_, rfl⟩, h2.ok0 hm1 _ (walk_e ha)⟩
      | _ => cases e

/-! ### within an except suite -/
def dEf (er : Er) (cs : List Str) (f : Str) : DE := fun _ M => if er.1 ∈ cs then (match er.2.lookup f with
  | some t => .ok t M
  | none => .no) else .no
def dIsE (er : Er) (tab : List (Str × Bool)) : DE := fun _ M => match er.2, tab.lookup er.1 with
  | [], some b => .ok (.bl b) M
  | _, _ => .no
def XfF (K : PySem.W.Frag) (cA : Str → Addr) (cs : List Str) (f : Str) : Prop := ∀ c, c ∈ cs → XfC K (cA c) ∧ PySem.W.findIn K (.ref (cA c)) f = some none
def IsEF (K : PySem.W.Frag) (cA : Str → Addr) (v : Value) (tab : List (Str × Bool)) : Prop := ∀ c b, tab.lookup c = some b → ExcC K (cA c) ∧ PySem.W.kitOne K (.ref (cA c)) v = some b
theorem PE.never {e : Expr} {t : TE} (h : ∀ σ H Q, ¬ t σ H Q) : PE X e t := ⟨fun _ _ σ H Q _ q => absurd q (h σ H Q)⟩
variable {q : EA} {oe : Obj} {pn : List (Addr × Obj)} {n f : Str}
theorem s_ef {cs : List Str} (i : Nat) (hi : q.i = i) (hz : Zc q.cls q.d oe) (hf : ∃ vs, oe.data = .fields vs) (hF : XfF X.K cA cs f) (hN : X.N[i]? = some n := by rfl) (hv : Vis X.env.scope n := by first | exact Or.inl rfl | exact Or.inr (Or.inl rfl) | exact Or.inr (Or.inr rfl)) (hd : (n == ("__debug__" : Str)) = false := by decide)
    (hcd : (n == ("__classdict__" : Str)) = false := by decide) (hb : attributeBase (.Name n p) f X.env (eval (.Name n p) X.env) = eval (.Name n p) X.env := by rfl) :
    PE (X.suite q.a ((q.a, oe) :: pn)) (.Attribute (.Name n p) f pos) (tD X.K cA (some q) W (dEf q.e cs f)) := by
  by_cases hc : q.e.1 ∈ cs
  · refine PE.weak (pe_xf (X := X) (C := cA q.e.1) (hF _ hc).1 (hF _ hc).2 hz hf (pe_var (X := X.suite q.a ((q.a, oe) :: pn)) (i := i) hN hv hd hcd) hb) fun σ H Q ⟨ρ, μ, M, he, hm, hr⟩ => ?_
    obtain ⟨e1, e2, e3⟩ := he.exc q rfl
    rw [hi] at e1
    refine ⟨.ref q.a, e1, rfl, e2, ?_⟩
    unfold dEf at hr
    rw [if_pos hc] at hr
    cases l : q.e.2.lookup f with
    | none => simp only [l] at hr; exact hr.elim
    | some t =>
      simp only [l] at hr
      rcases e3 with ⟨e3, _⟩ | ⟨_, dd, vs, e4, e5, e6⟩
      · rw [e3] at l; cases l
      · obtain ⟨v, e7, rv⟩ := e6.lookup l
        exact ⟨dd, vs, v, e4, e5, e7, hr.val hm rv⟩
  · refine PE.never fun σ H Q ⟨ρ, μ, M, he, hm, hr⟩ => ?_
    unfold dEf at hr
    rw [if_neg hc] at hr
    exact hr
theorem isE_any {tab : List (Str × Bool)} {cv : Value} {c : V} {e2 : Expr} (i : Nat) (hi : q.i = i) (hz : Zc q.cls q.d oe) (hf : ∃ vs, oe.data = .fields vs) (hF : IsEF X.K cA cv tab) (hm : X.mg "isinstance" = none) (h2 : PE (X.suite q.a ((q.a, oe) :: pn)) e2 (tC c)) (hcv : ∀ u, RelV c u → u = cv) (hN : X.N[i]? = some n) (hv : Vis X.env.scope n) (hd : (n == ("__debug__" : Str)) = false)
    (hcd : (n == ("__classdict__" : Str)) = false) (hg : Gl X "isinstance") {np : Pos} (hst : starEach [.Name n np, e2] X.env = (false, eval (.Name n np) X.env) :: starEach [e2] X.env) (hst2 : starEach [e2] X.env = (false, eval e2 X.env) :: starEach [] X.env) (hpl : (backTo pos (starEach [e2] X.env)).any (·.1) = false) :
    PE (X.suite q.a ((q.a, oe) :: pn)) (.Call (.Name "isinstance" p) [.Name n np, e2] [] pos) (tD X.K cA (some q) W (dIsE q.e tab)) := by
  by_cases hc : (q.e.2 = [] ∧ ∃ b, tab.lookup q.e.1 = some b) ∧ q.cls = .ref (cA q.e.1) ∧ q.d = none
  · obtain ⟨⟨c1, b, c2⟩, c3, c4⟩ := hc
    obtain ⟨d1, d2⟩ := hF _ _ c2
    have hz' : Zc (.ref (cA q.e.1)) none oe := by rw [← c3, ← c4]; exact hz
    refine PE.weak (pe_callB (call_isE (X := X) d1 hz' hf) hg hm (by decide +kernel) (pa_cons (pe_var (X := X.suite q.a ((q.a, oe) :: pn)) (i := i) hN hv hd hcd) (pa_cons h2 pa_nil hst2) hst) (by decide) (by decide) hst hpl) fun σ H Q ⟨ρ, μ, M, he, hmm, hr⟩ => ?_
    obtain ⟨e1, _⟩ := he.exc q rfl
    rw [hi] at e1
    refine ⟨.ref q.a, e1, c, cv, b, rfl, hcv, d2, ?_⟩
    unfold dIsE at hr
    rw [c1, c2] at hr
    exact bl_ok hr hmm
  · refine PE.never fun σ H Q ⟨ρ, μ, M, he, hmm, hr⟩ => hc ?_
    obtain ⟨e1, e2, e3⟩ := he.exc q rfl
    unfold dIsE at hr
    split at hr
    · rename_i b z1 z2
      rcases e3 with ⟨_, e3⟩ | ⟨e3, _⟩
      · exact ⟨⟨z1, _, z2⟩, e2, e3⟩
      · exact absurd z1 e3
    · exact hr.elim
theorem s_isE {C : Str} {tab : List (Str × Bool)} {np cp : Pos} (i : Nat) (hi : q.i = i) (hz : Zc q.cls q.d oe) (hf : ∃ vs, oe.data = .fields vs) (hF : IsEF X.K cA (.ref (cA C)) tab) (hm : X.mg "isinstance" = none) (hmc : X.mg C = some (.ref (cA C))) (hN : X.N[i]? = some n := by rfl) (hv : Vis X.env.scope n := by first | exact Or.inl rfl | exact Or.inr (Or.inl rfl) | exact Or.inr (Or.inr rfl)) (hd : (n == ("__debug__" : Str)) = false := by decide)
    (hcd : (n == ("__classdict__" : Str)) = false := by decide) (hg : Gl X "isinstance" := by rfl) (hgb : Gl X C := by rfl) (hdb : (C == ("__debug__" : Str)) = false := by decide) (hst : starEach [.Name n np, .Name C cp] X.env = (false, eval (.Name n np) X.env) :: starEach [.Name C cp] X.env := by rfl) (hst2 : starEach [.Name C cp] X.env = (false, eval (.Name C cp) X.env) :: starEach [] X.env := by rfl) (hpl : (backTo pos (starEach [.Name C cp] X.env)).any (·.1) = false := by rfl) :
    PE (X.suite q.a ((q.a, oe) :: pn)) (.Call (.Name "isinstance" p) [.Name n np, .Name C cp] [] pos) (tD X.K cA (some q) W (dIsE q.e tab)) :=
  isE_any i hi hz hf hF hm (pe_glob (X := X.suite q.a ((q.a, oe) :: pn)) (v := .ref (cA C)) hgb hmc rfl hdb) (fun u r => r) hN hv hd hcd hg hst hst2 hpl
theorem s_isEb {b : Str} {tn : String} {tab : List (Str × Bool)} {np cp : Pos} (i : Nat) (hi : q.i = i) (hz : Zc q.cls q.d oe) (hf : ∃ vs, oe.data = .fields vs) (hF : IsEF X.K cA (.type tn) tab) (hm : X.mg "isinstance" = none) (hmb : X.mg b = none) (hv' : bootBuiltins b = some (.type tn) := by decide +kernel) (hN : X.N[i]? = some n := by rfl) (hv : Vis X.env.scope n := by first | exact Or.inl rfl | exact Or.inr (Or.inl rfl) | exact Or.inr (Or.inr rfl)) (hd : (n == ("__debug__" : Str)) = false := by decide)
    (hcd : (n == ("__classdict__" : Str)) = false := by decide) (hg : Gl X "isinstance" := by rfl) (hgb : Gl X b := by rfl) (hnb : b ≠ "__name__" := by decide) (hdb : (b == ("__debug__" : Str)) = false := by decide) (hst : starEach [.Name n np, .Name b cp] X.env = (false, eval (.Name n np) X.env) :: starEach [.Name b cp] X.env := by rfl) (hst2 : starEach [.Name b cp] X.env = (false, eval (.Name b cp) X.env) :: starEach [] X.env := by rfl) (hpl : (backTo pos (starEach [.Name b cp] X.env)).any (·.1) = false := by rfl) :
    PE (X.suite q.a ((q.a, oe) :: pn)) (.Call (.Name "isinstance" p) [.Name n np, .Name b cp] [] pos) (tD X.K cA (some q) W (dIsE q.e tab)) :=
  isE_any i hi hz hf hF hm (pe_bltn (X := X.suite q.a ((q.a, oe) :: pn)) (v := .ty tn) hgb hmb hv' rfl hnb hdb) (fun u r => r) hN hv hd hcd hg hst hst2 hpl
end
end DN

set_option maxHeartbeats 2000000
namespace DN
open PySem PySem.Spec L2 PyProof.Rows

/-! ### {} -/
def dDic (k : Nat) : DE := fun _ M => .ok (.ob M.length) (M ++ [.dic k []])
section
variable {X : Cx} {cA : Str → Addr} {ea : Option EA} {W : WX} {k : Nat} {pos : Pos}
theorem s_dic0 : PE X (.Dict [] [] pos) (tD X.K cA ea W (dDic 0)) :=
  PE.weak pe_dnewK fun σ H Q ⟨ρ, μ, M, he, hm, hr⟩ p hp => hr.new hm hp rfl ⟨[], upd_same, rfl⟩
theorem s_dic1 : PE X (.Dict [] [] pos) (tD X.K cA ea W (dDic 1)) :=
  PE.weak pe_dnewT fun σ H Q ⟨ρ, μ, M, he, hm, hr⟩ p hp => hr.new hm hp rfl ⟨[], upd_same, rfl⟩
theorem Cn.u64 (cn : Cn X W k) : X.A.units + 64 < cLine := by have := cn.hr.un; omega
theorem Cn.u65 (cn : Cn X W k) : X.A.units + 65 < cLine := by have := cn.hr.un; omega
theorem Cn.u1 (cn : Cn X W k) : X.A.units + 1 < cLine := by have := cn.hr.un; omega
end

/-! ### facts of the written part -/
inductive Fb where
  | oex (C : Str)
  | ins (C : Str)
  | kitB (c : Str) (b : String)
  | kitT (n : String) (C : Str)
  | kit (c C : Str) (b : Bool)
  | kitV (c : Str) (n : String) (b : Bool)
  | xf (c f : Str)
  | excC (c : Str)
  | exmB (c : Str) (n : String) (b : Bool)
def oexB (K : PySem.W.Frag) (C : Addr) : Bool := match K.lookup C with
  | some ⟨.type "type", _, .cls cd, sl⟩ => (match cd.mro, sl.toList with
    | .ref C' :: bm, [_, _, _, _, some (.builtin n), _] => C' == C && n == "ValueError.__new__" && cd.hasDict && !cd.hasDel && PySem.HandSPX.refsVE bm
    | _, _ => false)
  | _ => false
def sB {α : Type} [DecidableEq α] (a b : Option α) : Bool := decide (a = b)
theorem sB_ok {α : Type} [DecidableEq α] {a b : Option α} (h : sB a b = true) : a = b := of_decide_eq_true h
def Fb.ok (K : PySem.W.Frag) : Fb → Bool
  | .oex C => oexB K (He.ga K C) && (He.eqO (PySem.W.findIn K (.ref (He.ga K C)) "__setattr__") (some (some (.builtin "object.__setattr__"))) && (sB (PySem.W.subIn K (.ref (He.ga K C)) (.type "BaseException")) (some true) && (sB (PySem.W.typeIn K (.ref (He.ga K C))) (some (.type "type")) &&
      (PySem.W.keepIn K (.ref (He.ga K C)) && (He.eqO (PySem.W.findIn K (.ref (He.ga K C)) "__init__") (some (some (.ref (He.ma K (He.ga K C) "__init__")))) && sB (PySem.W.typeIn K (.ref (He.ma K (He.ga K C) "__init__"))) (some (.type "function")))))))
  | .ins C => He.eqO (PySem.W.findIn K (.ref (He.ga K C)) "__class__") (some (some (.builtin "object.__class__"))) && (He.eqO (PySem.W.specialIn K (.builtin "object.__class__") "__get__") (some (some (.builtin "getset_descriptor.__get__"))) && (sB (PySem.W.takesIn K (.builtin "object.__class__")) (some true) && sB (PySem.W.mroIn K (He.ga K C) (.type "object")) (some true)))
  | .kitB c b => sB (PySem.W.kitOne K (.ref (He.ga K c)) (.type b)) (some false)
  | .kitT n C => sB (PySem.W.kitOne K (.type n) (.ref (He.ga K C))) (some false)
  | .kit c C b => sB (PySem.W.kitOne K (.ref (He.ga K c)) (.ref (He.ga K C))) (some b)
  | .kitV c n b => sB (PySem.W.kitOne K (.ref (He.ga K c)) (.type n)) (some b)
  | .xf c f => xfB K (He.ga K c) && He.eqO (PySem.W.findIn K (.ref (He.ga K c)) f) (some none)
  | .excC c => xfB K (He.ga K c) && (He.eqO (PySem.W.findIn K (.ref (He.ga K c)) "__class__") (some (some (.builtin "object.__class__"))) && (He.eqO (PySem.W.specialIn K (.builtin "object.__class__") "__get__") (some (some (.builtin "getset_descriptor.__get__"))) && (sB (PySem.W.takesIn K (.builtin "object.__class__")) (some true) && sB (PySem.W.mroIn K (He.ga K c) (.type "object")) (some true))))
  | .exmB c n b => sB (PySem.W.exmOne K (.ref (He.ga K c)) (.type n)) (some b)
def exF (fb : List Fb) (K : PySem.W.Frag) : Bool := fb.all fun f => f.ok K
theorem fb_ok {K : PySem.W.Frag} {fb : List Fb} (h : exF fb K = true) (i : Nat) {f : Fb} (e : fb[i]? = some f) : f.ok K = true := List.all_eq_true.mp h f (List.mem_of_getElem? e)
section
variable {K : PySem.W.Frag}
theorem oex_ok {C : Str} (h : (Fb.oex C).ok K = true) : OexF K (He.ga K C) (He.fAd K (C, some "__init__")) := by
  obtain ⟨h1, h⟩ := He.ba h
  obtain ⟨h2, h⟩ := He.ba h
  obtain ⟨h3, h⟩ := He.ba h
  obtain ⟨h4, h⟩ := He.ba h
  obtain ⟨h5, h⟩ := He.ba h
  obtain ⟨h6, h7⟩ := He.ba h
  refine ⟨⟨?_, He.eqO_ok h2, sB_ok h3, sB_ok h4, h5⟩, He.eqO_ok h6, sB_ok h7⟩
  unfold oexB at h1
  split at h1
  · rename_i dd cd sl ho
    split at h1
    · rename_i C' bm k0 k1 k2 k3 n k5 hm hs
      simp only [Bool.and_eq_true, beq_iff_eq, Bool.not_eq_true'] at h1
      obtain ⟨⟨⟨⟨rfl, rfl⟩, hdict⟩, hdel⟩, hr⟩ := h1
      obtain ⟨nm, bs, mro, ns, qn, hd, sn, sub, ab, col, del⟩ := cd
      dsimp only at hm hdel hdict
      subst hm hdel hdict
      have hsl : sl = #[k0, k1, k2, k3, some (.builtin "ValueError.__new__"), k5] := by
        obtain ⟨l⟩ := sl
        simp only at hs
        rw [hs]
      subst hsl
      exact ⟨nm, qn, ns, bs, bm, sn, sub, ab, col, dd, k0, k1, k2, k3, k5, ho, hr⟩
    · cases h1
  · cases h1
theorem ins_ok {C : Str} (c : Cls K (He.ga K C)) (h : (Fb.ins C).ok K = true) : InsF K (He.ga K C) := by
  obtain ⟨h1, h⟩ := He.ba h
  obtain ⟨h2, h⟩ := He.ba h
  obtain ⟨h3, h4⟩ := He.ba h
  exact ⟨c, He.eqO_ok h1, He.eqO_ok h2, sB_ok h3, sB_ok h4⟩
theorem xf_ok {c f : Str} (h : (Fb.xf c f).ok K = true) : XfC K (He.ga K c) ∧ PySem.W.findIn K (.ref (He.ga K c)) f = some none := by
  obtain ⟨h1, h2⟩ := He.ba h
  exact ⟨xfB_ok h1, He.eqO_ok h2⟩
theorem excC_ok {c : Str} (h : (Fb.excC c).ok K = true) : ExcC K (He.ga K c) := by
  obtain ⟨h0, h⟩ := He.ba h
  obtain ⟨h1, h⟩ := He.ba h
  obtain ⟨h2, h⟩ := He.ba h
  obtain ⟨h3, h4⟩ := He.ba h
  obtain ⟨x1, x2, x3, x4⟩ := xfB_ok h0
  exact ⟨x1, x2, x3, x4, He.eqO_ok h1, He.eqO_ok h2, sB_ok h3, sB_ok h4⟩
theorem exF_ok {x : Str} (c : (He.Fa.exc x).ok K = true) : ExF K (He.ga K x) := by
  obtain ⟨h1, h2, h3, h4⟩ := He.exc_ok c
  exact ⟨h1, h2, h3, h4⟩
/-- a table of such facts -/
theorem mem_tab {α : Type} [BEq α] [LawfulBEq α] {β : Type} {l : List (α × β)} {c : α} {b : β} (h : l.lookup c = some b) : (c, b) ∈ l := by
  induction l with
  | nil => cases h
  | cons p r ih =>
    obtain ⟨a, v⟩ := p
    rw [List.lookup_cons] at h
    cases q : (c == a) with
    | true =>
      simp only [q] at h
      cases h
      rw [beq_iff_eq.mp q]
      exact List.mem_cons_self
    | false =>
      simp only [q] at h
      exact List.mem_cons_of_mem _ (ih h)
/-- facts about a row of things, each by its own -/
inductive AllF {α : Type} (p : α → Prop) : List α → Prop
  | nil : AllF p []
  | cons {a : α} {l : List α} (h : p a) (r : AllF p l) : AllF p (a :: l)
theorem AllF.mem {α : Type} {p : α → Prop} {l : List α} (h : AllF p l) : ∀ a, a ∈ l → p a := by
  induction h with
  | nil => intro a h; cases h
  | cons h r ih =>
    intro a m
    rcases List.mem_cons.mp m with e | m
    · rw [e]; exact h
    · exact ih a m
theorem exmF_of {v : Value} {tab : List (Str × Bool)} (h : AllF (fun p => PySem.W.exmOne K (.ref (He.ga K p.1)) v = some p.2) tab) : ExmF K (He.ga K) v tab := fun c b e => h.mem (c, b) (mem_tab e)
theorem isEF_of {v : Value} {tab : List (Str × Bool)} (h : AllF (fun p => ExcC K (He.ga K p.1) ∧ PySem.W.kitOne K (.ref (He.ga K p.1)) v = some p.2) tab) : IsEF K (He.ga K) v tab := fun c b e => h.mem (c, b) (mem_tab e)
theorem xfF_of {cs : List Str} {f : Str} (h : AllF (fun c => XfC K (He.ga K c) ∧ PySem.W.findIn K (.ref (He.ga K c)) f = some none) cs) : XfF K (He.ga K) cs f := h.mem
theorem fldOk_of {cs : List Str} {f : Str} (h : AllF (fun c => Cls K (He.ga K c) ∧ NoAttr K (He.ga K c) f) cs) : FldOk K (He.ga K) cs f := h.mem
theorem kitB_of {cs : List Str} {b : String} (h : AllF (fun c => InsF K (He.ga K c) ∧ PySem.W.kitOne K (.ref (He.ga K c)) (.type b) = some false) cs) : KitB K (He.ga K) cs b := h.mem
theorem kitC_of {cs : List Str} {C : Str} (h1 : AllF (fun n => PySem.W.kitOne K (.type n) (.ref (He.ga K C)) = some false) tags) (h : AllF (fun c => InsF K (He.ga K c) ∧ PySem.W.kitOne K (.ref (He.ga K c)) (.ref (He.ga K C)) = some (decide (c = C))) cs) : KitC K (He.ga K) cs C := ⟨h1.mem, h.mem⟩
end
/-! ### a member of a class -/
def memS : Stmt → Nat → Stmt
  | .ClassDef _ _ _ body .., j => body.getD j (.Pass ⟨0, 0, 0, 0⟩)
  | s, _ => s
end DN

set_option maxHeartbeats 2000000
namespace DN
open PySem PySem.Spec L2 PyProof.Rows

/-! ### what a def leaves behind: cells that nothing names any more are forgotten -/
mutual
/-- no cell from n on is named -/
def clT (n : Nat) : T → Bool
  | .ob k => decide (k < n)
  | .tup ts => clTs n ts
  | _ => true
def clTs (n : Nat) : List T → Bool
  | [] => true
  | t :: ts => clT n t && clTs n ts
end
def clC (n : Nat) : C → Bool
  | .lst ts => clTs n ts
  | .ro ts => clTs n ts
  | .ins _ fs => fs.all fun p => clT n p.2
  | .dic 0 kvs => kvs.all fun p => clT n p.2
  | .dic _ kvs => kvs.all fun p => clT n p.2
def C.beq : C → C → Bool
  | .lst a, .lst b => decide (a = b)
  | .ro a, .ro b => decide (a = b)
  | .ins a b, .ins c d => decide (a = c) && decide (b = d)
  | .dic a b, .dic c d => decide (a = c) && decide (b = d)
  | _, _ => false
theorem C.beq_eq {a b : C} (h : C.beq a b = true) : a = b := by
  cases a <;> cases b <;> simp [C.beq] at h <;> simp [h]
theorem C.beq_refl (a : C) : C.beq a a = true := by cases a <;> simp [C.beq]
/-- the cells of M stand in M', those that are not as they were name nothing from n on -/
def gcOk (n : Nat) : Mem → Mem → Bool
  | [], _ => true
  | c :: r, c' :: r' => (C.beq c c' || clC n c') && gcOk n r r'
  | _ :: _, [] => false
def gcR (M : Mem) : R T → R T
  | .ok t M' => if (gcOk M.length M M' && clT M.length t) = true then .ok t (M'.take M.length) else .ok t M'
  | .ex e M' => if (gcOk M.length M M' && e.2.all fun p => clT M.length p.2) = true then .ex e (M'.take M.length) else .ex e M'
  | .no => .no
def gcF (f : FD) : FD := fun ts M => gcR M (f ts M)
theorem gcOk_len {n : Nat} : ∀ {M M' : Mem}, gcOk n M M' = true → M.length ≤ M'.length
  | [], _, _ => Nat.zero_le _
  | c :: r, c' :: r', h => by
    rw [gcOk, Bool.and_eq_true] at h
    exact Nat.succ_le_succ (gcOk_len h.2)
  | _ :: _, [], h => by simp [gcOk] at h
theorem gcOk_at {n : Nat} : ∀ {M M' : Mem} {i : Nat} {c' : C}, gcOk n M M' = true → i < M.length → M'[i]? = some c' → M[i]? = some c' ∨ clC n c' = true
  | [], _, i, _, _, hi, _ => by simp at hi
  | c :: r, d :: r', 0, c', h, _, e => by
    rw [gcOk, Bool.and_eq_true, Bool.or_eq_true] at h
    simp at e; subst e
    rcases h.1 with h | h
    · left; rw [C.beq_eq h]; rfl
    · exact .inr h
  | c :: r, d :: r', i + 1, c', h, hi, e => by
    rw [gcOk, Bool.and_eq_true] at h
    have := gcOk_at (i := i) h.2 (by simpa using hi) (by simpa using e)
    simpa using this
  | _ :: _, [], _, _, h, _, _ => by simp [gcOk] at h
theorem gcOk_of {n : Nat} : ∀ {M M' : Mem}, M.length ≤ M'.length → (∀ i c', i < M.length → M'[i]? = some c' → M[i]? = some c' ∨ clC n c' = true) → gcOk n M M' = true
  | [], _, _, _ => rfl
  | c :: r, [], h, _ => by simp at h
  | c :: r, d :: r', h, k => by
    rw [gcOk, Bool.and_eq_true, Bool.or_eq_true]
    refine ⟨?_, gcOk_of (by simpa using h) fun i c' hi e => by simpa using k (i + 1) c' (by simpa using hi) (by simpa using e)⟩
    rcases k 0 d (by simp) rfl with e | e
    · left; simp at e; rw [e]; exact C.beq_refl _
    · exact .inr e
section
variable {K : PySem.W.Frag} {cA : Str → Addr} {μ μ' : List Addr} {H H' : Hp}
mutual
theorem RV.cl : ∀ {t : T} {v : V}, RV K μ H t v → clT μ.length t = true
  | .non, v, h => rfl
  | .bl b, v, h => rfl
  | .int i, v, h => rfl
  | .str x, v, h => rfl
  | .tup ts, v, h => by
    rw [RV] at h
    obtain ⟨a, xs, e, s, r⟩ := h
    rw [clT]; exact RVs.cl r
  | .ob n, v, h => by
    rw [RV] at h
    obtain ⟨a, e, m⟩ := h
    rw [clT]; exact decide_eq_true (List.getElem?_eq_some_iff.mp m).1
theorem RVs.cl : ∀ {ts : List T} {vs : List V}, RVs K μ H ts vs → clTs μ.length ts = true
  | [], vs, h => rfl
  | t :: ts, vs, h => by
    rw [RVs] at h
    obtain ⟨v, r, e, h1, h2⟩ := h
    rw [clTs, RV.cl h1, RVs.cl h2]; rfl
end
theorem RF.cl : ∀ {fs : List (Str × T)} {vs : List (Str × V)}, RF K μ H fs vs → (fs.all fun p => clT μ.length p.2) = true
  | [], vs, h => rfl
  | p :: ps, vs, ⟨v, r, e, h1, h2⟩ => by rw [List.all_cons, RV.cl h1, RF.cl h2]; rfl
theorem RK.cl : ∀ {fs : List (T × T)} {vs : List (Key × V)}, RK K μ H fs vs → (fs.all fun p => clT μ.length p.2) = true
  | [], vs, h => rfl
  | p :: ps, vs, ⟨k, v, r, e, h0, h1, h2⟩ => by rw [List.all_cons, RV.cl h1, RK.cl h2]; rfl
theorem RT.cl : ∀ {fs : List (T × T)} {vs : List (List Key × V)}, RT K μ H fs vs → (fs.all fun p => clT μ.length p.2) = true
  | [], vs, h => rfl
  | p :: ps, vs, ⟨ts, k, v, r, e, h0, h1, h2, h3⟩ => by rw [List.all_cons, RV.cl h2, RT.cl h3]; rfl
theorem RC.cl {a : Addr} {c : C} (h : RC K cA μ H a c) : clC μ.length c = true := by
  cases c with
  | lst ts => obtain ⟨xs, e, r⟩ := h; exact r.cl
  | ro ts => obtain ⟨xs, e, r⟩ := h; exact r.cl
  | ins c fs => obtain ⟨dx, vs, e, r⟩ := h; exact r.cl
  | dic k kvs =>
    cases k with
    | zero => obtain ⟨xs, e, r⟩ := h; exact r.cl
    | succ k => obtain ⟨xs, e, r⟩ := h; exact r.cl
mutual
theorem RV.down (hp : μ <+: μ') : ∀ {t : T} {v : V}, RV K μ' H t v → clT μ.length t = true → RV K μ H t v
  | .non, v, h, _ => by rw [RV] at h ⊢; exact h
  | .bl b, v, h, _ => by rw [RV] at h ⊢; exact h
  | .int i, v, h, _ => by rw [RV] at h ⊢; exact h
  | .str x, v, h, _ => by rw [RV] at h ⊢; exact h
  | .tup ts, v, h, c => by
    rw [RV] at h ⊢
    obtain ⟨a, xs, e, s, r⟩ := h
    exact ⟨a, xs, e, s, RVs.down hp r (by rw [clT] at c; exact c)⟩
  | .ob n, v, h, c => by
    rw [RV] at h ⊢
    obtain ⟨a, e, m⟩ := h
    have hn : n < μ.length := by rw [clT] at c; exact of_decide_eq_true c
    obtain ⟨t, rfl⟩ := hp
    rw [List.getElem?_append_left hn] at m
    exact ⟨a, e, m⟩
theorem RVs.down (hp : μ <+: μ') : ∀ {ts : List T} {vs : List V}, RVs K μ' H ts vs → clTs μ.length ts = true → RVs K μ H ts vs
  | [], vs, h, _ => by rw [RVs] at h ⊢; exact h
  | t :: ts, vs, h, c => by
    rw [RVs] at h ⊢
    obtain ⟨v, r, e, h1, h2⟩ := h
    rw [clTs, Bool.and_eq_true] at c
    exact ⟨v, r, e, RV.down hp h1 c.1, RVs.down hp h2 c.2⟩
end
theorem RF.down (hp : μ <+: μ') : ∀ {fs : List (Str × T)} {vs : List (Str × V)}, RF K μ' H fs vs → (fs.all fun p => clT μ.length p.2) = true → RF K μ H fs vs
  | [], vs, h, _ => h
  | p :: ps, vs, ⟨v, r, e, h1, h2⟩, c => by
    rw [List.all_cons, Bool.and_eq_true] at c
    exact ⟨v, r, e, h1.down hp c.1, RF.down hp h2 c.2⟩
theorem RK.down (hp : μ <+: μ') : ∀ {fs : List (T × T)} {vs : List (Key × V)}, RK K μ' H fs vs → (fs.all fun p => clT μ.length p.2) = true → RK K μ H fs vs
  | [], vs, h, _ => h
  | p :: ps, vs, ⟨k, v, r, e, h0, h1, h2⟩, c => by
    rw [List.all_cons, Bool.and_eq_true] at c
    exact ⟨k, v, r, e, h0, h1.down hp c.1, RK.down hp h2 c.2⟩
theorem RT.down (hp : μ <+: μ') : ∀ {fs : List (T × T)} {vs : List (List Key × V)}, RT K μ' H fs vs → (fs.all fun p => clT μ.length p.2) = true → RT K μ H fs vs
  | [], vs, h, _ => h
  | p :: ps, vs, ⟨ts, k, v, r, e, h0, h1, h2, h3⟩, c => by
    rw [List.all_cons, Bool.and_eq_true] at c
    exact ⟨ts, k, v, r, e, h0, h1, h2.down hp c.1, RT.down hp h3 c.2⟩
theorem RC.down (hp : μ <+: μ') {a : Addr} {c : C} (h : RC K cA μ' H a c) (q : clC μ.length c = true) : RC K cA μ H a c := by
  cases c with
  | lst ts => obtain ⟨xs, e, r⟩ := h; exact ⟨xs, e, r.down hp q⟩
  | ro ts => obtain ⟨xs, e, r⟩ := h; exact ⟨xs, e, r.down hp q⟩
  | ins c fs => obtain ⟨dx, vs, e, r⟩ := h; exact ⟨dx, vs, e, r.down hp q⟩
  | dic k kvs =>
    cases k with
    | zero => obtain ⟨xs, e, r⟩ := h; exact ⟨xs, e, r.down hp q⟩
    | succ k => obtain ⟨xs, e, r⟩ := h; exact ⟨xs, e, r.down hp q⟩
theorem RM.trunc {M M' : Mem} (h : RM K cA μ M H) (h' : RM K cA μ' M' H') (hp : μ <+: μ') (g : gcOk M.length M M' = true) : RM K cA μ (M'.take M.length) H' := by
  have hl := gcOk_len g
  have up : ∀ {n : Nat} {a : Addr}, μ[n]? = some a → μ'[n]? = some a := fun e => pre_get hp e
  have ta : ∀ {n : Nat} {c : C}, (M'.take M.length)[n]? = some c → M'[n]? = some c ∧ n < M.length := fun {n c} e => by
    rw [List.getElem?_take] at e
    split at e
    · rename_i q; exact ⟨e, q⟩
    · cases e
  refine ⟨by rw [List.length_take, Nat.min_eq_left hl]; exact h.len, fun n m a c d e1 e2 e3 e4 => h'.inj n m a c d (up e1) (up e2) (ta e3).1 (ta e4).1, fun n a c e1 e2 => ?_⟩
  obtain ⟨e3, hn⟩ := ta e2
  refine (h'.at_ n a c (up e1) e3).down hp ?_
  rcases gcOk_at g hn e3 with q | q
  · exact (h.at_ n a c e1 q).cl
  · rw [h.len]; exact q
end
/-- so does a def that forgets -/
theorem fn_gc {P : Program} {w : World} {K : PySem.W.Frag} {mg : Str → Option Value} {base : Heap} {cA : Str → Addr} {k : Nat} {f : Addr} {d : FD} (F : FnF P w K mg base cA k f d) : FnF P w K mg base cA k f (gcF d) := by
  obtain ⟨fd, ps, kp, b, F⟩ := F.ex
  refine ⟨fd, ps, kp, b, F.imp fun vs H Q E ⟨ts, μ, M, hv, hm, hr⟩ => ⟨ts, μ, M, hv, hm, ?_⟩⟩
  unfold gcF at hr
  cases e : d ts M with
  | no => rw [e] at hr; exact hr
  | ok t M' =>
    rw [e] at hr
    unfold gcR at hr
    dsimp only at hr
    by_cases g : (gcOk M.length M M' && clT M.length t) = true
    · rw [if_pos g] at hr
      rw [Bool.and_eq_true] at g
      intro μ' H' hp hx hm' x rx
      refine hr μ H' (List.prefix_refl _) hx (hm.trunc hm' hp g.1) x (rx.down hp ?_)
      rw [hm.len]; exact g.2
    · rw [if_neg g] at hr; exact hr
  | ex x M' =>
    rw [e] at hr
    unfold gcR at hr
    dsimp only at hr
    by_cases g : (gcOk M.length M M' && x.2.all fun p => clT M.length p.2) = true
    · rw [if_pos g] at hr
      rw [Bool.and_eq_true] at g
      intro μ' H' cls dd hp hx hm' rx
      refine hr μ H' cls dd (List.prefix_refl _) hx (hm.trunc hm' hp g.1) ?_
      obtain ⟨r1, r2⟩ := rx
      refine ⟨r1, ?_⟩
      rcases r2 with r2 | ⟨r0, a, vs', r3, r4, r5⟩
      · exact .inl r2
      · exact .inr ⟨r0, a, vs', r3, r4, r5.down hp (by rw [hm.len]; exact g.2)⟩
    · rw [if_neg g] at hr; exact hr
theorem gcF_ok {f : FD} {ts : List T} {M M' : Mem} {t : T} (e : f ts M = .ok t M') (hl : M.length ≤ M'.length) (k : ∀ i c', i < M.length → M'[i]? = some c' → M[i]? = some c' ∨ clC M.length c' = true) (ht : clT M.length t = true) : gcF f ts M = .ok t (M'.take M.length) := by
  unfold gcF
  rw [e]
  unfold gcR
  dsimp only
  rw [if_pos (by rw [Bool.and_eq_true]; exact ⟨gcOk_of hl k, ht⟩)]
theorem gcF_ex {f : FD} {ts : List T} {M M' : Mem} {x : Er} (e : f ts M = .ex x M') (hl : M.length ≤ M'.length) (k : ∀ i c', i < M.length → M'[i]? = some c' → M[i]? = some c' ∨ clC M.length c' = true) (ht : (x.2.all fun p => clT M.length p.2) = true) : gcF f ts M = .ex x (M'.take M.length) := by
  unfold gcF
  rw [e]
  unfold gcR
  dsimp only
  rw [if_pos (by rw [Bool.and_eq_true]; exact ⟨gcOk_of hl k, ht⟩)]
/-- only new cells -/
theorem gcF_app {f : FD} {ts : List T} {M G : Mem} {t : T} (e : f ts M = .ok t (M ++ G)) (ht : clT M.length t = true) : gcF f ts M = .ok t M := by
  rw [gcF_ok e (by simp) (fun i c' hi q => by rw [List.getElem?_append_left hi] at q; exact .inl q) ht]
  simp
theorem gcF_same {f : FD} {ts : List T} {M : Mem} {t : T} (e : f ts M = .ok t M) : gcF f ts M = .ok t M := by
  unfold gcF
  rw [e]
  unfold gcR
  dsimp only
  split
  · simp
  · rfl
theorem gcF_exsame {f : FD} {ts : List T} {M : Mem} {x : Er} (e : f ts M = .ex x M) : gcF f ts M = .ex x M := by
  unfold gcF
  rw [e]
  unfold gcR
  dsimp only
  split
  · simp
  · rfl
end DN

set_option maxHeartbeats 2000000
namespace DN
open PySem PySem.Spec L2 PyProof.Rows

/-! ### the law itself -/
def spL (K : PySem.W.Frag) (cA : Str → Addr) (f : FD) : Sp := fun vs H Q _ => spD K cA f vs H Q fun _ _ _ => False
abbrev CXn : CXT := fun _ _ _ _ _ _ => False
section
variable {P : Program} {w : World} {K : PySem.W.Frag} {mg : Str → Option Value} {base : Heap} {cA : Str → Addr}
theorem gc_sp {d : FD} {vs : List V} {H : Hp} {Q : VK} {E : XK} (h : spD K cA (gcF d) vs H Q E) : spD K cA d vs H Q E := by
  obtain ⟨ts, μ, M, hv, hm, hr⟩ := h
  refine ⟨ts, μ, M, hv, hm, ?_⟩
  unfold gcF at hr
  cases e : d ts M with
  | no => rw [e] at hr; exact hr
  | ok t M' =>
    rw [e] at hr
    unfold gcR at hr
    dsimp only at hr
    by_cases g : (gcOk M.length M M' && clT M.length t) = true
    · rw [if_pos g] at hr
      rw [Bool.and_eq_true] at g
      intro μ' H' hp hx hm' x rx
      refine hr μ H' (List.prefix_refl _) hx (hm.trunc hm' hp g.1) x (rx.down hp ?_)
      rw [hm.len]; exact g.2
    · rw [if_neg g] at hr; exact hr
  | ex x M' =>
    rw [e] at hr
    unfold gcR at hr
    dsimp only at hr
    by_cases g : (gcOk M.length M M' && x.2.all fun p => clT M.length p.2) = true
    · rw [if_pos g] at hr
      rw [Bool.and_eq_true] at g
      intro μ' H' cls dd hp hx hm' rx
      refine hr μ H' cls dd (List.prefix_refl _) hx (hm.trunc hm' hp g.1) ?_
      obtain ⟨r1, r2⟩ := rx
      refine ⟨r1, ?_⟩
      rcases r2 with r2 | ⟨r0, a, vs', r3, r4, r5⟩
      · exact .inl r2
      · exact .inr ⟨r0, a, vs', r3, r4, r5.down hp (by rw [hm.len]; exact g.2)⟩
    · rw [if_neg g] at hr; exact hr
theorem fn_law {x qual : Str} {params : Arguments} {body : List Stmt} {scope : Scope} {f : Addr} {fd : FuncData} {N ps : List Str} {k : Nat} {b : DS} (F : FunD K x qual params body scope [] [] f fd) (S : FnScope N ps scope)
    (h : ∀ (cdv : Value) (A : Around) (outer : List Env) (s : Shared) (H : Hp) (E : XK), Cn (cxOf (L2.CX P w) P w K mg base N qual scope f cdv A outer s H E) (fun cls d _ H' => E cls d H') k →
      PSs (cxOf (L2.CX P w) P w K mg base N qual scope f cdv A outer s H E) body (tDS K cA none (fun cls d _ H' => E cls d H') b)) :
    FnOk P w K mg base CXn (k + 1) f fd ps (spL K cA (gcF (dFn ps.length N.length b))) := by
  have F1 : FnOk P w K mg base (L2.CX P w) (k + 1) f fd ps (spD K cA (dFn ps.length N.length b)) := by
    refine F.ok S (fun vs H Q E hsp => ?_) (fun cdv A outer s H vs Q E hr hsp => ⟨_, h cdv A outer s H E ⟨takes_of rfl rfl rfl rfl, passes_of rfl, hr, S.nd, rfl⟩, ?_⟩)
    · obtain ⟨ts, μ, M, hv, hm, hr⟩ := hsp
      rw [← hv.length]
      unfold dFn at hr
      by_cases hl : ts.length = ps.length
      · exact hl
      · rw [if_neg hl] at hr; exact hr.elim
    · obtain ⟨ts, μ, M, hv, hm, hr⟩ := hsp
      unfold dFn at hr
      by_cases hl : ts.length = ps.length
      · rw [if_pos hl] at hr
        refine ⟨_, μ, M, RE.begin (N := N) hv hl, hm, ?_⟩
        cases e : b (ts.map some ++ List.replicate (N.length - ps.length) none) M with
        | nx ρ M' =>
          simp only [e] at hr
          exact fun σ' μ' H' hp hx hm' he' => hr μ' H' hp hx hm' _ (by rw [RV])
        | rt t M' =>
          simp only [e] at hr
          exact fun μ' H' x hp hx hm' rx => hr μ' H' hp hx hm' x rx
        | ex x ρ M' =>
          simp only [e] at hr
          exact fun σ' μ' H' cls d hp hx hm' he' hr' => hr μ' H' cls d hp hx hm' hr'
        | bk ρ M' => simp only [e] at hr; exact hr.elim
        | ct ρ M' => simp only [e] at hr; exact hr.elim
        | no => simp only [e] at hr; exact hr.elim
      · rw [if_neg hl] at hr; exact hr.elim
  refine ⟨fun vs H Q E hs => F1.len vs H Q _ (gc_sp hs), fun A outer s H args us vs Q E hr e0 hb hv hs => codeAny_mono (F1.run A outer s H args us vs Q (fun _ _ _ => False) hr e0 hb hv (gc_sp hs)) fun r s' q => ?_⟩
  cases r with
  | ok fl => cases fl <;> exact q
  | error e =>
    obtain ⟨_, _, _, _, _, _, _, _, _, _, _, _, z⟩ := (show L2.CX P w outer H s (fun _ _ _ => False) e s' from q)
    exact z
theorem ints_rv {μ : List Addr} {H : Hp} : ∀ ns : List Int, RVs K μ H (ns.map T.int) (ns.map V.int)
  | [] => .nil
  | n :: ns => .cons (by rw [RV]) (ints_rv ns)
theorem law_sp {d : FD} {H : Hp} {a : Addr} {ns : List Int} (hO : Only H) (hS : SqL K H a (ns.map V.int)) (hd : ∃ M', d [.ob 0] [.ro (ns.map .int)] = .ok (.bl true) M') : spL K cA d [.ref a] H (fun v _ => v = .bl true) (fun _ _ _ => False) := by
  obtain ⟨M', e⟩ := hd
  have ro : RoL K H a (ns.map V.int) := by
    rcases hS with (h | ⟨o, h⟩) | h
    · rcases hO a with z | ⟨o, xs, z⟩
      · rw [h] at z; cases z
      · rw [h] at z; cases z
    · exact .inl ⟨o, h⟩
    · exact .inr h
  refine ⟨[.ob 0], [a], [.ro (ns.map .int)], .cons (by rw [RV]; exact ⟨a, rfl, rfl⟩) .nil, ⟨rfl, fun n m b c d' e1 e2 e3 e4 hc _ => ?_, fun n b c e1 e2 => ?_⟩, ?_⟩
  · cases n with
    | zero => simp at e3; subst e3; cases hc
    | succ n => simp at e1
  · cases n with
    | zero =>
      simp at e1 e2
      subst e1 e2
      exact ⟨_, ro, ints_rv ns⟩
    | succ n => simp at e1
  · rw [e]
    intro μ' H' hp hx hm x rx
    rw [RV] at rx
    exact rx
end
end DN

set_option maxHeartbeats 1000000
namespace DN
open PySem PySem.Spec L2 PyProof.Rows
section
variable {α β : Type} {a : α} {M M1 : Mem} {x : Er} {f : α → Mem → R β} {ρ : Ev} {g : Ev → Mem → RS} {h : α → Mem → RS} {t u : T}
@[simp] theorem bind_ok : (R.ok a M).bind f = f a M := Eq.trans rfl rfl
@[simp] theorem bind_ex : (R.ex x M : R α).bind f = .ex x M := Eq.trans rfl rfl
@[simp] theorem bind_no : (R.no : R α).bind f = .no := Eq.trans rfl rfl
@[simp] theorem toS_ok : (R.ok a M).toS ρ h = h a M := Eq.trans rfl rfl
@[simp] theorem toS_ex : (R.ex x M : R α).toS ρ h = .ex x ρ M := Eq.trans rfl rfl
@[simp] theorem toS_no : (R.no : R α).toS ρ h = .no := Eq.trans rfl rfl
@[simp] theorem sb_nx : (RS.nx ρ M).bind g = g ρ M := Eq.trans rfl rfl
@[simp] theorem sb_rt : (RS.rt t M).bind g = .rt t M := Eq.trans rfl rfl
@[simp] theorem sb_bk : (RS.bk ρ M).bind g = .bk ρ M := Eq.trans rfl rfl
@[simp] theorem sb_ct : (RS.ct ρ M).bind g = .ct ρ M := Eq.trans rfl rfl
@[simp] theorem sb_ex : (RS.ex x ρ M).bind g = .ex x ρ M := Eq.trans rfl rfl
@[simp] theorem sb_no : (RS.no).bind g = .no := Eq.trans rfl rfl
@[simp] theorem tu_nx : (RS.nx ρ M).turn g = g ρ M := Eq.trans rfl rfl
@[simp] theorem tu_ct : (RS.ct ρ M).turn g = g ρ M := Eq.trans rfl rfl
@[simp] theorem tu_bk : (RS.bk ρ M).turn g = .nx ρ M := Eq.trans rfl rfl
@[simp] theorem tu_rt : (RS.rt t M).turn g = .rt t M := Eq.trans rfl rfl
@[simp] theorem tu_ex : (RS.ex x ρ M).turn g = .ex x ρ M := Eq.trans rfl rfl
@[simp] theorem on_nx : (RS.nx ρ M).only = .nx ρ M := Eq.trans rfl rfl
@[simp] theorem on_ex : (RS.ex x ρ M).only = .ex x ρ M := Eq.trans rfl rfl
variable {d d' : DE} {da : DA} {b c : DB} {s s' : DS}
@[simp] theorem dV_ (i : Nat) : dV i ρ M = match ρ[i]? with | some (some t) => .ok t M | _ => .no := Eq.trans rfl rfl
@[simp] theorem dC_ : dC t ρ M = .ok t M := Eq.trans rfl rfl
@[simp] theorem dBin_ {f : T → T → Mem → R T} : dBin f d d' ρ M = (d ρ M).bind fun x M1 => (d' ρ M1).bind fun y M2 => f x y M2 := Eq.trans rfl rfl
@[simp] theorem dUn_ {f : T → Mem → R T} : dUn f d ρ M = (d ρ M).bind f := Eq.trans rfl rfl
@[simp] theorem dNilA_ : dNilA ρ M = .ok [] M := Eq.trans rfl rfl
@[simp] theorem dConsA_ : dConsA d da ρ M = (d ρ M).bind fun x M1 => (da ρ M1).bind fun xs M2 => .ok (x :: xs) M2 := Eq.trans rfl rfl
@[simp] theorem dTup_ : dTup da ρ M = (da ρ M).bind fun xs M1 => if xs.length ≤ sizeLine then .ok (.tup xs) M1 else .no := Eq.trans rfl rfl
@[simp] theorem dLst_ : dLst da ρ M = (da ρ M).bind fun xs M1 => if xs.length ≤ sizeLine then .ok (.ob M1.length) (M1 ++ [.lst xs]) else .no := Eq.trans rfl rfl
def asB : T → Mem → R Bool
  | .bl b, M => .ok b M
  | _, _ => .no
@[simp] theorem asB_bl {b : Bool} : asB (.bl b) M = .ok b M := Eq.trans rfl rfl
@[simp] theorem dB_ : dB d ρ M = (d ρ M).bind asB := by unfold dB; congr; funext x M1; cases x <;> rfl
@[simp] theorem dAndB_ : dAndB b c ρ M = (b ρ M).bind fun x M1 => if x = true then c ρ M1 else .ok false M1 := Eq.trans rfl rfl
@[simp] theorem dOrB_ : dOrB b c ρ M = (b ρ M).bind fun x M1 => if x = true then .ok true M1 else c ρ M1 := Eq.trans rfl rfl
@[simp] theorem dNotB_ : dNotB b ρ M = (b ρ M).bind fun x M1 => .ok (!x) M1 := Eq.trans rfl rfl
@[simp] theorem dAnd_ : dAnd d d' ρ M = (d ρ M).bind fun x M1 => (asB x M1).bind fun x M1 => if x = true then d' ρ M1 else .ok (.bl false) M1 := by
  unfold dAnd; congr; funext x M1; cases x <;> rfl
@[simp] theorem dOr_ : dOr d d' ρ M = (d ρ M).bind fun x M1 => (asB x M1).bind fun x M1 => if x = true then .ok (.bl true) M1 else d' ρ M1 := by
  unfold dOr; congr; funext x M1; cases x <;> rfl
@[simp] theorem dNot_ : dNot d ρ M = (d ρ M).bind fun x M1 => (asB x M1).bind fun x M1 => .ok (.bl (!x)) M1 := by
  unfold dNot; congr; funext x M1; cases x <;> rfl
@[simp] theorem dIf_ : dIf b d d' ρ M = (b ρ M).bind fun x M1 => if x = true then d ρ M1 else d' ρ M1 := Eq.trans rfl rfl
@[simp] theorem dCallB_ {g : FD} : dCallB g da ρ M = (da ρ M).bind g := Eq.trans rfl rfl
@[simp] theorem dCall_ {g : FD} : dCall g da ρ M = (da ρ M).bind g := Eq.trans rfl rfl
@[simp] theorem dMeth_ {g : FD} {ck : T → Mem → Bool} : dMeth ck g d da ρ M = (d ρ M).bind fun t M1 => if ck t M1 = true then (da ρ M1).bind fun ts M2 => g (t :: ts) M2 else .no := Eq.trans rfl rfl
@[simp] theorem dFld_ {cs : List Str} {f : Str} : dFld cs f d ρ M = (d ρ M).bind (fldT cs f) := Eq.trans rfl rfl
@[simp] theorem dSetF_ {cs : List Str} {f : Str} : dSetF cs f d d' ρ M = (d ρ M).toS ρ fun t M1 => (d' ρ M1).toS ρ fun u M2 => (setFldT cs f t u M2).toS ρ fun _ M3 => .nx ρ M3 := Eq.trans rfl rfl
@[simp] theorem dMake_ {g : FD} {c : Str} : dMake c g da ρ M = (da ρ M).bind fun ts M1 => (g (.ob M1.length :: ts) (M1 ++ [.ins c []])).bind fun t M2 => if t = .non then .ok (.ob M1.length) M2 else .no := Eq.trans rfl rfl
@[simp] theorem dNoPart_ : dNoPart ρ M = .ok none M := Eq.trans rfl rfl
def asI : T → Mem → R (Option Int)
  | .int i, M => .ok (some i) M
  | _, _ => .no
@[simp] theorem asI_int {i : Int} : asI (.int i) M = .ok (some i) M := Eq.trans rfl rfl
@[simp] theorem dPart_ : dPart d ρ M = (d ρ M).bind asI := by unfold dPart; congr; funext x M1; cases x <;> rfl
@[simp] theorem dSlice_ {l h : DO} : dSlice d l h ρ M = (d ρ M).bind fun t M1 => (l ρ M1).bind fun lo M2 => (h ρ M2).bind fun hi M3 => sliceT t lo hi M3 := Eq.trans rfl rfl
@[simp] theorem dDic_ {k : Nat} : dDic k ρ M = .ok (.ob M.length) (M ++ [.dic k []]) := Eq.trans rfl rfl
@[simp] theorem dChain_ {p q : Int → Int → Bool} {d'' : DE} : dChain p q d d' d'' ρ M = (d ρ M).bind fun x M1 => (d' ρ M1).bind fun y M2 => match x, y with
  | .int i, .int j => if p i j = true then (d'' ρ M2).bind fun z M3 => (match z with
      | .int l => .ok (.bl (q j l)) M3
      | _ => .no) else .ok (.bl false) M2
  | _, _ => .no := Eq.trans rfl rfl
@[simp] theorem dSeq_ : dSeq s s' ρ M = (s ρ M).bind s' := Eq.trans rfl rfl
@[simp] theorem dNil_ : dNil ρ M = .nx ρ M := Eq.trans rfl rfl
@[simp] theorem dPass_ : dPass ρ M = .nx ρ M := Eq.trans rfl rfl
@[simp] theorem dBreak_ : dBreak ρ M = .bk ρ M := Eq.trans rfl rfl
@[simp] theorem dCont_ : dCont ρ M = .ct ρ M := Eq.trans rfl rfl
@[simp] theorem dExpr_ : dExpr d ρ M = (d ρ M).toS ρ fun _ M1 => .nx ρ M1 := Eq.trans rfl rfl
@[simp] theorem dRet_ : dRet d ρ M = (d ρ M).toS ρ fun t M1 => .rt t M1 := Eq.trans rfl rfl
@[simp] theorem dRetN_ : dRetN ρ M = .rt .non M := Eq.trans rfl rfl
@[simp] theorem dSet_ (i : Nat) : dSet i d ρ M = (d ρ M).toS ρ fun t M1 => .nx (ρ.set i (some t)) M1 := Eq.trans rfl rfl
@[simp] theorem dIfS_ : dIfS b s s' ρ M = (b ρ M).toS ρ fun x M1 => if x = true then s ρ M1 else s' ρ M1 := Eq.trans rfl rfl
@[simp] theorem gN_ (i : Nat) : gN i t ρ M = .nx (ρ.set i (some t)) M := Eq.trans rfl rfl
@[simp] theorem gsN_ : gsN [] ρ M = .nx ρ M := Eq.trans rfl rfl
@[simp] theorem gsC_ {g : DG} {r : List T → Ev → Mem → RS} {ts : List T} : gsC g r (t :: ts) ρ M = (g t ρ M).bind (r ts) := Eq.trans rfl rfl
@[simp] theorem gT_ {n : Nat} {r : List T → Ev → Mem → RS} {ts : List T} : gT n r (.tup ts) ρ M = if ts.length = n then r ts ρ M else .no := Eq.trans rfl rfl
@[simp] theorem gSub_ {o i : DE} {f : T → T → T → Mem → R T} : gSub' o i f t ρ M = (o ρ M).toS ρ fun ov M1 => (i ρ M1).toS ρ fun iv M2 => (f ov iv t M2).toS ρ fun _ M3 => .nx ρ M3 := Eq.trans rfl rfl
@[simp] theorem dAsg_ {g : DG} : dAsg d g ρ M = (d ρ M).toS ρ fun t M1 => (g t ρ M1).only := Eq.trans rfl rfl
@[simp] theorem dRaise_ {c : Str} : dRaise c ρ M = .ex (c, []) ρ M := Eq.trans rfl rfl
@[simp] theorem dRaiseA_ {c : Str} {fs : List Str} : dRaiseA c fs da ρ M = (da ρ M).toS ρ fun ts M1 => if ts.length = fs.length ∧ fs ≠ [] then .ex (c, (fs.zip ts).reverse) ρ M1 else .no := Eq.trans rfl rfl
@[simp] theorem dFor_ {w : DW} {g : DG} : dFor w g s ρ M = (w ρ M).toS ρ fun w M1 => loopF w.1 g s w.2 ρ M1 := Eq.trans rfl rfl
@[simp] theorem wSeq_ : wSeq d ρ M = (d ρ M).bind fun t M1 => match itemsT t M1 with
  | some ts => .ok (seqChk t ts, ts) M1
  | none => .no := Eq.trans rfl rfl
@[simp] theorem wEn_ : wEn d ρ M = (d ρ M).bind fun t M1 => match seqT t M1 with
  | some us => .ok (fun M => decide (seqT t M = some us), enumT us) M1
  | none => .no := Eq.trans rfl rfl
def rngW (ts : List T) (M : Mem) : R Wk := wRng (fun _ M => .ok ts M) [] M
@[simp] theorem rngW_1 {j : Int} : rngW [.int j] M = if -(2 ^ 62) ≤ j ∧ j < 2 ^ 62 then .ok (fun _ => true, rngT 0 j.toNat) M else .no := Eq.trans rfl rfl
@[simp] theorem rngW_2 {i j : Int} : rngW [.int i, .int j] M = if -(2 ^ 62) ≤ i ∧ i < 2 ^ 62 ∧ -(2 ^ 62) ≤ j ∧ j < 2 ^ 62 then .ok (fun _ => true, rngT i (j - i).toNat) M else .no := Eq.trans rfl rfl
@[simp] theorem wRng_ : wRng da ρ M = (da ρ M).bind rngW := Eq.trans rfl rfl
@[simp] theorem dLc_ {w : DW} {vs : List Nat} {g : DG} : dLc w vs g b d ρ M = (w ρ M).bind fun w M1 => loopC w.1 g b d (wipeT ρ vs) M1.length w.2 (M1 ++ [.lst []]) := Eq.trans rfl rfl
@[simp] theorem dYes_ : dYes ρ M = .ok true M := Eq.trans rfl rfl
@[simp] theorem wipeT_nil : wipeT ρ [] = ρ := Eq.trans rfl rfl
@[simp] theorem wipeT_cons {v : Nat} {vs : List Nat} : wipeT ρ (v :: vs) = (wipeT ρ vs).set v none := Eq.trans rfl rfl
def endF : RS → R T
  | .nx _ M' => .ok .non M'
  | .rt t M' => .ok t M'
  | .ex x _ M' => .ex x M'
  | _ => .no
@[simp] theorem endF_nx : endF (.nx ρ M) = .ok .non M := Eq.trans rfl rfl
@[simp] theorem endF_rt : endF (.rt t M) = .ok t M := Eq.trans rfl rfl
@[simp] theorem endF_ex : endF (.ex x ρ M) = .ex x M := Eq.trans rfl rfl
theorem dFn1 {k : Nat} {a : T} : dFn 1 k s [a] M = endF (s (some a :: List.replicate (k - 1) none) M) := Eq.trans rfl rfl
theorem dFn2 {k : Nat} {a b : T} : dFn 2 k s [a, b] M = endF (s (some a :: some b :: List.replicate (k - 2) none) M) := Eq.trans rfl rfl
theorem dFn3 {k : Nat} {a b c : T} : dFn 3 k s [a, b, c] M = endF (s (some a :: some b :: some c :: List.replicate (k - 3) none) M) := Eq.trans rfl rfl
theorem dFn4 {k : Nat} {a b c e : T} : dFn 4 k s [a, b, c, e] M = endF (s (some a :: some b :: some c :: some e :: List.replicate (k - 4) none) M) := Eq.trans rfl rfl
theorem dFn5 {k : Nat} {a b c e f : T} : dFn 5 k s [a, b, c, e, f] M = endF (s (some a :: some b :: some c :: some e :: some f :: List.replicate (k - 5) none) M) := Eq.trans rfl rfl
theorem if_true_ {γ : Type} {x y : γ} : (if true = true then x else y) = x := Eq.trans rfl rfl
theorem if_false_ {γ : Type} {x y : γ} : (if false = true then x else y) = y := Eq.trans rfl rfl
theorem if_T_ {γ : Type} {h : Decidable True} {x y : γ} : (@ite γ True h x y) = x := if_pos trivial
theorem if_F_ {γ : Type} {h : Decidable False} {x y : γ} : (@ite γ False h x y) = y := if_neg id
theorem dFn_ {n k : Nat} {ts : List T} (h : ts.length = n) : dFn n k s ts M = endF (s (ts.map some ++ List.replicate (k - n) none) M) := by
  unfold dFn
  rw [if_pos h]
  rfl
end
end DN

set_option maxHeartbeats 1000000
namespace DN
open PySem PySem.Spec L2 PyProof.Rows

/-! ### loops, plainly -/
section
variable {chk : Mem → Bool} {g : DG} {c : DB} {e : DE} {b : DS} {ρ : Ev} {n : Nat}
theorem loopC_nil {M : Mem} : loopC chk g c e ρ n [] M = if chk M = true then .ok (.ob n) M else .no := by rw [loopC]
theorem loopC_cons {M : Mem} {u : T} {us : List T} : loopC chk g c e ρ n (u :: us) M = if chk M = true then (match g u ρ M with
    | .nx ρ1 M1 => (match c ρ1 M1 with
      | .ok true M2 => (match e ρ1 M2 with
        | .ok y M3 => (match M3[n]? with
          | some (.lst acc) => if acc.length < sizeLine then loopC chk g c e ρ n us (M3.set n (.lst (acc ++ [y]))) else .no
          | _ => .no)
        | _ => .no)
      | .ok false M2 => loopC chk g c e ρ n us M2
      | _ => .no)
    | _ => .no) else .no := by
  rw [loopC]
  all_goals rfl
/-- a comprehension, step by step: I tells what stands (the items to come, those that were made, the memory) -/
theorem loopC_run (I : List T → List T → Mem → Prop) (h0 : ∀ acc M, I [] acc M → chk M = true)
    (h : ∀ u us acc M, I (u :: us) acc M → M[n]? = some (.lst acc) → chk M = true ∧ ∃ ρ1 p M2, g u ρ M = .nx ρ1 M ∧ c ρ1 M = .ok p M2 ∧ (p = false → M2[n]? = some (.lst acc) ∧ I us acc M2) ∧
      (p = true → ∃ y M3, e ρ1 M2 = .ok y M3 ∧ M3[n]? = some (.lst acc) ∧ acc.length < sizeLine ∧ I us (acc ++ [y]) (M3.set n (.lst (acc ++ [y]))))) :
    ∀ us acc M, I us acc M → M[n]? = some (.lst acc) → ∃ acc' M', loopC chk g c e ρ n us M = .ok (.ob n) M' ∧ M'[n]? = some (.lst acc') ∧ I [] acc' M'
  | [], acc, M, hi, hn => ⟨acc, M, by rw [loopC_nil, if_pos (h0 acc M hi)], hn, hi⟩
  | u :: us, acc, M, hi, hn => by
    obtain ⟨hc, ρ1, p, M2, e1, e2, k1, k2⟩ := h u us acc M hi hn
    rw [loopC_cons, if_pos hc]
    simp only [e1, e2]
    cases p with
    | false =>
      obtain ⟨a1, a2⟩ := k1 rfl
      exact loopC_run I h0 h us acc M2 a2 a1
    | true =>
      obtain ⟨y, M3, a1, a2, a3, a4⟩ := k2 rfl
      simp only [a1, a2, if_pos a3]
      have hl : n < M3.length := (List.getElem?_eq_some_iff.mp a2).1
      exact loopC_run I h0 h us _ _ a4 (List.getElem?_set_self hl)
/-- a comprehension whose parts leave the memory as it is -/
theorem loopC_pure {M : Mem} (ρ1 : T → Ev) (p : T → Bool) (f : T → T) : ∀ (us acc : List T), (∀ acc, chk (M ++ [.lst acc]) = true) →
    (∀ u, u ∈ us → ∀ acc, g u ρ (M ++ [.lst acc]) = .nx (ρ1 u) (M ++ [.lst acc]) ∧ c (ρ1 u) (M ++ [.lst acc]) = .ok (p u) (M ++ [.lst acc]) ∧ (p u = true → e (ρ1 u) (M ++ [.lst acc]) = .ok (f u) (M ++ [.lst acc]))) →
    acc.length + us.length ≤ sizeLine → loopC chk g c e ρ M.length us (M ++ [.lst acc]) = .ok (.ob M.length) (M ++ [.lst (acc ++ (us.filter p).map f)])
  | [], acc, hc, _, _ => by rw [loopC_nil, if_pos (hc acc)]; simp
  | u :: us, acc, hc, h, hz => by
    obtain ⟨e1, e2, e3⟩ := h u (List.mem_cons_self) acc
    have ih := fun acc' hz' => loopC_pure (M := M) ρ1 p f us acc' hc (fun v hv => h v (List.mem_cons_of_mem _ hv)) hz'
    rw [loopC_cons, if_pos (hc acc)]
    simp only [e1, e2]
    cases q : p u with
    | false =>
      simp only
      rw [ih acc (by simp at hz; omega)]
      simp [q]
    | true =>
      simp only [e3 q, List.getElem?_concat_length]
      rw [if_pos (by simp at hz; omega)]
      have es : (M ++ [C.lst acc]).set M.length (.lst (acc ++ [f u])) = M ++ [.lst (acc ++ [f u])] := by simp
      rw [es, ih (acc ++ [f u]) (by simp at hz ⊢; omega)]
      simp [q]
theorem loopF_nil {M : Mem} : loopF chk g b [] ρ M = if chk M = true then .nx ρ M else .no := by rw [loopF]
theorem loopF_cons {M : Mem} {u : T} {us : List T} : loopF chk g b (u :: us) ρ M = if chk M = true then ((g u ρ M).only).bind fun ρ1 M1 => (b ρ1 M1).turn (loopF chk g b us) else .no := by rw [loopF]
/-- a for statement: I tells what stands ahead of each round, Q what is wanted in the end -/
theorem loopF_run (I : List T → Ev → Mem → Prop) (Q : RS → Prop) (h0 : ∀ ρ M, I [] ρ M → chk M = true ∧ Q (.nx ρ M))
    (h : ∀ u us ρ M, I (u :: us) ρ M → chk M = true ∧ ∃ ρ1 M1, g u ρ M = .nx ρ1 M1 ∧ ((∃ ρ2 M2, b ρ1 M1 = .nx ρ2 M2 ∧ I us ρ2 M2) ∨ (∃ ρ2 M2, b ρ1 M1 = .ct ρ2 M2 ∧ I us ρ2 M2) ∨ (∃ t M2, b ρ1 M1 = .rt t M2 ∧ Q (.rt t M2)) ∨ (∃ x ρ2 M2, b ρ1 M1 = .ex x ρ2 M2 ∧ Q (.ex x ρ2 M2)) ∨ (∃ ρ2 M2, b ρ1 M1 = .bk ρ2 M2 ∧ Q (.nx ρ2 M2)))) :
    ∀ us ρ M, I us ρ M → Q (loopF chk g b us ρ M)
  | [], ρ, M, hi => by
    obtain ⟨a, q⟩ := h0 ρ M hi
    rw [loopF_nil, if_pos a]
    exact q
  | u :: us, ρ, M, hi => by
    obtain ⟨a, ρ1, M1, e1, k⟩ := h u us ρ M hi
    rw [loopF_cons, if_pos a, e1, on_nx, sb_nx]
    rcases k with ⟨ρ2, M2, e2, i2⟩ | ⟨ρ2, M2, e2, i2⟩ | ⟨t, M2, e2, q⟩ | ⟨x, ρ2, M2, e2, q⟩ | ⟨ρ2, M2, e2, q⟩ <;> rw [e2]
    · exact loopF_run I Q h0 h us ρ2 M2 i2
    · exact loopF_run I Q h0 h us ρ2 M2 i2
    · exact q
    · exact q
    · exact q
end
theorem le_line {n : Nat} (h : n ≤ 100000) : ([] : List T).length + n ≤ sizeLine := by
  rw [sizeLine_eq]
  show 0 + n ≤ _
  omega
theorem le_line' {n : Nat} (h : n ≤ 100000) : n ≤ sizeLine := by
  rw [sizeLine_eq]
  omega
theorem p62 : (2 : Int) ^ 62 = 4611686018427387904 := by rfl
theorem rng_ok2 {M : Mem} {i j : Int} (h : -1000000 ≤ i ∧ i ≤ 1000000 ∧ -1000000 ≤ j ∧ j ≤ 1000000) : rngW [.int i, .int j] M = .ok (fun _ => true, rngT i (j - i).toNat) M := by
  rw [rngW_2, p62, if_pos ⟨by omega, by omega, by omega, by omega⟩]
theorem rng_ok1 {M : Mem} {j : Int} (h : -1000000 ≤ j ∧ j ≤ 1000000) : rngW [.int j] M = .ok (fun _ => true, rngT 0 j.toNat) M := by
  rw [rngW_1, p62, if_pos ⟨by omega, by omega⟩]
/-! ### what is looked up -/
section
variable {M : Mem} {t : T} {ts : List T} {x : Str} {n : Nat} {c : C}
@[simp] theorem chk_str : seqChk (.str x) (signsT x) M = true := by simp [seqChk, itemsT]
@[simp] theorem chk_tup : seqChk (.tup ts) ts M = true := by simp [seqChk, itemsT, seqT]
theorem chk_ob (h : M[n]? = some (.lst ts)) : seqChk (.ob n) ts M = true := by simp [seqChk, itemsT, seqT, h]
@[simp] theorem items_str : itemsT (.str x) M = some (signsT x) := Eq.trans rfl rfl
@[simp] theorem items_tup : itemsT (.tup ts) M = some ts := Eq.trans rfl rfl
@[simp] theorem items_ob : itemsT (.ob n) M = seqT (.ob n) M := Eq.trans rfl rfl
@[simp] theorem seq_tup : seqT (.tup ts) M = some ts := Eq.trans rfl rfl
theorem seq_ob (h : M[n]? = some (.lst ts)) : seqT (.ob n) M = some ts := by simp [seqT, h]
theorem lt_of_some (h : M[n]? = some c) : n < M.length := (List.getElem?_eq_some_iff.mp h).1
theorem look_app {G : Mem} (h : M[n]? = some c) : (M ++ G)[n]? = some c := by rw [List.getElem?_append_left (lt_of_some h)]; exact h
theorem look_set {m : Nat} {d : C} (h : M[n]? = some c) (hm : m ≠ n) : (M.set m d)[n]? = some c := by rw [List.getElem?_set_ne hm]; exact h
theorem look_self {d : C} (h : n < M.length) : (M.set n d)[n]? = some d := List.getElem?_set_self h
@[simp] theorem len_tup : lenT [.tup ts] M = .ok (.int ts.length) M := Eq.trans rfl rfl
theorem len_str (h : x.length ≤ sizeLine) : lenT [.str x] M = .ok (.int x.length) M := by simp [lenT, h]
theorem len_ob (h : M[n]? = some (.lst ts)) : lenT [.ob n] M = .ok (.int ts.length) M := by simp [lenT, seqT, h]
theorem ix_tup {i : Nat} {u : T} (h : ts[i]? = some u) : ixT (.tup ts) (.int i) M = .ok u M := by
  have := atI_nat h
  simp [ixT, seqT, this]
theorem ix_ob {i : Nat} {u : T} (hn : M[n]? = some (.lst ts)) (h : ts[i]? = some u) : ixT (.ob n) (.int i) M = .ok u M := by
  have := atI_nat h
  simp [ixT, seqT, hn, this]
theorem ix_str {i : Nat} {k : Nat} (hz : x.length ≤ sizeLine) (h : x.cps.toList[i]? = some k) : ixT (.str x) (.int i) M = .ok (.str ⟨#[k]⟩) M := by
  have := atI_nat h
  simp [ixT, hz, this]
@[simp] theorem add_int {i j : Int} : addT (.int i) (.int j) M = .ok (.int (i + j)) M := Eq.trans rfl rfl
@[simp] theorem sub_int {i j : Int} : subT (.int i) (.int j) M = .ok (.int (i - j)) M := Eq.trans rfl rfl
@[simp] theorem lt_int' {i j : Int} : ltT (.int i) (.int j) M = .ok (.bl (decide (i < j))) M := Eq.trans rfl rfl
@[simp] theorem le_int' {i j : Int} : leT (.int i) (.int j) M = .ok (.bl (decide (i ≤ j))) M := Eq.trans rfl rfl
@[simp] theorem gt_int' {i j : Int} : gtT (.int i) (.int j) M = .ok (.bl (decide (j < i))) M := Eq.trans rfl rfl
@[simp] theorem ge_int' {i j : Int} : geT (.int i) (.int j) M = .ok (.bl (decide (j ≤ i))) M := Eq.trans rfl rfl
@[simp] theorem lt_str' {x y : Str} : ltT (.str x) (.str y) M = .ok (.bl (decide (x.cps.toList < y.cps.toList))) M := Eq.trans rfl rfl
@[simp] theorem gt_str' {x y : Str} : gtT (.str x) (.str y) M = .ok (.bl (decide (y.cps.toList < x.cps.toList))) M := Eq.trans rfl rfl
@[simp] theorem eq_int' {i j : Int} : eqT (.int i) (.int j) M = .ok (.bl (decide (i = j))) M := by simp [eqT, scalT]
@[simp] theorem eq_str' {x y : Str} : eqT (.str x) (.str y) M = .ok (.bl (decide (x = y))) M := by simp [eqT, scalT]
@[simp] theorem ne_int' {i j : Int} : neT (.int i) (.int j) M = .ok (.bl (!decide (i = j))) M := by simp [neT, scalT]
@[simp] theorem ne_str' {x y : Str} : neT (.str x) (.str y) M = .ok (.bl (!decide (x = y))) M := by simp [neT, scalT]
@[simp] theorem neg_int {i : Int} : negT (.int i) M = .ok (.int (-i)) M := Eq.trans rfl rfl
@[simp] theorem int_int {i : Int} : intT [.int i] M = .ok (.int i) M := Eq.trans rfl rfl
@[simp] theorem int_bl {b : Bool} : intT [.bl b] M = .ok (.int (if b then 1 else 0)) M := Eq.trans rfl rfl
@[simp] theorem isnot_non : isNotNT t .non M = .ok (.bl (!decide (t = .non))) M := Eq.trans rfl rfl
@[simp] theorem is_non : isNT t .non M = .ok (.bl (decide (t = .non))) M := Eq.trans rfl rfl
theorem bls_of {α : Type} (l : List α) (f : α → Bool) : blsOf (l.map fun a => .bl (f a)) = some (l.map f) := by
  induction l with
  | nil => rfl
  | cons a r ih => simp [blsOf, ih]
end
end DN

set_option maxHeartbeats 1000000
namespace DN
open PySem PySem.Spec L2 PyProof.Rows

/-! ### rows that go up -/
def ltS (a b : Str) : Bool := decide (a.cps.toList < b.cps.toList)
def adjAt (L : List Str) (i : Nat) : Bool := ltS (L.getD i default) (L.getD (i + 1) default)
def upS (L : List Str) : Bool := (List.range (L.length - 1)).all fun i => adjAt L i
/-- the signs of a text, each a text -/
def sgn (x : Str) : List Str := x.cps.toList.map fun c => ⟨#[c]⟩
theorem sgn_signs (x : Str) : signsT x = (sgn x).map .str := by simp [signsT, sgn]
theorem sgn_len (x : Str) : (sgn x).length = x.length := by simp [sgn, Str.length]
/-- a thing whose places are read: a text, a tuple of texts -/
structure Row (t : T) (L : List Str) : Prop where
  len : ∀ M, lenT [t] M = .ok (.int L.length) M
  ix : ∀ (i : Nat) (M : Mem), i < L.length → ixT t (.int i) M = .ok (.str (L.getD i default)) M
  small : L.length ≤ 100000
theorem row_str {x : Str} (h : x.length ≤ 100000) : Row (.str x) (sgn x) := by
  have hz : x.length ≤ sizeLine := by rw [sizeLine_eq]; omega
  refine ⟨fun M => by rw [len_str hz, sgn_len], fun i M hi => ?_, by rw [sgn_len]; exact h⟩
  have hi' : i < x.cps.toList.length := by simpa [sgn] using hi
  have e : x.cps.toList[i]? = some x.cps.toList[i] := List.getElem?_eq_getElem hi'
  rw [ix_str hz e]
  have hg : (sgn x).getD i default = ⟨#[x.cps.toList[i]]⟩ := by
    have hi2 : i < x.cps.size := by simpa using hi'
    simp [sgn, List.getD, hi2]
  rw [hg]
theorem row_tup {L : List Str} (h : L.length ≤ 100000) : Row (.tup (L.map .str)) L := by
  refine ⟨fun M => by simp, fun i M hi => ?_, h⟩
  refine ix_tup (u := .str (L.getD i default)) ?_
  rw [List.getElem?_map, List.getElem?_eq_getElem hi]
  simp [List.getD, hi]
/-- i - 1 of the row 1, 2, .. -/
def preI : T → Nat
  | .int k => (k - 1).toNat
  | _ => 0
theorem rng1_mem {n : Nat} {u : T} (h : u ∈ rngT 1 n) : ∃ i : Nat, i < n ∧ u = .int ((i : Int) + 1) ∧ preI u = i := by
  simp [rngT] at h
  obtain ⟨i, hi, e⟩ := h
  refine ⟨i, hi, by rw [← e]; congr 1; omega, by rw [← e]; simp [preI]; omega⟩
theorem rng1_map {n : Nat} (f : Nat → T) : (rngT 1 n).map (fun u => f (preI u)) = (List.range n).map f := by
  simp only [rngT, List.map_map]
  apply List.map_congr_left
  intro i hi
  simp [preI]
  congr 1
  omega
theorem rng1_filter {n : Nat} (f : Nat → Bool) : ((rngT 1 n).filter (fun u => f (preI u))).length = ((List.range n).filter f).length := by
  simp only [rngT, List.filter_map, List.length_map]
  congr 1
  apply List.filter_congr
  intro i hi
  simp [preI]
  congr 1
  omega
theorem rngT_len {lo : Int} {n : Nat} : (rngT lo n).length = n := by simp [rngT]
theorem all_filter {α : Type} (l : List α) (f : α → Bool) : decide (((l.filter fun x => !f x).length : Int) = 0) = l.all f := by
  induction l with
  | nil => rfl
  | cons a r ih =>
    cases q : f a with
    | true => simpa [List.filter_cons, q] using ih
    | false =>
      simp [List.filter_cons, q]
      omega
/-! ### kinds -/
def inM (m : Str) : T → Bool
  | .str w => w.cps.toList.all fun c => decide (c ∈ m.cps.toList)
  | _ => false
def kindB (m k : Str) : Bool := (signsT k).all (inM m) && upS (sgn k)
def isKind (m : Str) : T → Bool
  | .str k => kindB m k
  | _ => false
def strOf : T → Str
  | .str k => k
  | _ => default
def isLot (m : Str) : T → Bool
  | .tup ts => decide (ts ≠ []) && (ts.all (isKind m) && upS (ts.map strOf))
  | _ => false
theorem signs_mem {k : Str} {u : T} (h : u ∈ signsT k) : ∃ c, u = .str ⟨#[c]⟩ := by
  simp [signsT] at h
  obtain ⟨c, _, e⟩ := h
  exact ⟨c, e.symm⟩
theorem in_sign {c : Nat} {m : Str} {M : Mem} : inT false (.str ⟨#[c]⟩) (.str m) M = .ok (.bl (inM m (.str ⟨#[c]⟩))) M := by simp [inT, inM]
theorem notin_sign {c : Nat} {m : Str} {M : Mem} : inT true (.str ⟨#[c]⟩) (.str m) M = .ok (.bl (!inM m (.str ⟨#[c]⟩))) M := by simp [inT, inM]
theorem kinds_row {m : Str} {ts : List T} (h : ts.all (isKind m) = true) (hl : ts.length ≤ 100000) : Row (.tup ts) (ts.map strOf) := by
  have e : ts = (ts.map strOf).map .str := by
    rw [List.map_map]
    conv => lhs; rw [← List.map_id ts]
    apply List.map_congr_left
    intro t ht
    have := List.all_eq_true.mp h t ht
    cases t <;> simp [isKind] at this <;> rfl
  have r := row_tup (L := ts.map strOf) (by simpa using hl)
  rw [← e] at r
  exact r
/-- its type is told -/
def tyOk (cs : List Str) (t : T) (M : Mem) : Prop := ∃ y, tyN t M = some y ∧ ∀ c, y = .c c → c ∈ cs
/-- a thing that is asked about -/
structure Thing (cs : List Str) (t : T) (M : Mem) : Prop where
  ty : tyOk cs t M
  str : ∀ k, t = .str k → k.length ≤ 100000
/-- .. and its parts -/
structure Things (cs : List Str) (t : T) (M : Mem) : Prop extends Thing cs t M where
  tup : ∀ ts, t = .tup ts → (∀ u, u ∈ ts → Thing cs u M) ∧ ts.length ≤ 100000
theorem tyN_app {t : T} {M G : Mem} {y : TyN} (h : tyN t M = some y) : tyN t (M ++ G) = some y := by
  cases t with
  | ob n =>
    simp only [tyN] at h ⊢
    cases e : M[n]? with
    | none => rw [e] at h; cases h
    | some c => rw [look_app e]; rw [e] at h; exact h
  | _ => exact h
theorem tyOk.app {cs : List Str} {t : T} {M G : Mem} (h : tyOk cs t M) : tyOk cs t (M ++ G) := let ⟨y, e, k⟩ := h; ⟨y, tyN_app e, k⟩
theorem Thing.app {cs : List Str} {t : T} {M G : Mem} (h : Thing cs t M) : Thing cs t (M ++ G) := ⟨h.ty.app, h.str⟩
theorem isiB_str {cs : List Str} {k : Str} {M : Mem} : isiB cs "str" (.str k) M = .ok (.bl true) M := Eq.trans rfl rfl
theorem isiB_no {cs : List Str} {t : T} {M : Mem} {b : String} (h : tyOk cs t M) (hb : ∀ n, tyN t M = some (.b n) → (n == b || (n == "bool" && b == "int")) = false) : isiB cs b t M = .ok (.bl false) M := by
  obtain ⟨y, e, k⟩ := h
  unfold isiB
  rw [e]
  cases y with
  | b n => simp only [hb n e]
  | c c => simp only [if_pos (k c rfl)]
theorem isi_str {cs : List Str} {t : T} {M : Mem} (h : tyOk cs t M) : isiB cs "str" t M = .ok (.bl (match t with | .str _ => true | _ => false)) M := by
  cases t with
  | str k => rfl
  | non => rfl
  | bl b => rfl
  | int b => rfl
  | tup b => rfl
  | ob n =>
    refine isiB_no h fun s e => ?_
    simp only [tyN] at e
    split at e <;> simp at e <;> subst e <;> decide
theorem isi_tup {cs : List Str} {t : T} {M : Mem} (h : tyOk cs t M) : isiB cs "tuple" t M = .ok (.bl (match t with | .tup _ => true | _ => false)) M := by
  cases t with
  | str k => rfl
  | non => rfl
  | bl b => rfl
  | int b => rfl
  | tup b => rfl
  | ob n =>
    refine isiB_no h fun s e => ?_
    simp only [tyN] at e
    split at e <;> simp at e <;> subst e <;> decide
theorem isi_int {cs : List Str} {t : T} {M : Mem} (h : tyOk cs t M) : isiB cs "int" t M = .ok (.bl (match t with | .int _ => true | .bl _ => true | _ => false)) M := by
  cases t with
  | str k => rfl
  | non => rfl
  | bl b => rfl
  | int b => rfl
  | tup b => rfl
  | ob n =>
    refine isiB_no h fun s e => ?_
    simp only [tyN] at e
    split at e <;> simp at e <;> subst e <;> decide
theorem isi_bool {cs : List Str} {t : T} {M : Mem} (h : tyOk cs t M) : isiB cs "bool" t M = .ok (.bl (match t with | .bl _ => true | _ => false)) M := by
  cases t with
  | str k => rfl
  | non => rfl
  | bl b => rfl
  | int b => rfl
  | tup b => rfl
  | ob n =>
    refine isiB_no h fun s e => ?_
    simp only [tyN] at e
    split at e <;> simp at e <;> subst e <;> decide
def isWithin (lo hi : Int) : T → Bool
  | .int i => decide (lo ≤ i) && decide (i ≤ hi)
  | _ => false
end DN
namespace DN
open PySem
def okQ : T → Bool
  | .ob _ => false
  | .str k => decide (k.length ≤ 100000)
  | _ => true
def okP : T → Bool
  | .tup ts => ts.all okQ && decide (ts.length ≤ 100000)
  | t => okQ t
theorem okQ_thing {cs : List Str} {t : T} {M : Mem} (h : okQ t = true) : Thing cs t M := by
  cases t with
  | non => exact ⟨⟨_, rfl, fun _ e => by cases e⟩, fun _ e => by cases e⟩
  | bl b => exact ⟨⟨_, rfl, fun _ e => by cases e⟩, fun _ e => by cases e⟩
  | int b => exact ⟨⟨_, rfl, fun _ e => by cases e⟩, fun _ e => by cases e⟩
  | str b => exact ⟨⟨_, rfl, fun _ e => by cases e⟩, fun _ e => by cases e; exact of_decide_eq_true h⟩
  | tup b => exact ⟨⟨_, rfl, fun _ e => by cases e⟩, fun _ e => by cases e⟩
  | ob n => cases h
theorem okP_things {cs : List Str} {t : T} {M : Mem} (h : okP t = true) : Things cs t M := by
  cases t with
  | tup ts =>
    simp only [okP, Bool.and_eq_true, decide_eq_true_eq] at h
    exact ⟨okQ_thing (t := .tup ts) rfl, fun us e => by cases e; exact ⟨fun u hu => okQ_thing (List.all_eq_true.mp h.1 u hu), h.2⟩⟩
  | non => exact ⟨okQ_thing h, fun _ e => by cases e⟩
  | bl b => exact ⟨okQ_thing h, fun _ e => by cases e⟩
  | int b => exact ⟨okQ_thing h, fun _ e => by cases e⟩
  | str b => exact ⟨okQ_thing h, fun _ e => by cases e⟩
  | ob n => cases h
/-- a cell whose kind is told -/
def cellOk (cs : List Str) : C → Prop
  | .lst _ => True
  | .dic _ _ => True
  | .ins c _ => c ∈ cs
  | .ro _ => False
theorem ob_thing {cs : List Str} {n : Nat} {M : Mem} {c : C} (e : M[n]? = some c) (h : cellOk cs c) : Thing cs (.ob n) M := by
  refine ⟨?_, fun _ e => by cases e⟩
  unfold tyOk
  simp only [tyN, e]
  cases c with
  | lst ts => exact ⟨_, rfl, fun _ e => by cases e⟩
  | dic k ts => exact ⟨_, rfl, fun _ e => by cases e⟩
  | ins c fs => exact ⟨_, rfl, fun _ e => by cases e; exact h⟩
  | ro ts => exact h.elim
theorem ob_things {cs : List Str} {n : Nat} {M : Mem} {c : C} (e : M[n]? = some c) (h : cellOk cs c) : Things cs (.ob n) M := ⟨ob_thing e h, fun _ e => by cases e⟩
theorem tup_things {cs : List Str} {ts : List T} {M : Mem} (h : ∀ u, u ∈ ts → Thing cs u M) (hl : ts.length ≤ 100000) : Things cs (.tup ts) M := ⟨okQ_thing (t := .tup ts) rfl, fun us e => by cases e; exact ⟨h, hl⟩⟩
/-- things that stay things -/
theorem tyOk.keep {cs : List Str} {t : T} {M M' : Mem} (h : tyOk cs t M) (k : ∀ n, t = .ob n → tyN (.ob n) M' = tyN (.ob n) M) : tyOk cs t M' := by
  obtain ⟨y, e, r⟩ := h
  refine ⟨y, ?_, r⟩
  cases t with
  | ob n => rw [k n rfl]; exact e
  | _ => exact e
end DN

set_option maxHeartbeats 1000000
namespace DN
open PySem PySem.Spec L2 PyProof.Rows

theorem gcF_len {f : FD} {ts : List T} {M M' : Mem} {t : T} (e : f ts M = .ok t M') (hl : M'.length = M.length) : gcF f ts M = .ok t M' := by
  unfold gcF
  rw [e]
  unfold gcR
  dsimp only
  split
  · rw [← hl, List.take_length]
  · rfl
theorem gcF_exlen {f : FD} {ts : List T} {M M' : Mem} {x : Er} (e : f ts M = .ex x M') (hl : M'.length = M.length) : gcF f ts M = .ex x M' := by
  unfold gcF
  rw [e]
  unfold gcR
  dsimp only
  split
  · rw [← hl, List.take_length]
  · rfl
theorem ix_ob' {n : Nat} {ts : List T} {i : Int} {j : Nat} {u : T} {M : Mem} (hi : i = (j : Int)) (hn : M[n]? = some (.lst ts)) (h : ts[j]? = some u) : ixT (.ob n) (.int i) M = .ok u M := by
  rw [hi]; exact ix_ob hn h
theorem ix_tup' {ts : List T} {i : Int} {j : Nat} {u : T} {M : Mem} (hi : i = (j : Int)) (h : ts[j]? = some u) : ixT (.tup ts) (.int i) M = .ok u M := by
  rw [hi]; exact ix_tup h
theorem set_ob' {n : Nat} {ts : List T} {i : Int} {j : Nat} {u : T} {M : Mem} (hi : i = (j : Int)) (hn : M[n]? = some (.lst ts)) (h : j < ts.length) : setItemT (.ob n) (.int i) u M = .ok .non (M.set n (.lst (ts.set j u))) := by
  rw [hi]
  have e : ixN ts.length (j : Int) = some j := by
    unfold ixN
    rw [if_pos (by omega), if_pos (by omega)]
    simp
  simp only [setItemT, hn, e]
/-! ### the tape -/
def tc (q : Nat) (i b mix cnt : Int) : C := .lst [.ob q, .int i, .int b, .int mix, .int cnt]
section
variable {M : Mem} {p q : Nat} {i b mix cnt v : Int}
theorem tix0 (h : M[p]? = some (tc q i b mix cnt)) : ixT (.ob p) (.int 0) M = .ok (.ob q) M := ix_ob' (j := 0) rfl h rfl
theorem tix1 (h : M[p]? = some (tc q i b mix cnt)) : ixT (.ob p) (.int 1) M = .ok (.int i) M := ix_ob' (j := 1) rfl h rfl
theorem tix2 (h : M[p]? = some (tc q i b mix cnt)) : ixT (.ob p) (.int 2) M = .ok (.int b) M := ix_ob' (j := 2) rfl h rfl
theorem tix3 (h : M[p]? = some (tc q i b mix cnt)) : ixT (.ob p) (.int 3) M = .ok (.int mix) M := ix_ob' (j := 3) rfl h rfl
theorem tix4 (h : M[p]? = some (tc q i b mix cnt)) : ixT (.ob p) (.int 4) M = .ok (.int cnt) M := ix_ob' (j := 4) rfl h rfl
theorem tset1 (h : M[p]? = some (tc q i b mix cnt)) : setItemT (.ob p) (.int 1) (.int v) M = .ok .non (M.set p (tc q v b mix cnt)) := set_ob' (j := 1) rfl h (Nat.lt_of_lt_of_le (by decide : _ < 5) (Nat.le_refl 5))
theorem tset2 (h : M[p]? = some (tc q i b mix cnt)) : setItemT (.ob p) (.int 2) (.int v) M = .ok .non (M.set p (tc q i v mix cnt)) := set_ob' (j := 2) rfl h (Nat.lt_of_lt_of_le (by decide : _ < 5) (Nat.le_refl 5))
theorem tset3 (h : M[p]? = some (tc q i b mix cnt)) : setItemT (.ob p) (.int 3) (.int v) M = .ok .non (M.set p (tc q i b v cnt)) := set_ob' (j := 3) rfl h (Nat.lt_of_lt_of_le (by decide : _ < 5) (Nat.le_refl 5))
theorem tset4 (h : M[p]? = some (tc q i b mix cnt)) : setItemT (.ob p) (.int 4) (.int v) M = .ok .non (M.set p (tc q i b mix v)) := set_ob' (j := 4) rfl h (Nat.lt_of_lt_of_le (by decide : _ < 5) (Nat.le_refl 5))
end
/-- a tape stands at p -/
def Tape (M : Mem) (p : Nat) : Prop := ∃ (q : Nat) (ns : List Int) (i b mix cnt : Int), M[p]? = some (tc q i b mix cnt) ∧ M[q]? = some (.lst (ns.map .int)) ∧ q ≠ p ∧ 0 ≤ i ∧ ns.length ≤ 1000
theorem Tape.lt {M : Mem} {p : Nat} (h : Tape M p) : p < M.length := let ⟨_, _, _, _, _, _, e, _⟩ := h; lt_of_some e
/-- the memory, but for the cells of S -/
def Keep (S : List Nat) (M M' : Mem) : Prop := M.length ≤ M'.length ∧ ∀ j c, j ∉ S → M[j]? = some c → M'[j]? = some c
theorem Keep.refl {S : List Nat} {M : Mem} : Keep S M M := ⟨Nat.le_refl _, fun _ _ _ h => h⟩
theorem Keep.trans {S : List Nat} {M M' M'' : Mem} (a : Keep S M M') (b : Keep S M' M'') : Keep S M M'' := ⟨Nat.le_trans a.1 b.1, fun j c hj h => b.2 j c hj (a.2 j c hj h)⟩
theorem Keep.mono {S S' : List Nat} {M M' : Mem} (h : ∀ j, j ∈ S → j ∈ S') (a : Keep S M M') : Keep S' M M' := ⟨a.1, fun j c hj e => a.2 j c (fun q => hj (h j q)) e⟩
theorem Keep.set {S : List Nat} {M : Mem} {n : Nat} {c : C} (h : n ∈ S) : Keep S M (M.set n c) := ⟨by simp, fun j d hj e => look_set e fun q => hj (q ▸ h)⟩
theorem Keep.app {S : List Nat} {M G : Mem} : Keep S M (M ++ G) := ⟨by simp, fun j d _ e => look_app e⟩
theorem Keep.at {S : List Nat} {M M' : Mem} {j : Nat} {c : C} (k : Keep S M M') (h : M[j]? = some c) (hj : j ∉ S := by simp) : M'[j]? = some c := k.2 j c hj h
/-- of what stood only the tape's cell changed, and it is a tape still -/
structure TStep (M M' : Mem) (p : Nat) : Prop where
  tape : Tape M' p
  keep : Keep [p] M M'
  same : ∀ q i b mix cnt, M[p]? = some (tc q i b mix cnt) → ∃ i' b' mix' cnt', M'[p]? = some (tc q i' b' mix' cnt')
theorem TStep.refl {M : Mem} {p : Nat} (h : Tape M p) : TStep M M p := ⟨h, Keep.refl, fun _ _ _ _ _ e => ⟨_, _, _, _, e⟩⟩
theorem TStep.trans {M M' M'' : Mem} {p : Nat} (h : TStep M M' p) (h' : TStep M' M'' p) : TStep M M'' p :=
  ⟨h'.tape, h.keep.trans h'.keep, fun q i b mix cnt e => let ⟨_, _, _, _, e1⟩ := h.same q i b mix cnt e; h'.same _ _ _ _ _ e1⟩
theorem Tape.app {M G : Mem} {p : Nat} (h : Tape M p) : Tape (M ++ G) p := by
  obtain ⟨q, ns, i, b, mix, cnt, e1, e2, r⟩ := h
  exact ⟨q, ns, i, b, mix, cnt, look_app e1, look_app e2, r⟩
theorem TStep.app {M G : Mem} {p : Nat} (h : Tape M p) : TStep M (M ++ G) p := ⟨h.app, Keep.app, fun _ _ _ _ _ e => ⟨_, _, _, _, look_app e⟩⟩
/-- a cell of another thing is written -/
theorem Tape.write {M : Mem} {p n : Nat} {c : C} (h : Tape M p) (hn : n ≠ p) (hq : ∀ q i b mix cnt, M[p]? = some (tc q i b mix cnt) → n ≠ q) : Tape (M.set n c) p := by
  obtain ⟨q, ns, i, b, mix, cnt, e1, e2, r⟩ := h
  exact ⟨q, ns, i, b, mix, cnt, look_set e1 hn, look_set e2 (hq q i b mix cnt e1), r⟩
theorem gc_t {f : FD} {ts : List T} {M M1 : Mem} {t : T} {p : Nat} (e : f ts M = .ok t M1) (h : Tape M p) (st : TStep M M1 p) (ht : clT M.length t = true) : ∃ M', gcF f ts M = .ok t M' ∧ TStep M M' p ∧ M'.length = M.length := by
  have hl := st.keep.1
  have hp := h.lt
  obtain ⟨q, ns, i, b, mix, cnt, e1, e2, hq, r⟩ := h
  obtain ⟨i', b', mix', cnt', e3⟩ := st.same q i b mix cnt e1
  have hql := lt_of_some e2
  have cell : ∀ j c', j < M.length → M1[j]? = some c' → M[j]? = some c' ∨ (j = p ∧ c' = tc q i' b' mix' cnt') := fun j c' hj ej => by
    by_cases hjp : j = p
    · subst hjp
      rw [e3] at ej; cases ej
      exact .inr ⟨rfl, rfl⟩
    · have := st.keep.2 j M[j] (by simpa using hjp) (List.getElem?_eq_getElem hj)
      rw [this] at ej
      exact .inl (by rw [List.getElem?_eq_getElem hj]; exact ej)
  have tk : ∀ {j : Nat} {c : C}, j < M.length → M1[j]? = some c → (M1.take M.length)[j]? = some c := fun {j c} hj ej => by
    rw [List.getElem?_take, if_pos hj]; exact ej
  refine ⟨M1.take M.length, gcF_ok e hl (fun j c' hj ej => ?_) ht, ⟨⟨q, ns, i', b', mix', cnt', tk hp e3, tk hql (st.keep.2 _ _ (by simpa using hq) e2), hq, ?_⟩, ⟨by rw [List.length_take, Nat.min_eq_left hl]; exact Nat.le_refl _, fun j c hj ej => tk (lt_of_some ej) (st.keep.2 j c hj ej)⟩, fun q2 i2 b2 mix2 cnt2 e4 => ?_⟩, by rw [List.length_take, Nat.min_eq_left hl]⟩
  · rcases cell j c' hj ej with q1 | ⟨_, q2⟩
    · exact .inl q1
    · right
      rw [q2]
      simp [tc, clC, clTs, clT, hql]
  · obtain ⟨q3, ns3, i3, b3, mix3, cnt3, f1, f2, f3, f4, f5⟩ := st.tape
    rw [e3] at f1
    simp only [tc, Option.some.injEq, C.lst.injEq, List.cons.injEq, T.int.injEq] at f1
    refine ⟨by rw [f1.2.1]; exact f4, r.2⟩
  · rw [e1] at e4
    have e5 := Option.some.inj e4
    simp only [tc, C.lst.injEq, List.cons.injEq, T.ob.injEq] at e5
    rw [← e5.1]
    exact ⟨_, _, _, _, tk hp e3⟩
theorem mul_l {i j : Int} {M : Mem} (h : -1000000000000 ≤ i ∧ i ≤ 1000000000000) : mulT (.int i) (.int j) M = .ok (.int (i * j)) M := by
  have e : (2 : Int) ^ 64 = 18446744073709551616 := by rfl
  rw [mulT, if_pos (.inl (by rw [e]; omega))]
theorem mul_r {i j : Int} {M : Mem} (h : -1000000000000 ≤ j ∧ j ≤ 1000000000000) : mulT (.int i) (.int j) M = .ok (.int (i * j)) M := by
  have e : (2 : Int) ^ 64 = 18446744073709551616 := by rfl
  rw [mulT, if_pos (.inr (by rw [e]; omega))]
theorem mod_ok {i j : Int} {M : Mem} (h : 0 < j) : modT (.int i) (.int j) M = .ok (.int (i % j)) M := by
  rw [modT, if_pos h]
theorem div_ok {i j : Int} {M : Mem} (h : 0 < j ∧ j < 1073741824) : divT (.int i) (.int j) M = .ok (.int (i / j)) M := by
  rw [divT, if_pos h]
theorem pow_18 {M : Mem} : powT (.int 10) (.int 18) M = .ok (.int 1000000000000000000) M := by
  rw [powT, if_pos (by decide)]
  rfl
theorem pow_20 {M : Mem} : powT (.int 10) (.int 20) M = .ok (.int 100000000000000000000) M := by
  rw [powT, if_pos (by decide)]
  rfl
end DN
namespace DN
open PySem
theorem gcF_new {f : FD} {ts : List T} {M M' : Mem} {n : Nat} (e : f ts M = .ok (.ob n) M') (h : M.length ≤ n) : gcF f ts M = .ok (.ob n) M' := by
  unfold gcF
  rw [e]
  unfold gcR
  dsimp only
  rw [if_neg]
  rw [Bool.and_eq_true, clT]
  intro q
  have := of_decide_eq_true q.2
  omega
theorem ix_pick {n : Nat} {L : List T} {d : Int} {M : Mem} (hn : M[n]? = some (.lst L)) (h : 0 ≤ d ∧ d < L.length) : ∃ u, u ∈ L ∧ L[d.toNat]? = some u ∧ ixT (.ob n) (.int d) M = .ok u M := by
  have hl : d.toNat < L.length := by omega
  exact ⟨L[d.toNat], List.getElem_mem hl, List.getElem?_eq_getElem hl, ix_ob' (j := d.toNat) (by omega) hn (List.getElem?_eq_getElem hl)⟩
theorem ix_pickT {L : List T} {d : Int} {M : Mem} (h : 0 ≤ d ∧ d < L.length) : ∃ u, u ∈ L ∧ L[d.toNat]? = some u ∧ ixT (.tup L) (.int d) M = .ok u M := by
  have hl : d.toNat < L.length := by omega
  exact ⟨L[d.toNat], List.getElem_mem hl, List.getElem?_eq_getElem hl, ix_tup' (j := d.toNat) (by omega) (List.getElem?_eq_getElem hl)⟩
theorem strs_map (L : List Str) : strsOf (L.map .str) = some L := by
  induction L with
  | nil => rfl
  | cons a r ih => simp [strsOf, ih]
theorem add_str {x y : Str} {M : Mem} (h : x.length + y.length ≤ 100000) : addT (.str x) (.str y) M = .ok (.str (x ++ y)) M := by
  rw [addT, if_pos (le_line' h)]
theorem add_tup {x y : List T} {M : Mem} (h : x.length + y.length ≤ 100000) : addT (.tup x) (.tup y) M = .ok (.tup (x ++ y)) M := by
  rw [addT, if_pos (le_line' h)]
theorem add_ob {n k : Nat} {x y : List T} {M : Mem} (h1 : M[n]? = some (.lst x)) (h2 : M[k]? = some (.lst y)) (h : x.length + y.length ≤ 100000) : addT (.ob n) (.ob k) M = .ok (.ob M.length) (M ++ [.lst (x ++ y)]) := by
  simp only [addT, h1, h2]
  rw [if_pos (le_line' h)]
/-! ### all kinds over some marks -/
def dbl (f : List Str) (c : Nat) : List Str := f ++ f.map fun k => k ++ ⟨#[c]⟩
def kindsF (m : Str) : List Str := isort leS (m.cps.toList.foldl dbl [⟨#[]⟩])
end DN
namespace DN
open PySem
theorem TStep.setNew {M M' : Mem} {p n : Nat} {c : C} (h : TStep M M' p) (hT : Tape M p) (hn : M.length ≤ n) : TStep M (M'.set n c) p := by
  have hp := hT.lt
  obtain ⟨q, ns, i, b, mix, cnt, e1, e2, hq, r⟩ := hT
  obtain ⟨i', b', mix', cnt', e3⟩ := h.same q i b mix cnt e1
  have hql := lt_of_some e2
  obtain ⟨q3, ns3, i3, b3, mix3, cnt3, f1, f2, f3, f4, f5⟩ := h.tape
  have e5 := f1
  rw [e3] at e5
  have e6 := Option.some.inj e5
  simp only [tc, C.lst.injEq, List.cons.injEq, T.ob.injEq] at e6
  refine ⟨⟨q3, ns3, i3, b3, mix3, cnt3, look_set f1 (by omega), look_set f2 (by omega), f3, f4, f5⟩, ⟨by simpa using h.keep.1, fun j d hj ej => look_set (h.keep.2 j d hj ej) (by have := lt_of_some ej; omega)⟩, fun q2 i2 b2 mix2 cnt2 e4 => ?_⟩
  obtain ⟨a1, a2, a3, a4, a5⟩ := h.same q2 i2 b2 mix2 cnt2 e4
  exact ⟨a1, a2, a3, a4, look_set a5 (by omega)⟩
theorem TStep.appR {M M' G : Mem} {p : Nat} (h : TStep M M' p) : TStep M (M' ++ G) p := h.trans (TStep.app h.tape)
theorem TStep.get {M M' : Mem} {p j : Nat} {c : C} (h : TStep M M' p) (e : M[j]? = some c) (hj : j ≠ p) : M'[j]? = some c := h.keep.2 j c (by simpa using hj) e
/-! ### rows in order -/
def pairB : List Str → Bool
  | [] => true
  | a :: r => r.all (ltS a) && pairB r
theorem pairB_iff : ∀ {L : List Str}, pairB L = true ↔ List.Pairwise (fun a b => ltS a b = true) L
  | [] => by simp [pairB]
  | a :: r => by
    rw [pairB, Bool.and_eq_true, List.pairwise_cons, pairB_iff (L := r), List.all_eq_true]
theorem pair_up {L : List Str} (h : List.Pairwise (fun a b => ltS a b = true) L) : upS L = true := by
  unfold upS
  rw [List.all_eq_true]
  intro i hi
  rw [List.mem_range] at hi
  have h1 : i < L.length := by omega
  have h2 : i + 1 < L.length := by omega
  have := (List.pairwise_iff_getElem.mp h) i (i + 1) h1 h2 (by omega)
  simpa [adjAt, List.getD, h1, h2] using this
theorem lt_asymm' {a b : Str} (h : ltS a b = true) : leS a b = true := by
  unfold ltS at h
  unfold leS
  have h' := of_decide_eq_true h
  rw [Bool.not_eq_true', decide_eq_false_iff_not]
  exact List.lt_asymm h'
theorem isort_id {L : List Str} (h : List.Pairwise (fun a b => ltS a b = true) L) : isort leS L = L := by
  induction L with
  | nil => rfl
  | cons a r ih =>
    rw [List.pairwise_cons] at h
    rw [isort, ih h.2]
    cases r with
    | nil => rfl
    | cons b s => rw [insB, if_pos (lt_asymm' (h.1 b (List.mem_cons_self)))]
/-- a list of all kinds is in order -/
def goodE (m : Str) : Bool := (kindsF m).all (kindB m) && (pairB (kindsF m) && (decide (1 ≤ (kindsF m).length) && (decide ((kindsF m).length ≤ 32) && (kindsF m).all fun k => decide (k.length ≤ 5))))
structure Kinds (m : Str) (E : List Str) : Prop where
  kind : ∀ k, k ∈ E → kindB m k = true
  ord : List.Pairwise (fun a b => ltS a b = true) E
  pos : 1 ≤ E.length
  few : E.length ≤ 32
  short : ∀ k, k ∈ E → k.length ≤ 5
theorem goodE_ok {m : Str} (h : goodE m = true) : Kinds m (kindsF m) := by
  unfold goodE at h
  simp only [Bool.and_eq_true, decide_eq_true_eq] at h
  exact ⟨List.all_eq_true.mp h.1, pairB_iff.mp h.2.1, h.2.2.1, h.2.2.2.1, fun k hk => of_decide_eq_true (List.all_eq_true.mp h.2.2.2.2 k hk)⟩
theorem lot_sub {m : Str} {E L : List Str} (h : Kinds m E) (s : List.Sublist L E) (h0 : L ≠ []) : isLot m (.tup (L.map .str)) = true := by
  have hp : List.Pairwise (fun a b => ltS a b = true) L := h.ord.sublist s
  have hs : (L.map T.str).map strOf = L := by
    rw [List.map_map]
    conv => rhs; rw [← List.map_id L]
    apply List.map_congr_left
    intro a _; rfl
  simp only [isLot, hs, pair_up hp, Bool.and_true, Bool.and_eq_true, decide_eq_true_eq, List.all_eq_true]
  refine ⟨by simpa using h0, fun t ht => ?_⟩
  obtain ⟨k, hk, rfl⟩ := List.mem_map.mp ht
  exact h.kind k (s.subset hk)
end DN

set_option maxHeartbeats 1000000
namespace DN
open PySem PySem.Spec L2 PyProof.Rows

theorem lt_line {n : Nat} (h : n ≤ 100000) : n < sizeLine := by
  rw [sizeLine_eq]
  omega
/-! ### equal rows -/
theorem dats_of {g : Nat → Option PyData} {n : Nat} : ∀ {ts : List T}, (∀ t, t ∈ ts → ∃ d, datF g t = some d ∧ d.canLay0 = true ∧ d.depth ≤ n) → ∃ ds, datFs g ts = some ds ∧ PyData.canLayAll0 ds = true ∧ PyData.depthAll ds ≤ n
  | [], _ => ⟨[], by rw [datFs], by rw [PyData.canLayAll0], by rw [PyData.depthAll]; exact Nat.zero_le _⟩
  | t :: ts, h => by
    obtain ⟨d, e1, e2, e3⟩ := h t List.mem_cons_self
    obtain ⟨ds, f1, f2, f3⟩ := dats_of (g := g) (n := n) (ts := ts) fun u hu => h u (List.mem_cons_of_mem _ hu)
    exact ⟨d :: ds, by rw [datFs, e1, f1], by rw [PyData.canLayAll0, e2, f2]; rfl, by rw [PyData.depthAll]; exact Nat.max_le.mpr ⟨e3, f3⟩⟩
def mOk (m : Str) : Bool := m.cps.toList.all fun c => decide (c < 0x110000)
theorem kind_dat {g : Nat → Option PyData} {m : Str} {t : T} (hm : mOk m = true) (h : isKind m t = true) : ∃ d, datF g t = some d ∧ d.canLay0 = true ∧ d.depth ≤ 0 := by
  cases t with
  | str k =>
    refine ⟨.str k, by rw [datF], ?_, by rw [PyData.depth]; exact Nat.le_refl _⟩
    rw [PyData.canLay0]
    simp only [isKind, kindB, Bool.and_eq_true, List.all_eq_true] at h
    unfold PySem.PyData.strOk
    rw [← Array.all_toList, List.all_eq_true]
    intro c hc
    have hs : (T.str ⟨#[c]⟩) ∈ signsT k := by
      simp only [signsT, List.mem_map]
      exact ⟨c, hc, rfl⟩
    have := h.1 _ hs
    simp only [inM, List.all_cons, List.all_nil, Bool.and_true, decide_eq_true_eq] at this
    exact List.all_eq_true.mp hm c this
  | _ => simp [isKind] at h
theorem lot_dat {g : Nat → Option PyData} {m : Str} {t : T} (hm : mOk m = true) (h : isLot m t = true) : ∃ d, datF g t = some d ∧ d.canLay0 = true ∧ d.depth ≤ 1 := by
  cases t with
  | tup ts =>
    simp only [isLot, Bool.and_eq_true, List.all_eq_true] at h
    obtain ⟨ds, f1, f2, f3⟩ := dats_of (g := g) (n := 0) (ts := ts) fun u hu => kind_dat hm (h.2.1 u hu)
    exact ⟨.tuple ds, by rw [datF, f1], by rw [PyData.canLay0]; exact f2, by rw [PyData.depth]; omega⟩
  | _ => simp [isLot] at h
theorem lots_dat {g : Nat → Option PyData} {m : Str} {ts : List T} (hm : mOk m = true) (h : ∀ t, t ∈ ts → isLot m t = true) : ∃ d, datF g (.tup ts) = some d ∧ d.canLay0 = true ∧ d.depth ≤ 2 := by
  obtain ⟨ds, f1, f2, f3⟩ := dats_of (g := g) (n := 1) (ts := ts) fun u hu => lot_dat hm (h u hu)
  exact ⟨.tuple ds, by rw [datF, f1], by rw [PyData.canLay0]; exact f2, by rw [PyData.depth]; omega⟩
theorem eq_same {t : T} {M : Mem} {d : PyData} (hs : scalT t t = false) (e : dat M t = some d) (h : d.canLay0 = true) (hd : d.depth ≤ 64) : eqT t t M = .ok (.bl true) M := by
  unfold eqT
  have hsh : SeqAt.shaped d = true := by unfold SeqAt.shaped; rw [h, decide_eq_true hd]; rfl
  rw [if_neg (by rw [hs]; exact Bool.false_ne_true), e]
  simp only [hsh, and_self, if_true, SeqAt.eqv_refl d h]
/-! ### parts of a tuple -/
theorem cut_take {ts : List T} {i : Nat} (h : i ≤ ts.length) : cutT ts none (some (i : Int)) = ts.take i := by
  unfold cutT
  rw [HT.sIx_none, HT.sIx_nat, Nat.min_eq_left h]
  simp
theorem cut_drop {ts : List T} {i : Nat} (h : i ≤ ts.length) : cutT ts (some (i : Int)) none = ts.drop i := by
  unfold cutT
  rw [HT.sIx_none, HT.sIx_nat, Nat.min_eq_left h]
  apply List.take_of_length_le
  simp
@[simp] theorem slice_tup {ts : List T} {lo hi : Option Int} {M : Mem} : sliceT (.tup ts) lo hi M = .ok (.tup (cutT ts lo hi)) M := Eq.trans rfl rfl
/-! ### try -/
def tryR (cs : List Clz) : RS → RS
  | .ex x ρ' M' => catchD cs x ρ' M'
  | r => r
theorem dTry_ {b : DS} {cs : List Clz} {ρ : Ev} {M : Mem} : dTry b cs ρ M = tryR cs (b ρ M) := by
  unfold dTry
  cases b ρ M <;> rfl
theorem tryR_nx {cs : List Clz} {ρ : Ev} {M : Mem} : tryR cs (.nx ρ M) = .nx ρ M := Eq.trans rfl rfl
theorem tryR_rt {cs : List Clz} {t : T} {M : Mem} : tryR cs (.rt t M) = .rt t M := Eq.trans rfl rfl
theorem tryR_ex {cs : List Clz} {ρ : Ev} {M : Mem} {x : Er} : tryR cs (.ex x ρ M) = catchD cs x ρ M := Eq.trans rfl rfl
/-! ### marks -/
def marksB : T → Bool
  | .str k => decide (k.length ≤ 5) && ((signsT k).all (inM "abcdefghijklmnopqrstuvwxyz") && upS (sgn k))
  | _ => false
theorem small_sign {c : Nat} : (decide ([c] < ("a" : Str).cps.toList) || decide (("z" : Str).cps.toList < [c])) = !inM "abcdefghijklmnopqrstuvwxyz" (.str ⟨#[c]⟩) := by
  have e1 : ("a" : Str).cps.toList = [97] := by decide +kernel
  have e2 : ("z" : Str).cps.toList = [122] := by decide +kernel
  have e3 : ("abcdefghijklmnopqrstuvwxyz" : Str).cps.toList = List.range' 97 26 := by decide +kernel
  rw [e1, e2]
  simp only [inM, List.all_cons, List.all_nil, Bool.and_true, e3]
  have h1 : decide ([c] < [97]) = decide (c < 97) := by
    apply decide_eq_decide.mpr
    simp [List.cons_lt_cons_iff]
  have h2 : decide ([122] < [c]) = decide (122 < c) := by
    apply decide_eq_decide.mpr
    simp [List.cons_lt_cons_iff]
  rw [h1, h2]
  have h3 : decide (c ∈ List.range' 97 26) = decide (97 ≤ c ∧ c < 123) := by
    apply decide_eq_decide.mpr
    simp [List.mem_range'_1]
  rw [h3]
  by_cases q1 : c < 97
  · have : ¬ (97 ≤ c ∧ c < 123) := by omega
    simp [q1, this]
  · by_cases q2 : 122 < c
    · have : ¬ (97 ≤ c ∧ c < 123) := by omega
      simp [q1, q2, this]
    · have : (97 ≤ c ∧ c < 123) := by omega
      simp [q1, q2, this]
end DN

set_option maxHeartbeats 0
namespace HB
open PySem PySem.Spec PyProof.Rows L2 DN
def top (i : Nat) : Stmt := PySem.Challenge.pw_narrowahead_k87_benches_refuse.main.body.getD i (.Pass ⟨0, 0, 0, 0⟩)
abbrev s__law_tape : Stmt := (top 30)
abbrev N__law_tape : List PySem.Str := ["_law_script"]
abbrev Ps__law_tape : List PySem.Str := ["_law_script"]
abbrev D__law_tape : He.DefD := ⟨("_law_tape", none), "_law_tape", "_law_tape", defArgs s__law_tape, defBody s__law_tape, defScope s__law_tape, [], []⟩
abbrev s__law_pick : Stmt := (top 31)
abbrev N__law_pick : List PySem.Str := ["_law_tape_here", "_law_many", "_law_cell", "_law_mixed", "_law_digit"]
abbrev Ps__law_pick : List PySem.Str := ["_law_tape_here", "_law_many"]
abbrev D__law_pick : He.DefD := ⟨("_law_pick", none), "_law_pick", "_law_pick", defArgs s__law_pick, defBody s__law_pick, defScope s__law_pick, [], []⟩
abbrev s__law_marks : Stmt := (top 33)
abbrev N__law_marks : List PySem.Str := ["_law_tape_here"]
abbrev Ps__law_marks : List PySem.Str := ["_law_tape_here"]
abbrev D__law_marks : He.DefD := ⟨("_law_marks", none), "_law_marks", "_law_marks", defArgs s__law_marks, defBody s__law_marks, defScope s__law_marks, [], []⟩
abbrev s__law_kinds : Stmt := (top 32)
abbrev N__law_kinds : List PySem.Str := ["_law_marks_here", "_law_found", "_law_mark", "_law_kind"]
abbrev Ps__law_kinds : List PySem.Str := ["_law_marks_here"]
abbrev D__law_kinds : He.DefD := ⟨("_law_kinds", none), "_law_kinds", "_law_kinds", defArgs s__law_kinds, defBody s__law_kinds, defScope s__law_kinds, [], []⟩
abbrev s_is_ascending : Stmt := (top 16)
abbrev N_is_ascending : List PySem.Str := ["items", "at"]
abbrev Ps_is_ascending : List PySem.Str := ["items"]
abbrev D_is_ascending : He.DefD := ⟨("is_ascending", none), "is_ascending", "is_ascending", defArgs s_is_ascending, defBody s_is_ascending, defScope s_is_ascending, [], []⟩
abbrev s_is_marks : Stmt := (top 17)
abbrev N_is_marks : List PySem.Str := ["thing", "sign"]
abbrev Ps_is_marks : List PySem.Str := ["thing"]
abbrev D_is_marks : He.DefD := ⟨("is_marks", none), "is_marks", "is_marks", defArgs s_is_marks, defBody s_is_marks, defScope s_is_marks, [], []⟩
abbrev s_check_marks : Stmt := (top 20)
abbrev N_check_marks : List PySem.Str := ["thing"]
abbrev Ps_check_marks : List PySem.Str := ["thing"]
abbrev D_check_marks : He.DefD := ⟨("check_marks", none), "check_marks", "check_marks", defArgs s_check_marks, defBody s_check_marks, defScope s_check_marks, [], []⟩
abbrev s_Bench___init__ : Stmt := (memS (top 28) 0)
abbrev N_Bench___init__ : List PySem.Str := ["self", "marks"]
abbrev Ps_Bench___init__ : List PySem.Str := ["self", "marks"]
abbrev D_Bench___init__ : He.DefD := ⟨("Bench", some "__init__"), "__init__", "Bench.__init__", defArgs s_Bench___init__, defBody s_Bench___init__, defScope s_Bench___init__, [], []⟩
abbrev s_BadSeats___init__ : Stmt := (memS (top 8) 0)
abbrev N_BadSeats___init__ : List PySem.Str := ["self", "part", "at"]
abbrev Ps_BadSeats___init__ : List PySem.Str := ["self", "part", "at"]
abbrev D_BadSeats___init__ : He.DefD := ⟨("BadSeats", some "__init__"), "__init__", "BadSeats.__init__", defArgs s_BadSeats___init__, defBody s_BadSeats___init__, defScope s_BadSeats___init__, [], []⟩
abbrev s_is_kind : Stmt := (top 18)
abbrev N_is_kind : List PySem.Str := ["marks", "thing", "sign"]
abbrev Ps_is_kind : List PySem.Str := ["marks", "thing"]
abbrev D_is_kind : He.DefD := ⟨("is_kind", none), "is_kind", "is_kind", defArgs s_is_kind, defBody s_is_kind, defScope s_is_kind, [], []⟩
abbrev s_is_lot : Stmt := (top 19)
abbrev N_is_lot : List PySem.Str := ["marks", "thing", "kind"]
abbrev Ps_is_lot : List PySem.Str := ["marks", "thing"]
abbrev D_is_lot : He.DefD := ⟨("is_lot", none), "is_lot", "is_lot", defArgs s_is_lot, defBody s_is_lot, defScope s_is_lot, [], []⟩
abbrev s_first_no_lot : Stmt := (top 23)
abbrev N_first_no_lot : List PySem.Str := ["marks", "lots", "at", "lot"]
abbrev Ps_first_no_lot : List PySem.Str := ["marks", "lots"]
abbrev D_first_no_lot : He.DefD := ⟨("first_no_lot", none), "first_no_lot", "first_no_lot", defArgs s_first_no_lot, defBody s_first_no_lot, defScope s_first_no_lot, [], []⟩
abbrev s_Seats___init__ : Stmt := (memS (top 24) 0)
abbrev N_Seats___init__ : List PySem.Str := ["self", "marks", "lots", "at"]
abbrev Ps_Seats___init__ : List PySem.Str := ["self", "marks", "lots"]
abbrev D_Seats___init__ : He.DefD := ⟨("Seats", some "__init__"), "__init__", "Seats.__init__", defArgs s_Seats___init__, defBody s_Seats___init__, defScope s_Seats___init__, [], []⟩
abbrev s__law_deep : Stmt := (top 44)
abbrev N__law_deep : List PySem.Str := ["_law_tape_here", "_law_found", "_law_step"]
abbrev Ps__law_deep : List PySem.Str := ["_law_tape_here"]
abbrev D__law_deep : He.DefD := ⟨("_law_deep", none), "_law_deep", "_law_deep", defArgs s__law_deep, defBody s__law_deep, defScope s__law_deep, [], []⟩
abbrev s__law_odd : Stmt := (top 37)
abbrev N__law_odd : List PySem.Str := ["_law_tape_here", "_law_things"]
abbrev Ps__law_odd : List PySem.Str := ["_law_tape_here"]
abbrev D__law_odd : He.DefD := ⟨("_law_odd", none), "_law_odd", "_law_odd", defArgs s__law_odd, defBody s__law_odd, defScope s__law_odd, [], []⟩
abbrev s_is_integer : Stmt := (top 14)
abbrev N_is_integer : List PySem.Str := ["thing"]
abbrev Ps_is_integer : List PySem.Str := ["thing"]
abbrev D_is_integer : He.DefD := ⟨("is_integer", none), "is_integer", "is_integer", defArgs s_is_integer, defBody s_is_integer, defScope s_is_integer, [], []⟩
abbrev s_is_within : Stmt := (top 15)
abbrev N_is_within : List PySem.Str := ["thing", "least", "most"]
abbrev Ps_is_within : List PySem.Str := ["thing", "least", "most"]
abbrev D_is_within : He.DefD := ⟨("is_within", none), "is_within", "is_within", defArgs s_is_within, defBody s_is_within, defScope s_is_within, [], []⟩
abbrev s_check_lot : Stmt := (top 21)
abbrev N_check_lot : List PySem.Str := ["marks", "thing"]
abbrev Ps_check_lot : List PySem.Str := ["marks", "thing"]
abbrev D_check_lot : He.DefD := ⟨("check_lot", none), "check_lot", "check_lot", defArgs s_check_lot, defBody s_check_lot, defScope s_check_lot, [], []⟩
abbrev s_TooMany___init__ : Stmt := (memS (top 9) 0)
abbrev N_TooMany___init__ : List PySem.Str := ["self", "most"]
abbrev Ps_TooMany___init__ : List PySem.Str := ["self", "most"]
abbrev D_TooMany___init__ : He.DefD := ⟨("TooMany", some "__init__"), "__init__", "TooMany.__init__", defArgs s_TooMany___init__, defBody s_TooMany___init__, defScope s_TooMany___init__, [], []⟩
abbrev s_Bench_go : Stmt := (memS (top 28) 1)
abbrev N_Bench_go : List PySem.Str := ["self", "rows"]
abbrev Ps_Bench_go : List PySem.Str := ["self", "rows"]
abbrev D_Bench_go : He.DefD := ⟨("Bench", some "go"), "go", "Bench.go", defArgs s_Bench_go, defBody s_Bench_go, defScope s_Bench_go, [], []⟩
abbrev s_Bench_put : Stmt := (memS (top 28) 2)
abbrev N_Bench_put : List PySem.Str := ["self", "at", "lot"]
abbrev Ps_Bench_put : List PySem.Str := ["self", "at", "lot"]
abbrev D_Bench_put : He.DefD := ⟨("Bench", some "put"), "put", "Bench.put", defArgs s_Bench_put, defBody s_Bench_put, defScope s_Bench_put, [], []⟩
abbrev s_Bench_strike : Stmt := (memS (top 28) 3)
abbrev N_Bench_strike : List PySem.Str := ["self", "at"]
abbrev Ps_Bench_strike : List PySem.Str := ["self", "at"]
abbrev D_Bench_strike : He.DefD := ⟨("Bench", some "strike"), "strike", "Bench.strike", defArgs s_Bench_strike, defBody s_Bench_strike, defScope s_Bench_strike, [], []⟩
abbrev s_swapped : Stmt := (top 26)
abbrev N_swapped : List PySem.Str := ["lots", "at"]
abbrev Ps_swapped : List PySem.Str := ["lots", "at"]
abbrev D_swapped : He.DefD := ⟨("swapped", none), "swapped", "swapped", defArgs s_swapped, defBody s_swapped, defScope s_swapped, [], []⟩
abbrev s_Bench_shift : Stmt := (memS (top 28) 4)
abbrev N_Bench_shift : List PySem.Str := ["self", "at"]
abbrev Ps_Bench_shift : List PySem.Str := ["self", "at"]
abbrev D_Bench_shift : He.DefD := ⟨("Bench", some "shift"), "shift", "Bench.shift", defArgs s_Bench_shift, defBody s_Bench_shift, defScope s_Bench_shift, [], []⟩
abbrev s_Bench_back : Stmt := (memS (top 28) 9)
abbrev N_Bench_back : List PySem.Str := ["self"]
abbrev Ps_Bench_back : List PySem.Str := ["self"]
abbrev D_Bench_back : He.DefD := ⟨("Bench", some "back"), "back", "Bench.back", defArgs s_Bench_back, defBody s_Bench_back, defScope s_Bench_back, [], []⟩
abbrev s__law_asked : Stmt := (top 47)
abbrev N__law_asked : List PySem.Str := ["_law_bench", "_law_way", "_law_one", "_law_two", "_law_told", "e", "_law_flags"]
abbrev Ps__law_asked : List PySem.Str := ["_law_bench", "_law_way", "_law_one", "_law_two"]
abbrev D__law_asked : He.DefD := ⟨("_law_asked", none), "_law_asked", "_law_asked", defArgs s__law_asked, defBody s__law_asked, defScope s__law_asked, [], []⟩
abbrev s__law_is_up : Stmt := (top 39)
abbrev N__law_is_up : List PySem.Str := ["_law_items", "_law_at"]
abbrev Ps__law_is_up : List PySem.Str := ["_law_items"]
abbrev D__law_is_up : He.DefD := ⟨("_law_is_up", none), "_law_is_up", "_law_is_up", defArgs s__law_is_up, defBody s__law_is_up, defScope s__law_is_up, [], []⟩
abbrev s__law_is_marks : Stmt := (top 40)
abbrev N__law_is_marks : List PySem.Str := ["_law_thing", "_law_sign"]
abbrev Ps__law_is_marks : List PySem.Str := ["_law_thing"]
abbrev D__law_is_marks : He.DefD := ⟨("_law_is_marks", none), "_law_is_marks", "_law_is_marks", defArgs s__law_is_marks, defBody s__law_is_marks, defScope s__law_is_marks, [], []⟩
abbrev s_Bench_made : Stmt := (memS (top 28) 5)
abbrev N_Bench_made : List PySem.Str := ["self"]
abbrev Ps_Bench_made : List PySem.Str := ["self"]
abbrev D_Bench_made : He.DefD := ⟨("Bench", some "made"), "made", "Bench.made", defArgs s_Bench_made, defBody s_Bench_made, defScope s_Bench_made, [], []⟩
abbrev s_Bench_deeds : Stmt := (memS (top 28) 10)
abbrev N_Bench_deeds : List PySem.Str := ["self"]
abbrev Ps_Bench_deeds : List PySem.Str := ["self"]
abbrev D_Bench_deeds : He.DefD := ⟨("Bench", some "deeds"), "deeds", "Bench.deeds", defArgs s_Bench_deeds, defBody s_Bench_deeds, defScope s_Bench_deeds, [], []⟩
abbrev s__law_stands : Stmt := (top 46)
abbrev N__law_stands : List PySem.Str := ["_law_bench", "_law_marks_here", "_law_rows", "_law_deeds", "_law_told"]
abbrev Ps__law_stands : List PySem.Str := ["_law_bench", "_law_marks_here", "_law_rows", "_law_deeds"]
abbrev D__law_stands : He.DefD := ⟨("_law_stands", none), "_law_stands", "_law_stands", defArgs s__law_stands, defBody s__law_stands, defScope s__law_stands, [], []⟩
abbrev s__law_lot : Stmt := (top 34)
abbrev N__law_lot : List PySem.Str := ["_law_tape_here", "_law_every", "_law_found", "_law_few", "_law_kind", "_law_k"]
abbrev Ps__law_lot : List PySem.Str := ["_law_tape_here", "_law_every"]
abbrev D__law_lot : He.DefD := ⟨("_law_lot", none), "_law_lot", "_law_lot", defArgs s__law_lot, defBody s__law_lot, defScope s__law_lot, [], []⟩
abbrev s__law_is_int : Stmt := (top 38)
abbrev N__law_is_int : List PySem.Str := ["_law_thing", "_law_least", "_law_most"]
abbrev Ps__law_is_int : List PySem.Str := ["_law_thing", "_law_least", "_law_most"]
abbrev D__law_is_int : He.DefD := ⟨("_law_is_int", none), "_law_is_int", "_law_is_int", defArgs s__law_is_int, defBody s__law_is_int, defScope s__law_is_int, [], []⟩
abbrev s__law_is_kind : Stmt := (top 41)
abbrev N__law_is_kind : List PySem.Str := ["_law_marks_here", "_law_thing", "_law_sign"]
abbrev Ps__law_is_kind : List PySem.Str := ["_law_marks_here", "_law_thing"]
abbrev D__law_is_kind : He.DefD := ⟨("_law_is_kind", none), "_law_is_kind", "_law_is_kind", defArgs s__law_is_kind, defBody s__law_is_kind, defScope s__law_is_kind, [], []⟩
abbrev s__law_is_lot : Stmt := (top 42)
abbrev N__law_is_lot : List PySem.Str := ["_law_marks_here", "_law_thing", "_law_kind"]
abbrev Ps__law_is_lot : List PySem.Str := ["_law_marks_here", "_law_thing"]
abbrev D__law_is_lot : He.DefD := ⟨("_law_is_lot", none), "_law_is_lot", "_law_is_lot", defArgs s__law_is_lot, defBody s__law_is_lot, defScope s__law_is_lot, [], []⟩
abbrev s__law_due : Stmt := (top 48)
abbrev N__law_due : List PySem.Str := ["_law_marks_here", "_law_rows", "_law_way", "_law_one", "_law_two"]
abbrev Ps__law_due : List PySem.Str := ["_law_marks_here", "_law_rows", "_law_way", "_law_one", "_law_two"]
abbrev D__law_due : He.DefD := ⟨("_law_due", none), "_law_due", "_law_due", defArgs s__law_due, defBody s__law_due, defScope s__law_due, [], []⟩
abbrev s_law : Stmt := (top 49)
abbrev N_law : List PySem.Str := ["_law_script", "_law_tape_here", "_law_marks_here", "_law_every", "_law_bench", "_law_odd_here", "_law_rows", "_law_turn", "_law_way", "_law_one", "_law_lot_here", "_law_two", "_law_things", "_law_due_here"]
abbrev Ps_law : List PySem.Str := ["_law_script"]
abbrev D_law : He.DefD := ⟨("law", none), "law", "law", defArgs s_law, defBody s_law, defScope s_law, [], []⟩
def fn : List He.DefD := [D__law_tape, D__law_pick, D__law_marks, D__law_kinds, D_is_ascending, D_is_marks, D_check_marks, D_Bench___init__, D_BadSeats___init__, D_is_kind, D_is_lot, D_first_no_lot, D_Seats___init__, D__law_deep, D__law_odd, D_is_integer, D_is_within, D_check_lot, D_TooMany___init__, D_Bench_go, D_Bench_put, D_Bench_strike, D_swapped, D_Bench_shift, D_Bench_back, D__law_asked, D__law_is_up, D__law_is_marks, D_Bench_made, D_Bench_deeds, D__law_stands, D__law_lot, D__law_is_int, D__law_is_kind, D__law_is_lot, D__law_due, D_law]
def fa : List He.Fa := [.free "list", .glo "_law_tape", .free "int", .free "len", .glo "_law_pick", .glo "_law_marks", .free "sorted", .glo "_law_kinds", .cls "Seats", .cls "Bench", .free "isinstance", .free "str", .int "MOST_MARKS" (5), .str "SMALL" "abcdefghijklmnopqrstuvwxyz", .free "all", .free "range", .glo "is_ascending", .glo "is_marks", .exc "NoMarks", .glo "NoMarks", .glo "check_marks", .noat "Seats" "marks", .noat "Bench" "marks", .noat "Bench" "rows", .noat "Bench" "past", .mkr "Bench", .glo "Bench", .glo "BadSeats", .free "tuple", .int "MOST_SEATS" (40), .free "enumerate", .glo "is_kind", .glo "is_lot", .glo "first_no_lot", .noat "Seats" "lots", .mkr "Seats", .glo "Seats", .glo "_law_deep", .glo "_law_odd", .free "bool", .glo "is_integer", .glo "is_within", .exc "NoPlace", .glo "NoPlace", .exc "NoLot", .glo "NoLot", .glo "check_lot", .glo "TooMany", .meth "Bench" "go", .meth "Bench" "put", .exc "NoSeat", .glo "NoSeat", .meth "Bench" "strike", .glo "swapped", .meth "Bench" "shift", .exc "NothingDone", .glo "NothingDone", .meth "Bench" "back", .exm "NoMarks" "TooMany" false, .exm "NoLot" "TooMany" false, .exm "NoSeat" "TooMany" false, .exm "NoPlace" "TooMany" false, .exm "NothingDone" "TooMany" false, .exm "BadSeats" "TooMany" false, .exm "TooMany" "TooMany" true, .exm "NoMarks" "SeatError" true, .exm "NoLot" "SeatError" true, .exm "NoSeat" "SeatError" true, .exm "NoPlace" "SeatError" true, .exm "NothingDone" "SeatError" true, .exm "BadSeats" "SeatError" true, .exm "TooMany" "SeatError" true, .glo "SeatError", .glo "_law_asked", .glo "_law_is_up", .glo "_law_is_marks", .meth "Bench" "made", .meth "Bench" "deeds", .glo "_law_stands", .free "max", .glo "_law_lot", .glo "_law_is_int", .glo "_law_is_kind", .glo "_law_is_lot", .glo "_law_due", .glo "law"]
def fb : List Fb := [.ins "Seats", .kitB "Seats" "str", .ins "Bench", .kitB "Bench" "str", .xf "BadSeats" "part", .xf "BadSeats" "at", .oex "BadSeats", .kitB "Seats" "tuple", .kitB "Bench" "tuple", .kitB "Seats" "int", .kitB "Bench" "int", .kitB "Seats" "bool", .kitB "Bench" "bool", .xf "TooMany" "most", .oex "TooMany", .excC "NoMarks", .kit "NoMarks" "NothingDone" false, .excC "NoLot", .kit "NoLot" "NothingDone" false, .excC "NoSeat", .kit "NoSeat" "NothingDone" false, .excC "NoPlace", .kit "NoPlace" "NothingDone" false, .excC "NothingDone", .kit "NothingDone" "NothingDone" true, .kit "NoMarks" "NoSeat" false, .kit "NoLot" "NoSeat" false, .kit "NoSeat" "NoSeat" true, .kit "NoPlace" "NoSeat" false, .kit "NothingDone" "NoSeat" false, .kit "NoMarks" "NoLot" false, .kit "NoLot" "NoLot" true, .kit "NoSeat" "NoLot" false, .kit "NoPlace" "NoLot" false, .kit "NothingDone" "NoLot" false, .kit "NoMarks" "NoPlace" false, .kit "NoLot" "NoPlace" false, .kit "NoSeat" "NoPlace" false, .kit "NoPlace" "NoPlace" true, .kit "NothingDone" "NoPlace" false, .kit "NoMarks" "NoMarks" true, .kit "NoLot" "NoMarks" false, .kit "NoSeat" "NoMarks" false, .kit "NoPlace" "NoMarks" false, .kit "NothingDone" "NoMarks" false, .kit "Seats" "Seats" true, .kit "Bench" "Seats" false, .kitT "NoneType" "Seats", .kitT "bool" "Seats", .kitT "int" "Seats", .kitT "str" "Seats", .kitT "tuple" "Seats", .kitT "list" "Seats", .kitT "dict" "Seats"]
def names0 : List PySem.Str := ["_wall", "SeatError", "NoMarks", "NoLot", "NoSeat", "NoPlace", "NothingDone", "BadSeats", "TooMany", "SMALL"]
def names1 : List PySem.Str := ["MOST_MARKS", "MOST_SEATS", "is_integer", "is_within", "is_ascending", "is_marks", "is_kind", "is_lot", "check_marks", "check_lot"]
def names2 : List PySem.Str := ["first_no_lot", "Seats", "swapped", "Bench", "_law_tape", "_law_pick", "_law_kinds", "_law_marks", "_law_lot", "_law_lots"]
def names3 : List PySem.Str := ["_law_row", "_law_odd", "_law_is_int", "_law_is_up", "_law_is_marks", "_law_is_kind", "_law_is_lot", "_law_is_row", "_law_deep", "_law_bench_deed"]
def names4 : List PySem.Str := ["_law_stands", "_law_asked", "_law_due"]
def names : List PySem.Str := names0 ++ names1 ++ names2 ++ names3 ++ names4
abbrev RwO : PySem.W.OpenRow := PySem.W.OpenLaw.row PySem.Challenge.rw_narrowahead_k87_benches_refuse
abbrev hk : PySem.W.Hook := He.hookX 5 fa fn [] [] (exF fb)
def ob (s : PySem.W.SharedT) : He.AlX := He.obsX 5 fa fn [] [] (exF fb) (HandSHeadRun.getT s)
theorem ob_eq (s : PySem.W.SharedT) : ob s = hk.obs s.abs := He.obsX_eq (HandSHeadRun.getT_eq s)
structure Cc (w : World) (h : Heap) (K : PySem.W.Frag) (mg : PySem.Str → Option Value) : Prop where
  X : K.In h
  G : h.Ns mainGlobals mg
  c : He.SaysX fa fn [] [] (exF fb) w h K
section
variable {w : World} {h : Heap} {K : PySem.W.Frag} {mg : PySem.Str → Option Value}
theorem Cc.fa (c : Cc w h K mg) (i : Nat) {f : He.Fa} (e : HB.fa[i]? = some f) : f.ok K = true := He.SaysD.fact c.c.t.d i e
theorem Cc.fb (c : Cc w h K mg) (i : Nat) {f : Fb} (e : HB.fb[i]? = some f) : f.ok K = true := fb_ok c.c.more i e
theorem Cc.fd (c : Cc w h K mg) (i : Nat) {d : He.DefD} (e : fn[i]? = some d) : ∃ fd, FunD K d.name d.qual d.params d.body d.scope (d.dvs K) (d.kws K) (He.fAd K d.at_) fd := He.SaysD.def_ c.c.t.d i e
theorem fr_list (c : Cc w h K mg) : mg "list" = none := He.free_ok c.X c.G (c.fa 0 rfl)
theorem g__law_tape (c : Cc w h K mg) : mg "_law_tape" = some (.ref (He.ga K "_law_tape")) := He.glo_ok c.X c.G (c.fa 1 rfl)
theorem fr_int (c : Cc w h K mg) : mg "int" = none := He.free_ok c.X c.G (c.fa 2 rfl)
theorem fr_len (c : Cc w h K mg) : mg "len" = none := He.free_ok c.X c.G (c.fa 3 rfl)
theorem g__law_pick (c : Cc w h K mg) : mg "_law_pick" = some (.ref (He.ga K "_law_pick")) := He.glo_ok c.X c.G (c.fa 4 rfl)
theorem g__law_marks (c : Cc w h K mg) : mg "_law_marks" = some (.ref (He.ga K "_law_marks")) := He.glo_ok c.X c.G (c.fa 5 rfl)
theorem fr_sorted (c : Cc w h K mg) : mg "sorted" = none := He.free_ok c.X c.G (c.fa 6 rfl)
theorem g__law_kinds (c : Cc w h K mg) : mg "_law_kinds" = some (.ref (He.ga K "_law_kinds")) := He.glo_ok c.X c.G (c.fa 7 rfl)
theorem cl_Seats (c : Cc w h K mg) : Cls K (He.ga K "Seats") := He.cls_ok (c.fa 8 rfl)
theorem in_Seats (c : Cc w h K mg) : InsF K (He.ga K "Seats") := ins_ok (cl_Seats c) (c.fb 0 rfl)
theorem kb_Seats_str (c : Cc w h K mg) : PySem.W.kitOne K (.ref (He.ga K "Seats")) (.type "str") = some false := sB_ok (c.fb 1 rfl)
theorem cl_Bench (c : Cc w h K mg) : Cls K (He.ga K "Bench") := He.cls_ok (c.fa 9 rfl)
theorem in_Bench (c : Cc w h K mg) : InsF K (He.ga K "Bench") := ins_ok (cl_Bench c) (c.fb 2 rfl)
theorem kb_Bench_str (c : Cc w h K mg) : PySem.W.kitOne K (.ref (He.ga K "Bench")) (.type "str") = some false := sB_ok (c.fb 3 rfl)
theorem fr_isinstance (c : Cc w h K mg) : mg "isinstance" = none := He.free_ok c.X c.G (c.fa 10 rfl)
theorem fr_str (c : Cc w h K mg) : mg "str" = none := He.free_ok c.X c.G (c.fa 11 rfl)
theorem i_MOST_MARKS (c : Cc w h K mg) : ∃ t, mg "MOST_MARKS" = some (.int (5) t) := He.int_ok c.X c.G (c.fa 12 rfl)
theorem st_SMALL (c : Cc w h K mg) : ∃ t, mg "SMALL" = some (.str "abcdefghijklmnopqrstuvwxyz" t) := He.str_ok c.X c.G (c.fa 13 rfl)
theorem fr_all (c : Cc w h K mg) : mg "all" = none := He.free_ok c.X c.G (c.fa 14 rfl)
theorem fr_range (c : Cc w h K mg) : mg "range" = none := He.free_ok c.X c.G (c.fa 15 rfl)
theorem g_is_ascending (c : Cc w h K mg) : mg "is_ascending" = some (.ref (He.ga K "is_ascending")) := He.glo_ok c.X c.G (c.fa 16 rfl)
theorem g_is_marks (c : Cc w h K mg) : mg "is_marks" = some (.ref (He.ga K "is_marks")) := He.glo_ok c.X c.G (c.fa 17 rfl)
theorem ex_NoMarks (c : Cc w h K mg) : ExF K (He.ga K "NoMarks") := exF_ok (c.fa 18 rfl)
theorem g_NoMarks (c : Cc w h K mg) : mg "NoMarks" = some (.ref (He.ga K "NoMarks")) := He.glo_ok c.X c.G (c.fa 19 rfl)
theorem g_check_marks (c : Cc w h K mg) : mg "check_marks" = some (.ref (He.ga K "check_marks")) := He.glo_ok c.X c.G (c.fa 20 rfl)
theorem na_Seats_marks (c : Cc w h K mg) : NoAttr K (He.ga K "Seats") "marks" := He.noat_ok (c.fa 21 rfl)
theorem na_Bench_marks (c : Cc w h K mg) : NoAttr K (He.ga K "Bench") "marks" := He.noat_ok (c.fa 22 rfl)
theorem na_Bench_rows (c : Cc w h K mg) : NoAttr K (He.ga K "Bench") "rows" := He.noat_ok (c.fa 23 rfl)
theorem na_Bench_past (c : Cc w h K mg) : NoAttr K (He.ga K "Bench") "past" := He.noat_ok (c.fa 24 rfl)
theorem mk_Bench (c : Cc w h K mg) : Mk K (He.ga K "Bench") (He.fAd K ("Bench", some "__init__")) := He.mkr_ok (c.fa 25 rfl)
theorem g_Bench (c : Cc w h K mg) : mg "Bench" = some (.ref (He.ga K "Bench")) := He.glo_ok c.X c.G (c.fa 26 rfl)
theorem xf_BadSeats_part (c : Cc w h K mg) : XfC K (He.ga K "BadSeats") ∧ PySem.W.findIn K (.ref (He.ga K "BadSeats")) "part" = some none := xf_ok (c.fb 4 rfl)
theorem xf_BadSeats_at (c : Cc w h K mg) : XfC K (He.ga K "BadSeats") ∧ PySem.W.findIn K (.ref (He.ga K "BadSeats")) "at" = some none := xf_ok (c.fb 5 rfl)
theorem oe_BadSeats (c : Cc w h K mg) : OexF K (He.ga K "BadSeats") (He.fAd K ("BadSeats", some "__init__")) := oex_ok (c.fb 6 rfl)
theorem g_BadSeats (c : Cc w h K mg) : mg "BadSeats" = some (.ref (He.ga K "BadSeats")) := He.glo_ok c.X c.G (c.fa 27 rfl)
theorem kb_Seats_tuple (c : Cc w h K mg) : PySem.W.kitOne K (.ref (He.ga K "Seats")) (.type "tuple") = some false := sB_ok (c.fb 7 rfl)
theorem kb_Bench_tuple (c : Cc w h K mg) : PySem.W.kitOne K (.ref (He.ga K "Bench")) (.type "tuple") = some false := sB_ok (c.fb 8 rfl)
theorem fr_tuple (c : Cc w h K mg) : mg "tuple" = none := He.free_ok c.X c.G (c.fa 28 rfl)
theorem i_MOST_SEATS (c : Cc w h K mg) : ∃ t, mg "MOST_SEATS" = some (.int (40) t) := He.int_ok c.X c.G (c.fa 29 rfl)
theorem fr_enumerate (c : Cc w h K mg) : mg "enumerate" = none := He.free_ok c.X c.G (c.fa 30 rfl)
theorem g_is_kind (c : Cc w h K mg) : mg "is_kind" = some (.ref (He.ga K "is_kind")) := He.glo_ok c.X c.G (c.fa 31 rfl)
theorem g_is_lot (c : Cc w h K mg) : mg "is_lot" = some (.ref (He.ga K "is_lot")) := He.glo_ok c.X c.G (c.fa 32 rfl)
theorem g_first_no_lot (c : Cc w h K mg) : mg "first_no_lot" = some (.ref (He.ga K "first_no_lot")) := He.glo_ok c.X c.G (c.fa 33 rfl)
theorem na_Seats_lots (c : Cc w h K mg) : NoAttr K (He.ga K "Seats") "lots" := He.noat_ok (c.fa 34 rfl)
theorem mk_Seats (c : Cc w h K mg) : Mk K (He.ga K "Seats") (He.fAd K ("Seats", some "__init__")) := He.mkr_ok (c.fa 35 rfl)
theorem g_Seats (c : Cc w h K mg) : mg "Seats" = some (.ref (He.ga K "Seats")) := He.glo_ok c.X c.G (c.fa 36 rfl)
theorem g__law_deep (c : Cc w h K mg) : mg "_law_deep" = some (.ref (He.ga K "_law_deep")) := He.glo_ok c.X c.G (c.fa 37 rfl)
theorem g__law_odd (c : Cc w h K mg) : mg "_law_odd" = some (.ref (He.ga K "_law_odd")) := He.glo_ok c.X c.G (c.fa 38 rfl)
theorem kb_Seats_int (c : Cc w h K mg) : PySem.W.kitOne K (.ref (He.ga K "Seats")) (.type "int") = some false := sB_ok (c.fb 9 rfl)
theorem kb_Bench_int (c : Cc w h K mg) : PySem.W.kitOne K (.ref (He.ga K "Bench")) (.type "int") = some false := sB_ok (c.fb 10 rfl)
theorem kb_Seats_bool (c : Cc w h K mg) : PySem.W.kitOne K (.ref (He.ga K "Seats")) (.type "bool") = some false := sB_ok (c.fb 11 rfl)
theorem kb_Bench_bool (c : Cc w h K mg) : PySem.W.kitOne K (.ref (He.ga K "Bench")) (.type "bool") = some false := sB_ok (c.fb 12 rfl)
theorem fr_bool (c : Cc w h K mg) : mg "bool" = none := He.free_ok c.X c.G (c.fa 39 rfl)
theorem g_is_integer (c : Cc w h K mg) : mg "is_integer" = some (.ref (He.ga K "is_integer")) := He.glo_ok c.X c.G (c.fa 40 rfl)
theorem g_is_within (c : Cc w h K mg) : mg "is_within" = some (.ref (He.ga K "is_within")) := He.glo_ok c.X c.G (c.fa 41 rfl)
theorem ex_NoPlace (c : Cc w h K mg) : ExF K (He.ga K "NoPlace") := exF_ok (c.fa 42 rfl)
theorem g_NoPlace (c : Cc w h K mg) : mg "NoPlace" = some (.ref (He.ga K "NoPlace")) := He.glo_ok c.X c.G (c.fa 43 rfl)
theorem ex_NoLot (c : Cc w h K mg) : ExF K (He.ga K "NoLot") := exF_ok (c.fa 44 rfl)
theorem g_NoLot (c : Cc w h K mg) : mg "NoLot" = some (.ref (He.ga K "NoLot")) := He.glo_ok c.X c.G (c.fa 45 rfl)
theorem g_check_lot (c : Cc w h K mg) : mg "check_lot" = some (.ref (He.ga K "check_lot")) := He.glo_ok c.X c.G (c.fa 46 rfl)
theorem xf_TooMany_most (c : Cc w h K mg) : XfC K (He.ga K "TooMany") ∧ PySem.W.findIn K (.ref (He.ga K "TooMany")) "most" = some none := xf_ok (c.fb 13 rfl)
theorem oe_TooMany (c : Cc w h K mg) : OexF K (He.ga K "TooMany") (He.fAd K ("TooMany", some "__init__")) := oex_ok (c.fb 14 rfl)
theorem g_TooMany (c : Cc w h K mg) : mg "TooMany" = some (.ref (He.ga K "TooMany")) := He.glo_ok c.X c.G (c.fa 47 rfl)
theorem me_Bench_go (c : Cc w h K mg) : Meth K (He.ga K "Bench") "go" (He.fAd K ("Bench", some "go")) := He.meth_ok (c.fa 48 rfl)
theorem me_Bench_put (c : Cc w h K mg) : Meth K (He.ga K "Bench") "put" (He.fAd K ("Bench", some "put")) := He.meth_ok (c.fa 49 rfl)
theorem ex_NoSeat (c : Cc w h K mg) : ExF K (He.ga K "NoSeat") := exF_ok (c.fa 50 rfl)
theorem g_NoSeat (c : Cc w h K mg) : mg "NoSeat" = some (.ref (He.ga K "NoSeat")) := He.glo_ok c.X c.G (c.fa 51 rfl)
theorem me_Bench_strike (c : Cc w h K mg) : Meth K (He.ga K "Bench") "strike" (He.fAd K ("Bench", some "strike")) := He.meth_ok (c.fa 52 rfl)
theorem g_swapped (c : Cc w h K mg) : mg "swapped" = some (.ref (He.ga K "swapped")) := He.glo_ok c.X c.G (c.fa 53 rfl)
theorem me_Bench_shift (c : Cc w h K mg) : Meth K (He.ga K "Bench") "shift" (He.fAd K ("Bench", some "shift")) := He.meth_ok (c.fa 54 rfl)
theorem ex_NothingDone (c : Cc w h K mg) : ExF K (He.ga K "NothingDone") := exF_ok (c.fa 55 rfl)
theorem g_NothingDone (c : Cc w h K mg) : mg "NothingDone" = some (.ref (He.ga K "NothingDone")) := He.glo_ok c.X c.G (c.fa 56 rfl)
theorem me_Bench_back (c : Cc w h K mg) : Meth K (He.ga K "Bench") "back" (He.fAd K ("Bench", some "back")) := He.meth_ok (c.fa 57 rfl)
theorem em_NoMarks_TooMany (c : Cc w h K mg) : PySem.W.exmOne K (.ref (He.ga K "NoMarks")) (.ref (He.ga K "TooMany")) = some false := He.exm_ok (c.fa 58 rfl)
theorem em_NoLot_TooMany (c : Cc w h K mg) : PySem.W.exmOne K (.ref (He.ga K "NoLot")) (.ref (He.ga K "TooMany")) = some false := He.exm_ok (c.fa 59 rfl)
theorem em_NoSeat_TooMany (c : Cc w h K mg) : PySem.W.exmOne K (.ref (He.ga K "NoSeat")) (.ref (He.ga K "TooMany")) = some false := He.exm_ok (c.fa 60 rfl)
theorem em_NoPlace_TooMany (c : Cc w h K mg) : PySem.W.exmOne K (.ref (He.ga K "NoPlace")) (.ref (He.ga K "TooMany")) = some false := He.exm_ok (c.fa 61 rfl)
theorem em_NothingDone_TooMany (c : Cc w h K mg) : PySem.W.exmOne K (.ref (He.ga K "NothingDone")) (.ref (He.ga K "TooMany")) = some false := He.exm_ok (c.fa 62 rfl)
theorem em_BadSeats_TooMany (c : Cc w h K mg) : PySem.W.exmOne K (.ref (He.ga K "BadSeats")) (.ref (He.ga K "TooMany")) = some false := He.exm_ok (c.fa 63 rfl)
theorem em_TooMany_TooMany (c : Cc w h K mg) : PySem.W.exmOne K (.ref (He.ga K "TooMany")) (.ref (He.ga K "TooMany")) = some true := He.exm_ok (c.fa 64 rfl)
theorem em_NoMarks_SeatError (c : Cc w h K mg) : PySem.W.exmOne K (.ref (He.ga K "NoMarks")) (.ref (He.ga K "SeatError")) = some true := He.exm_ok (c.fa 65 rfl)
theorem em_NoLot_SeatError (c : Cc w h K mg) : PySem.W.exmOne K (.ref (He.ga K "NoLot")) (.ref (He.ga K "SeatError")) = some true := He.exm_ok (c.fa 66 rfl)
theorem em_NoSeat_SeatError (c : Cc w h K mg) : PySem.W.exmOne K (.ref (He.ga K "NoSeat")) (.ref (He.ga K "SeatError")) = some true := He.exm_ok (c.fa 67 rfl)
theorem em_NoPlace_SeatError (c : Cc w h K mg) : PySem.W.exmOne K (.ref (He.ga K "NoPlace")) (.ref (He.ga K "SeatError")) = some true := He.exm_ok (c.fa 68 rfl)
theorem em_NothingDone_SeatError (c : Cc w h K mg) : PySem.W.exmOne K (.ref (He.ga K "NothingDone")) (.ref (He.ga K "SeatError")) = some true := He.exm_ok (c.fa 69 rfl)
theorem em_BadSeats_SeatError (c : Cc w h K mg) : PySem.W.exmOne K (.ref (He.ga K "BadSeats")) (.ref (He.ga K "SeatError")) = some true := He.exm_ok (c.fa 70 rfl)
theorem em_TooMany_SeatError (c : Cc w h K mg) : PySem.W.exmOne K (.ref (He.ga K "TooMany")) (.ref (He.ga K "SeatError")) = some true := He.exm_ok (c.fa 71 rfl)
theorem ec_NoMarks (c : Cc w h K mg) : ExcC K (He.ga K "NoMarks") := excC_ok (c.fb 15 rfl)
theorem kk_NoMarks_NothingDone (c : Cc w h K mg) : PySem.W.kitOne K (.ref (He.ga K "NoMarks")) (.ref (He.ga K "NothingDone")) = some false := sB_ok (c.fb 16 rfl)
theorem ec_NoLot (c : Cc w h K mg) : ExcC K (He.ga K "NoLot") := excC_ok (c.fb 17 rfl)
theorem kk_NoLot_NothingDone (c : Cc w h K mg) : PySem.W.kitOne K (.ref (He.ga K "NoLot")) (.ref (He.ga K "NothingDone")) = some false := sB_ok (c.fb 18 rfl)
theorem ec_NoSeat (c : Cc w h K mg) : ExcC K (He.ga K "NoSeat") := excC_ok (c.fb 19 rfl)
theorem kk_NoSeat_NothingDone (c : Cc w h K mg) : PySem.W.kitOne K (.ref (He.ga K "NoSeat")) (.ref (He.ga K "NothingDone")) = some false := sB_ok (c.fb 20 rfl)
theorem ec_NoPlace (c : Cc w h K mg) : ExcC K (He.ga K "NoPlace") := excC_ok (c.fb 21 rfl)
theorem kk_NoPlace_NothingDone (c : Cc w h K mg) : PySem.W.kitOne K (.ref (He.ga K "NoPlace")) (.ref (He.ga K "NothingDone")) = some false := sB_ok (c.fb 22 rfl)
theorem ec_NothingDone (c : Cc w h K mg) : ExcC K (He.ga K "NothingDone") := excC_ok (c.fb 23 rfl)
theorem kk_NothingDone_NothingDone (c : Cc w h K mg) : PySem.W.kitOne K (.ref (He.ga K "NothingDone")) (.ref (He.ga K "NothingDone")) = some true := sB_ok (c.fb 24 rfl)
theorem kk_NoMarks_NoSeat (c : Cc w h K mg) : PySem.W.kitOne K (.ref (He.ga K "NoMarks")) (.ref (He.ga K "NoSeat")) = some false := sB_ok (c.fb 25 rfl)
theorem kk_NoLot_NoSeat (c : Cc w h K mg) : PySem.W.kitOne K (.ref (He.ga K "NoLot")) (.ref (He.ga K "NoSeat")) = some false := sB_ok (c.fb 26 rfl)
theorem kk_NoSeat_NoSeat (c : Cc w h K mg) : PySem.W.kitOne K (.ref (He.ga K "NoSeat")) (.ref (He.ga K "NoSeat")) = some true := sB_ok (c.fb 27 rfl)
theorem kk_NoPlace_NoSeat (c : Cc w h K mg) : PySem.W.kitOne K (.ref (He.ga K "NoPlace")) (.ref (He.ga K "NoSeat")) = some false := sB_ok (c.fb 28 rfl)
theorem kk_NothingDone_NoSeat (c : Cc w h K mg) : PySem.W.kitOne K (.ref (He.ga K "NothingDone")) (.ref (He.ga K "NoSeat")) = some false := sB_ok (c.fb 29 rfl)
theorem kk_NoMarks_NoLot (c : Cc w h K mg) : PySem.W.kitOne K (.ref (He.ga K "NoMarks")) (.ref (He.ga K "NoLot")) = some false := sB_ok (c.fb 30 rfl)
theorem kk_NoLot_NoLot (c : Cc w h K mg) : PySem.W.kitOne K (.ref (He.ga K "NoLot")) (.ref (He.ga K "NoLot")) = some true := sB_ok (c.fb 31 rfl)
theorem kk_NoSeat_NoLot (c : Cc w h K mg) : PySem.W.kitOne K (.ref (He.ga K "NoSeat")) (.ref (He.ga K "NoLot")) = some false := sB_ok (c.fb 32 rfl)
theorem kk_NoPlace_NoLot (c : Cc w h K mg) : PySem.W.kitOne K (.ref (He.ga K "NoPlace")) (.ref (He.ga K "NoLot")) = some false := sB_ok (c.fb 33 rfl)
theorem kk_NothingDone_NoLot (c : Cc w h K mg) : PySem.W.kitOne K (.ref (He.ga K "NothingDone")) (.ref (He.ga K "NoLot")) = some false := sB_ok (c.fb 34 rfl)
theorem kk_NoMarks_NoPlace (c : Cc w h K mg) : PySem.W.kitOne K (.ref (He.ga K "NoMarks")) (.ref (He.ga K "NoPlace")) = some false := sB_ok (c.fb 35 rfl)
theorem kk_NoLot_NoPlace (c : Cc w h K mg) : PySem.W.kitOne K (.ref (He.ga K "NoLot")) (.ref (He.ga K "NoPlace")) = some false := sB_ok (c.fb 36 rfl)
theorem kk_NoSeat_NoPlace (c : Cc w h K mg) : PySem.W.kitOne K (.ref (He.ga K "NoSeat")) (.ref (He.ga K "NoPlace")) = some false := sB_ok (c.fb 37 rfl)
theorem kk_NoPlace_NoPlace (c : Cc w h K mg) : PySem.W.kitOne K (.ref (He.ga K "NoPlace")) (.ref (He.ga K "NoPlace")) = some true := sB_ok (c.fb 38 rfl)
theorem kk_NothingDone_NoPlace (c : Cc w h K mg) : PySem.W.kitOne K (.ref (He.ga K "NothingDone")) (.ref (He.ga K "NoPlace")) = some false := sB_ok (c.fb 39 rfl)
theorem kk_NoMarks_NoMarks (c : Cc w h K mg) : PySem.W.kitOne K (.ref (He.ga K "NoMarks")) (.ref (He.ga K "NoMarks")) = some true := sB_ok (c.fb 40 rfl)
theorem kk_NoLot_NoMarks (c : Cc w h K mg) : PySem.W.kitOne K (.ref (He.ga K "NoLot")) (.ref (He.ga K "NoMarks")) = some false := sB_ok (c.fb 41 rfl)
theorem kk_NoSeat_NoMarks (c : Cc w h K mg) : PySem.W.kitOne K (.ref (He.ga K "NoSeat")) (.ref (He.ga K "NoMarks")) = some false := sB_ok (c.fb 42 rfl)
theorem kk_NoPlace_NoMarks (c : Cc w h K mg) : PySem.W.kitOne K (.ref (He.ga K "NoPlace")) (.ref (He.ga K "NoMarks")) = some false := sB_ok (c.fb 43 rfl)
theorem kk_NothingDone_NoMarks (c : Cc w h K mg) : PySem.W.kitOne K (.ref (He.ga K "NothingDone")) (.ref (He.ga K "NoMarks")) = some false := sB_ok (c.fb 44 rfl)
theorem g_SeatError (c : Cc w h K mg) : mg "SeatError" = some (.ref (He.ga K "SeatError")) := He.glo_ok c.X c.G (c.fa 72 rfl)
theorem g__law_asked (c : Cc w h K mg) : mg "_law_asked" = some (.ref (He.ga K "_law_asked")) := He.glo_ok c.X c.G (c.fa 73 rfl)
theorem g__law_is_up (c : Cc w h K mg) : mg "_law_is_up" = some (.ref (He.ga K "_law_is_up")) := He.glo_ok c.X c.G (c.fa 74 rfl)
theorem g__law_is_marks (c : Cc w h K mg) : mg "_law_is_marks" = some (.ref (He.ga K "_law_is_marks")) := He.glo_ok c.X c.G (c.fa 75 rfl)
theorem me_Bench_made (c : Cc w h K mg) : Meth K (He.ga K "Bench") "made" (He.fAd K ("Bench", some "made")) := He.meth_ok (c.fa 76 rfl)
theorem kk_Seats_Seats (c : Cc w h K mg) : PySem.W.kitOne K (.ref (He.ga K "Seats")) (.ref (He.ga K "Seats")) = some true := sB_ok (c.fb 45 rfl)
theorem kk_Bench_Seats (c : Cc w h K mg) : PySem.W.kitOne K (.ref (He.ga K "Bench")) (.ref (He.ga K "Seats")) = some false := sB_ok (c.fb 46 rfl)
theorem kt_NoneType_Seats (c : Cc w h K mg) : PySem.W.kitOne K (.type "NoneType") (.ref (He.ga K "Seats")) = some false := sB_ok (c.fb 47 rfl)
theorem kt_bool_Seats (c : Cc w h K mg) : PySem.W.kitOne K (.type "bool") (.ref (He.ga K "Seats")) = some false := sB_ok (c.fb 48 rfl)
theorem kt_int_Seats (c : Cc w h K mg) : PySem.W.kitOne K (.type "int") (.ref (He.ga K "Seats")) = some false := sB_ok (c.fb 49 rfl)
theorem kt_str_Seats (c : Cc w h K mg) : PySem.W.kitOne K (.type "str") (.ref (He.ga K "Seats")) = some false := sB_ok (c.fb 50 rfl)
theorem kt_tuple_Seats (c : Cc w h K mg) : PySem.W.kitOne K (.type "tuple") (.ref (He.ga K "Seats")) = some false := sB_ok (c.fb 51 rfl)
theorem kt_list_Seats (c : Cc w h K mg) : PySem.W.kitOne K (.type "list") (.ref (He.ga K "Seats")) = some false := sB_ok (c.fb 52 rfl)
theorem kt_dict_Seats (c : Cc w h K mg) : PySem.W.kitOne K (.type "dict") (.ref (He.ga K "Seats")) = some false := sB_ok (c.fb 53 rfl)
theorem me_Bench_deeds (c : Cc w h K mg) : Meth K (He.ga K "Bench") "deeds" (He.fAd K ("Bench", some "deeds")) := He.meth_ok (c.fa 77 rfl)
theorem g__law_stands (c : Cc w h K mg) : mg "_law_stands" = some (.ref (He.ga K "_law_stands")) := He.glo_ok c.X c.G (c.fa 78 rfl)
theorem fr_max (c : Cc w h K mg) : mg "max" = none := He.free_ok c.X c.G (c.fa 79 rfl)
theorem g__law_lot (c : Cc w h K mg) : mg "_law_lot" = some (.ref (He.ga K "_law_lot")) := He.glo_ok c.X c.G (c.fa 80 rfl)
theorem g__law_is_int (c : Cc w h K mg) : mg "_law_is_int" = some (.ref (He.ga K "_law_is_int")) := He.glo_ok c.X c.G (c.fa 81 rfl)
theorem g__law_is_kind (c : Cc w h K mg) : mg "_law_is_kind" = some (.ref (He.ga K "_law_is_kind")) := He.glo_ok c.X c.G (c.fa 82 rfl)
theorem g__law_is_lot (c : Cc w h K mg) : mg "_law_is_lot" = some (.ref (He.ga K "_law_is_lot")) := He.glo_ok c.X c.G (c.fa 83 rfl)
theorem g__law_due (c : Cc w h K mg) : mg "_law_due" = some (.ref (He.ga K "_law_due")) := He.glo_ok c.X c.G (c.fa 84 rfl)
theorem g_law (c : Cc w h K mg) : mg "law" = some (.ref (He.ga K "law")) := He.glo_ok c.X c.G (c.fa 85 rfl)
end
/-! what the defs do -/
def b__law_tape : DS := (dRet (dLst (dConsA (dCallB listT (dConsA (dV 0) dNilA)) (dConsA (dC (.int 0)) (dConsA (dC (.int 0)) (dConsA (dC (.int 1)) (dConsA (dC (.int 0)) dNilA)))))))
def d__law_tape : FD := gcF (dFn 1 1 b__law_tape)
def b__law_pick : DS := (dSeq (dIfS (dB (dBin gtT (dBin ixT (dV 0) (dC (.int 2))) (dC (.int 1)))) (dSeq (dSet 4 (dBin modT (dCallB intT (dConsA (dBin ixT (dV 0) (dC (.int 2))) dNilA)) (dV 1)))
 (dSeq (dAsg (dBin divT (dBin ixT (dV 0) (dC (.int 2))) (dV 1)) (gSub' (dV 0) (dC (.int 2)) setItemT))
 (dRet (dV 4))))
 dNil)
 (dSeq (dAsg (dBin addT (dBin ixT (dV 0) (dC (.int 4))) (dC (.int 1))) (gSub' (dV 0) (dC (.int 4)) setItemT))
 (dSeq (dSet 2 (dC (.int 0)))
 (dSeq (dIfS (dB (dBin ltT (dBin ixT (dV 0) (dC (.int 1))) (dCallB lenT (dConsA (dBin ixT (dV 0) (dC (.int 0))) dNilA)))) (dSeq (dSet 2 (dBin ixT (dBin ixT (dV 0) (dC (.int 0))) (dBin ixT (dV 0) (dC (.int 1)))))
 (dAsg (dBin addT (dBin ixT (dV 0) (dC (.int 1))) (dC (.int 1))) (gSub' (dV 0) (dC (.int 1)) setItemT)))
 dNil)
 (dSeq (dIfS (dB (dBin geT (dV 2) (dBin powT (dC (.int 10)) (dC (.int 18))))) (dSeq (dAsg (dBin divT (dV 2) (dV 1)) (gSub' (dV 0) (dC (.int 2)) setItemT))
 (dRet (dBin modT (dCallB intT (dConsA (dV 2) dNilA)) (dV 1))))
 dNil)
 (dSeq (dSet 3 (dBin modT (dCallB intT (dConsA (dBin addT (dBin addT (dBin mulT (dBin ixT (dV 0) (dC (.int 3))) (dC (.int 48271))) (dBin modT (dCallB intT (dConsA (dV 2) dNilA)) (dC (.int 2147483629)))) (dBin mulT (dBin ixT (dV 0) (dC (.int 4))) (dC (.int 69621)))) dNilA)) (dC (.int 2147483647))))
 (dSeq (dSet 3 (dBin modT (dCallB intT (dConsA (dBin mulT (dV 3) (dBin addT (dBin divT (dV 3) (dC (.int 1009))) (dC (.int 40692)))) dNilA)) (dC (.int 2147483399))))
 (dSeq (dAsg (dV 3) (gSub' (dV 0) (dC (.int 3)) setItemT))
 (dRet (dBin modT (dCallB intT (dConsA (dBin divT (dV 3) (dC (.int 16))) dNilA)) (dV 1)))))))))))
def d__law_pick : FD := gcF (dFn 2 5 b__law_pick)
def b__law_marks : DS := (dRet (dBin ixT (dLst (dConsA (dC (.str "ab")) (dConsA (dC (.str "abc")) (dConsA (dC (.str "abc")) (dConsA (dC (.str "ab")) (dConsA (dC (.str "x")) (dConsA (dC (.str "")) (dConsA (dC (.str "bdy")) (dConsA (dC (.str "abcd")) (dConsA (dC (.str "aeioz")) dNilA)))))))))) (dCall d__law_pick (dConsA (dV 0) (dConsA (dC (.int 9)) dNilA)))))
def d__law_marks : FD := gcF (dFn 1 1 b__law_marks)
def b__law_kinds : DS := (dSeq (dSet 1 (dLst (dConsA (dC (.str "")) dNilA)))
 (dSeq (dFor (wSeq (dV 0)) (gN 2)
 (dSet 1 (dBin addT (dV 1) (dLc (wSeq (dV 1)) [3] (gN 3) dYes (dBin addT (dV 3) (dV 2))))))
 (dRet (dCallB sortT (dConsA (dV 1) dNilA)))))
def d__law_kinds : FD := gcF (dFn 1 4 b__law_kinds)
def b_is_ascending : DS := (dRet (dCallB allT (dConsA (dLc (wRng (dConsA (dC (.int 1)) (dConsA (dCallB lenT (dConsA (dV 0) dNilA)) dNilA))) [1] (gN 1) dYes (dBin ltT (dBin ixT (dV 0) (dBin subT (dV 1) (dC (.int 1)))) (dBin ixT (dV 0) (dV 1)))) dNilA)))
def d_is_ascending : FD := gcF (dFn 1 2 b_is_ascending)
def b_is_marks : DS := (dSeq (dIfS (dOrB (dNotB (dB (dUn (isiB ["Seats", "Bench"] "str") (dV 0)))) (dB (dBin gtT (dCallB lenT (dConsA (dV 0) dNilA)) (dC (.int 5))))) (dRet (dC (.bl false)))
 dNil)
 (dRet (dAnd (dCallB allT (dConsA (dLc (wSeq (dV 0)) [1] (gN 1) dYes (dBin (inT false) (dV 1) (dC (.str "abcdefghijklmnopqrstuvwxyz")))) dNilA)) (dCall d_is_ascending (dConsA (dV 0) dNilA)))))
def d_is_marks : FD := gcF (dFn 1 2 b_is_marks)
def b_check_marks : DS := (dIfS (dNotB (dB (dCall d_is_marks (dConsA (dV 0) dNilA)))) (dRaise "NoMarks")
 dNil)
def d_check_marks : FD := gcF (dFn 1 1 b_check_marks)
def b_Bench___init__ : DS := (dSeq (dExpr (dCall d_check_marks (dConsA (dV 1) dNilA)))
 (dSeq (dSetF ["Seats", "Bench"] "marks" (dV 1) (dV 0))
 (dSeq (dSetF ["Bench"] "rows" (dTup dNilA) (dV 0))
 (dSetF ["Bench"] "past" (dLst dNilA) (dV 0)))))
def d_Bench___init__ : FD := gcF (dFn 2 2 b_Bench___init__)
def b_is_kind : DS := (dRet (dAnd (dUn (isiB ["Seats", "Bench"] "str") (dV 1)) (dAnd (dCallB allT (dConsA (dLc (wSeq (dV 1)) [2] (gN 2) dYes (dBin (inT false) (dV 2) (dV 0))) dNilA)) (dCall d_is_ascending (dConsA (dV 1) dNilA)))))
def d_is_kind : FD := gcF (dFn 2 3 b_is_kind)
def b_is_lot : DS := (dSeq (dIfS (dOrB (dNotB (dB (dUn (isiB ["Seats", "Bench"] "tuple") (dV 1)))) (dB (dBin eqT (dCallB lenT (dConsA (dV 1) dNilA)) (dC (.int 0))))) (dRet (dC (.bl false)))
 dNil)
 (dRet (dAnd (dCallB allT (dConsA (dLc (wSeq (dV 1)) [2] (gN 2) dYes (dCall d_is_kind (dConsA (dV 0) (dConsA (dV 2) dNilA)))) dNilA)) (dCall d_is_ascending (dConsA (dV 1) dNilA)))))
def d_is_lot : FD := gcF (dFn 2 3 b_is_lot)
def b_first_no_lot : DS := (dSeq (dFor (wEn (dV 1)) (gT 2 (gsC (gN 2) (gsC (gN 3) gsN)))
 (dIfS (dNotB (dB (dCall d_is_lot (dConsA (dV 0) (dConsA (dV 3) dNilA))))) (dRet (dV 2))
 dNil))
 (dRet (dC .non)))
def d_first_no_lot : FD := gcF (dFn 2 4 b_first_no_lot)
def b_Seats___init__ : DS := (dSeq (dIfS (dNotB (dB (dCall d_is_marks (dConsA (dV 1) dNilA)))) (dRaiseA "BadSeats" ["part", "at"] (dConsA (dC (.str "marks")) (dConsA (dUn negT (dC (.int 1))) dNilA)))
 dNil)
 (dSeq (dIfS (dOrB (dNotB (dB (dUn (isiB ["Seats", "Bench"] "tuple") (dV 2)))) (dB (dBin gtT (dCallB lenT (dConsA (dV 2) dNilA)) (dC (.int 40))))) (dRaiseA "BadSeats" ["part", "at"] (dConsA (dC (.str "lots")) (dConsA (dUn negT (dC (.int 1))) dNilA)))
 dNil)
 (dSeq (dSet 3 (dCall d_first_no_lot (dConsA (dV 1) (dConsA (dV 2) dNilA))))
 (dSeq (dIfS (dB (dBin isNotNT (dV 3) (dC .non))) (dRaiseA "BadSeats" ["part", "at"] (dConsA (dC (.str "lots")) (dConsA (dV 3) dNilA)))
 dNil)
 (dSeq (dSetF ["Seats", "Bench"] "marks" (dV 1) (dV 0))
 (dSetF ["Seats"] "lots" (dV 2) (dV 0)))))))
def d_Seats___init__ : FD := gcF (dFn 3 4 b_Seats___init__)
def b__law_deep : DS := (dSeq (dSet 1 (dBin ixT (dLst (dConsA (dC (.int 0)) (dConsA (dTup dNilA) (dConsA (dC (.str "a")) (dConsA (dC .non) dNilA))))) (dCall d__law_pick (dConsA (dV 0) (dConsA (dC (.int 4)) dNilA)))))
 (dSeq (dFor (wRng (dConsA (dC (.int 37)) dNilA)) (gN 2)
 (dSet 1 (dIf (dB (dBin eqT (dBin modT (dCallB intT (dConsA (dV 2) dNilA)) (dC (.int 3))) (dC (.int 1)))) (dLst (dConsA (dV 1) dNilA)) (dTup (dConsA (dV 1) dNilA)))))
 (dRet (dV 1))))
def d__law_deep : FD := gcF (dFn 1 3 b__law_deep)
def b__law_odd : DS := (dSeq (dSet 1 (dLst (dConsA (dC .non) (dConsA (dC (.bl true)) (dConsA (dC (.bl false)) (dConsA (dC (.int 0)) (dConsA (dC (.int 1)) (dConsA (dUn negT (dC (.int 1))) (dConsA (dBin powT (dC (.int 10)) (dC (.int 20))) (dConsA (dC (.str "")) (dConsA (dC (.str "a")) (dConsA (dC (.str "ab")) (dConsA (dC (.str "ba")) (dConsA (dC (.str "A")) (dConsA (dC (.str "aa")) (dConsA (dC (.str "abcdef")) (dConsA (dTup dNilA) (dConsA (dLst dNilA) (dConsA (dDic 0) (dConsA (dTup (dConsA (dC (.str "")) dNilA)) dNilA))))))))))))))))))))
 (dSeq (dSet 1 (dBin addT (dV 1) (dLst (dConsA (dTup (dConsA (dC (.str "a")) dNilA)) (dConsA (dLst (dConsA (dC (.str "a")) dNilA)) (dConsA (dTup (dConsA (dC (.str "a")) (dConsA (dC (.str "a")) dNilA))) (dConsA (dTup (dConsA (dC (.str "b")) (dConsA (dC (.str "a")) dNilA))) (dConsA (dTup (dConsA (dC (.str "ab")) (dConsA (dC (.str "a")) dNilA))) (dConsA (dTup (dConsA (dTup (dConsA (dC (.str "a")) dNilA)) dNilA)) (dConsA (dTup (dConsA (dTup (dConsA (dC (.str "a")) dNilA)) (dConsA (dTup dNilA) dNilA))) (dConsA (dTup (dConsA (dC (.int 1)) dNilA)) (dConsA (dTup (dConsA (dC (.str "a")) (dConsA (dC (.int 1)) dNilA))) dNilA))))))))))))
 (dSeq (dSet 1 (dBin addT (dV 1) (dLst (dConsA (dTup (dConsA (dC (.bl true)) (dConsA (dC (.str "a")) dNilA))) (dConsA (dTup (dConsA (dC (.str "z")) dNilA)) (dConsA (dTup (dConsA (dTup (dConsA (dC (.str "a")) dNilA)) (dConsA (dLst (dConsA (dC (.str "a")) dNilA)) dNilA))) (dConsA (dC (.str "a,b")) (dConsA (dTup (dConsA (dC (.int 0)) (dConsA (dC (.int 1)) dNilA))) (dConsA (dTup (dConsA (dC (.str "has")) (dConsA (dC (.str "a")) dNilA))) (dConsA (dTup (dConsA (dC (.str "a")) (dConsA (dC (.str "b")) (dConsA (dC (.str "")) dNilA)))) dNilA))))))))))
 (dRet (dBin ixT (dV 1) (dCall d__law_pick (dConsA (dV 0) (dConsA (dCallB lenT (dConsA (dV 1) dNilA)) dNilA))))))))
def d__law_odd : FD := gcF (dFn 1 2 b__law_odd)
def b_is_integer : DS := (dRet (dAnd (dUn (isiB ["Seats", "Bench"] "int") (dV 0)) (dNot (dUn (isiB ["Seats", "Bench"] "bool") (dV 0)))))
def d_is_integer : FD := gcF (dFn 1 1 b_is_integer)
def b_is_within : DS := (dRet (dAnd (dCall d_is_integer (dConsA (dV 0) dNilA)) (dChain (fun i j => decide (i ≤ j)) (fun i j => decide (i ≤ j)) (dV 1) (dV 0) (dV 2))))
def d_is_within : FD := gcF (dFn 3 3 b_is_within)
def b_check_lot : DS := (dIfS (dNotB (dB (dCall d_is_lot (dConsA (dV 0) (dConsA (dV 1) dNilA))))) (dRaise "NoLot")
 dNil)
def d_check_lot : FD := gcF (dFn 2 2 b_check_lot)
def b_Bench_go : DS := (dSeq (dExpr (dMeth isL appendT (dFld ["Bench"] "past" (dV 0)) (dConsA (dFld ["Bench"] "rows" (dV 0)) dNilA)))
 (dSetF ["Bench"] "rows" (dV 1) (dV 0)))
def d_Bench_go : FD := gcF (dFn 2 2 b_Bench_go)
def b_Bench_put : DS := (dSeq (dIfS (dNotB (dB (dCall d_is_within (dConsA (dV 1) (dConsA (dC (.int 0)) (dConsA (dCallB lenT (dConsA (dFld ["Bench"] "rows" (dV 0)) dNilA)) dNilA)))))) (dRaise "NoPlace")
 dNil)
 (dSeq (dExpr (dCall d_check_lot (dConsA (dFld ["Seats", "Bench"] "marks" (dV 0)) (dConsA (dV 2) dNilA))))
 (dSeq (dIfS (dB (dBin eqT (dCallB lenT (dConsA (dFld ["Bench"] "rows" (dV 0)) dNilA)) (dC (.int 40)))) (dRaiseA "TooMany" ["most"] (dConsA (dC (.int 40)) dNilA))
 dNil)
 (dExpr (dMeth (isIns "Bench" "go") d_Bench_go (dV 0) (dConsA (dBin addT (dBin addT (dSlice (dFld ["Bench"] "rows" (dV 0)) dNoPart (dPart (dV 1))) (dTup (dConsA (dV 2) dNilA))) (dSlice (dFld ["Bench"] "rows" (dV 0)) (dPart (dV 1)) dNoPart)) dNilA))))))
def d_Bench_put : FD := gcF (dFn 3 3 b_Bench_put)
def b_Bench_strike : DS := (dSeq (dIfS (dNotB (dB (dCall d_is_within (dConsA (dV 1) (dConsA (dC (.int 0)) (dConsA (dBin subT (dCallB lenT (dConsA (dFld ["Bench"] "rows" (dV 0)) dNilA)) (dC (.int 1))) dNilA)))))) (dRaise "NoSeat")
 dNil)
 (dExpr (dMeth (isIns "Bench" "go") d_Bench_go (dV 0) (dConsA (dBin addT (dSlice (dFld ["Bench"] "rows" (dV 0)) dNoPart (dPart (dV 1))) (dSlice (dFld ["Bench"] "rows" (dV 0)) (dPart (dBin addT (dV 1) (dC (.int 1)))) dNoPart)) dNilA))))
def d_Bench_strike : FD := gcF (dFn 2 2 b_Bench_strike)
def b_swapped : DS := (dRet (dBin addT (dBin addT (dSlice (dV 0) dNoPart (dPart (dV 1))) (dTup (dConsA (dBin ixT (dV 0) (dBin addT (dV 1) (dC (.int 1)))) (dConsA (dBin ixT (dV 0) (dV 1)) dNilA)))) (dSlice (dV 0) (dPart (dBin addT (dV 1) (dC (.int 2)))) dNoPart)))
def d_swapped : FD := gcF (dFn 2 2 b_swapped)
def b_Bench_shift : DS := (dSeq (dIfS (dNotB (dB (dCall d_is_within (dConsA (dV 1) (dConsA (dC (.int 0)) (dConsA (dBin subT (dCallB lenT (dConsA (dFld ["Bench"] "rows" (dV 0)) dNilA)) (dC (.int 2))) dNilA)))))) (dRaise "NoSeat")
 dNil)
 (dExpr (dMeth (isIns "Bench" "go") d_Bench_go (dV 0) (dConsA (dCall d_swapped (dConsA (dFld ["Bench"] "rows" (dV 0)) (dConsA (dV 1) dNilA))) dNilA))))
def d_Bench_shift : FD := gcF (dFn 2 2 b_Bench_shift)
def b_Bench_back : DS := (dSeq (dIfS (dB (dBin eqT (dCallB lenT (dConsA (dFld ["Bench"] "past" (dV 0)) dNilA)) (dC (.int 0)))) (dRaise "NothingDone")
 dNil)
 (dSetF ["Bench"] "rows" (dMeth isL popT (dFld ["Bench"] "past" (dV 0)) dNilA) (dV 0)))
def d_Bench_back : FD := gcF (dFn 1 1 b_Bench_back)
def b__law_asked : DS := (dSeq (dSet 4 (dC (.str "none")))
 (dSeq (dTry (dSeq (dIfS (dB (dBin eqT (dV 1) (dC (.int 0)))) (dExpr (dMeth (isIns "Bench" "put") d_Bench_put (dV 0) (dConsA (dV 2) (dConsA (dV 3) dNilA))))
 (dIfS (dB (dBin eqT (dV 1) (dC (.int 1)))) (dExpr (dMeth (isIns "Bench" "strike") d_Bench_strike (dV 0) (dConsA (dV 2) dNilA)))
 (dIfS (dB (dBin eqT (dV 1) (dC (.int 2)))) (dExpr (dMeth (isIns "Bench" "shift") d_Bench_shift (dV 0) (dConsA (dV 2) dNilA)))
 (dIfS (dB (dBin eqT (dV 1) (dC (.int 3)))) (dExpr (dMeth (isIns "Bench" "back") d_Bench_back (dV 0) dNilA))
 (dExpr (dMake "Bench" d_Bench___init__ (dConsA (dV 2) dNilA)))))))
 (dSet 4 (dC (.str "done"))))
 [⟨[("NoMarks", false), ("NoLot", false), ("NoSeat", false), ("NoPlace", false), ("NothingDone", false), ("BadSeats", false), ("TooMany", true)], some 5, fun er => (dSet 4 (dBin ixT (dLst (dConsA (dC (.str "other")) (dConsA (dC (.str "many")) dNilA))) (dCallB intT (dConsA (dBin eqT (dEf er ["TooMany"] "most") (dC (.int 40))) dNilA))))⟩, ⟨[("NoMarks", true), ("NoLot", true), ("NoSeat", true), ("NoPlace", true), ("NothingDone", true), ("BadSeats", true), ("TooMany", true)], some 5, fun er => (dSeq (dSet 6 (dLst (dConsA (dIsE er [("NoMarks", false), ("NoLot", false), ("NoSeat", false), ("NoPlace", true), ("NothingDone", false)]) (dConsA (dIsE er [("NoMarks", false), ("NoLot", true), ("NoSeat", false), ("NoPlace", false), ("NothingDone", false)]) (dConsA (dIsE er [("NoMarks", false), ("NoLot", false), ("NoSeat", true), ("NoPlace", false), ("NothingDone", false)]) (dConsA (dIsE er [("NoMarks", false), ("NoLot", false), ("NoSeat", false), ("NoPlace", false), ("NothingDone", true)]) dNilA))))))
 (dSeq (dExpr (dMeth isL appendT (dV 6) (dConsA (dIsE er [("NoMarks", true), ("NoLot", false), ("NoSeat", false), ("NoPlace", false), ("NothingDone", false)]) dNilA)))
 (dSeq (dSet 4 (dC (.str "odd")))
 (dIfS (dB (dBin eqT (dMeth isL countT (dV 6) (dConsA (dC (.bl true)) dNilA)) (dC (.int 1)))) (dSet 4 (dBin ixT (dLst (dConsA (dC (.str "place")) (dConsA (dC (.str "lot")) (dConsA (dC (.str "seat")) (dConsA (dC (.str "nothing")) (dConsA (dC (.str "marks")) dNilA)))))) (dMeth isL indexT (dV 6) (dConsA (dC (.bl true)) dNilA))))
 dNil))))⟩])
 (dRet (dV 4))))
def d__law_asked : FD := gcF (dFn 4 7 b__law_asked)
def b__law_is_up : DS := (dRet (dBin eqT (dCallB lenT (dConsA (dLc (wRng (dConsA (dC (.int 1)) (dConsA (dCallB lenT (dConsA (dV 0) dNilA)) dNilA))) [1] (gN 1) (dNotB (dB (dBin ltT (dBin ixT (dV 0) (dBin subT (dV 1) (dC (.int 1)))) (dBin ixT (dV 0) (dV 1))))) (dV 1)) dNilA)) (dC (.int 0))))
def d__law_is_up : FD := gcF (dFn 1 2 b__law_is_up)
def b__law_is_marks : DS := (dSeq (dIfS (dOrB (dNotB (dB (dUn (isiB ["Seats", "Bench"] "str") (dV 0)))) (dOrB (dB (dBin gtT (dCallB lenT (dConsA (dV 0) dNilA)) (dC (.int 5)))) (dNotB (dB (dCall d__law_is_up (dConsA (dV 0) dNilA)))))) (dRet (dC (.bl false)))
 dNil)
 (dRet (dBin eqT (dCallB lenT (dConsA (dLc (wSeq (dV 0)) [1] (gN 1) (dOrB (dB (dBin ltT (dV 1) (dC (.str "a")))) (dB (dBin gtT (dV 1) (dC (.str "z"))))) (dV 1)) dNilA)) (dC (.int 0)))))
def d__law_is_marks : FD := gcF (dFn 1 2 b__law_is_marks)
def b_Bench_made : DS := (dRet (dMake "Seats" d_Seats___init__ (dConsA (dFld ["Seats", "Bench"] "marks" (dV 0)) (dConsA (dFld ["Bench"] "rows" (dV 0)) dNilA))))
def d_Bench_made : FD := gcF (dFn 1 1 b_Bench_made)
def b_Bench_deeds : DS := (dRet (dCallB lenT (dConsA (dFld ["Bench"] "past" (dV 0)) dNilA)))
def d_Bench_deeds : FD := gcF (dFn 1 1 b_Bench_deeds)
def b__law_stands : DS := (dSeq (dSet 4 (dMeth (isIns "Bench" "made") d_Bench_made (dV 0) dNilA))
 (dRet (dAnd (dUn (isiC ["Seats", "Bench"] "Seats") (dV 4)) (dAnd (dBin eqT (dFld ["Seats", "Bench"] "marks" (dV 4)) (dV 1)) (dAnd (dBin eqT (dFld ["Seats"] "lots" (dV 4)) (dV 2)) (dBin eqT (dMeth (isIns "Bench" "deeds") d_Bench_deeds (dV 0) dNilA) (dV 3)))))))
def d__law_stands : FD := gcF (dFn 4 5 b__law_stands)
def b__law_lot : DS := (dSeq (dIfS (dAndB (dB (dBin gtT (dCallB lenT (dConsA (dV 1) dNilA)) (dC (.int 8)))) (dB (dBin eqT (dCall d__law_pick (dConsA (dV 0) (dConsA (dC (.int 2)) dNilA))) (dC (.int 0))))) (dSeq (dSet 3 (dLc (wRng (dConsA (dBin addT (dC (.int 1)) (dCall d__law_pick (dConsA (dV 0) (dConsA (dC (.int 4)) dNilA)))) dNilA)) [5] (gN 5) dYes (dBin ixT (dV 1) (dCall d__law_pick (dConsA (dV 0) (dConsA (dCallB lenT (dConsA (dV 1) dNilA)) dNilA))))))
 (dRet (dCallB tupleT (dConsA (dCallB sortT (dConsA (dLc (wSeq (dV 1)) [4] (gN 4) (dB (dBin (inT false) (dV 4) (dV 3))) (dV 4)) dNilA)) dNilA))))
 dNil)
 (dSeq (dSet 2 (dLc (wSeq (dV 1)) [4] (gN 4) (dB (dBin eqT (dCall d__law_pick (dConsA (dV 0) (dConsA (dC (.int 2)) dNilA))) (dC (.int 0)))) (dV 4)))
 (dSeq (dIfS (dB (dBin eqT (dCallB lenT (dConsA (dV 2) dNilA)) (dC (.int 0)))) (dSet 2 (dLst (dConsA (dBin ixT (dV 1) (dCall d__law_pick (dConsA (dV 0) (dConsA (dCallB lenT (dConsA (dV 1) dNilA)) dNilA)))) dNilA)))
 dNil)
 (dRet (dCallB tupleT (dConsA (dV 2) dNilA))))))
def d__law_lot : FD := gcF (dFn 2 6 b__law_lot)
def b__law_is_int : DS := (dRet (dAnd (dUn (isiB ["Seats", "Bench"] "int") (dV 0)) (dAnd (dNot (dUn (isiB ["Seats", "Bench"] "bool") (dV 0))) (dAnd (dBin leT (dV 1) (dV 0)) (dBin leT (dV 0) (dV 2))))))
def d__law_is_int : FD := gcF (dFn 3 3 b__law_is_int)
def b__law_is_kind : DS := (dRet (dAnd (dUn (isiB ["Seats", "Bench"] "str") (dV 1)) (dAnd (dBin eqT (dCallB lenT (dConsA (dLc (wSeq (dV 1)) [2] (gN 2) (dB (dBin (inT true) (dV 2) (dV 0))) (dV 2)) dNilA)) (dC (.int 0))) (dCall d__law_is_up (dConsA (dV 1) dNilA)))))
def d__law_is_kind : FD := gcF (dFn 2 3 b__law_is_kind)
def b__law_is_lot : DS := (dSeq (dIfS (dOrB (dNotB (dB (dUn (isiB ["Seats", "Bench"] "tuple") (dV 1)))) (dB (dBin eqT (dCallB lenT (dConsA (dV 1) dNilA)) (dC (.int 0))))) (dRet (dC (.bl false)))
 dNil)
 (dRet (dAnd (dBin eqT (dCallB lenT (dConsA (dLc (wSeq (dV 1)) [2] (gN 2) (dNotB (dB (dCall d__law_is_kind (dConsA (dV 0) (dConsA (dV 2) dNilA))))) (dV 2)) dNilA)) (dC (.int 0))) (dCall d__law_is_up (dConsA (dV 1) dNilA)))))
def d__law_is_lot : FD := gcF (dFn 2 3 b__law_is_lot)
def b__law_due : DS := (dSeq (dIfS (dB (dBin eqT (dV 2) (dC (.int 0)))) (dSeq (dIfS (dNotB (dB (dCall d__law_is_int (dConsA (dV 3) (dConsA (dC (.int 0)) (dConsA (dCallB lenT (dConsA (dV 1) dNilA)) dNilA)))))) (dRet (dC (.str "place")))
 dNil)
 (dSeq (dIfS (dNotB (dB (dCall d__law_is_lot (dConsA (dV 0) (dConsA (dV 4) dNilA))))) (dRet (dC (.str "lot")))
 dNil)
 (dRet (dBin ixT (dLst (dConsA (dC (.str "done")) (dConsA (dC (.str "many")) dNilA))) (dCallB intT (dConsA (dBin eqT (dCallB lenT (dConsA (dV 1) dNilA)) (dC (.int 40))) dNilA))))))
 dNil)
 (dSeq (dIfS (dNotB (dB (dCall d__law_is_int (dConsA (dV 3) (dConsA (dC (.int 0)) (dConsA (dBin subT (dCallB lenT (dConsA (dV 1) dNilA)) (dV 2)) dNilA)))))) (dRet (dC (.str "seat")))
 dNil)
 (dRet (dC (.str "done")))))
def d__law_due : FD := gcF (dFn 5 5 b__law_due)
def b_law : DS := (dSeq (dSet 1 (dCall d__law_tape (dConsA (dV 0) dNilA)))
 (dSeq (dSet 2 (dCall d__law_marks (dConsA (dV 1) dNilA)))
 (dSeq (dSet 3 (dCall d__law_kinds (dConsA (dV 2) dNilA)))
 (dSeq (dSet 4 (dMake "Bench" d_Bench___init__ (dConsA (dV 2) dNilA)))
 (dSeq (dSet 5 (dBin ixT (dLst (dConsA (dCall d__law_odd (dConsA (dV 1) dNilA)) (dConsA (dCall d__law_odd (dConsA (dV 1) dNilA)) (dConsA (dCall d__law_deep (dConsA (dV 1) dNilA)) (dConsA (dV 4) (dConsA (dMake "Seats" d_Seats___init__ (dConsA (dV 2) (dConsA (dTup dNilA) dNilA))) dNilA)))))) (dCall d__law_pick (dConsA (dV 1) (dConsA (dC (.int 5)) dNilA)))))
 (dSeq (dIfS (dB (dBin neT (dCall d__law_asked (dConsA (dV 4) (dConsA (dC (.int 4)) (dConsA (dV 5) (dConsA (dC .non) dNilA))))) (dBin ixT (dLst (dConsA (dC (.str "marks")) (dConsA (dC (.str "done")) dNilA))) (dCallB intT (dConsA (dCall d__law_is_marks (dConsA (dV 5) dNilA)) dNilA))))) (dRet (dC (.bl false)))
 dNil)
 (dSeq (dIfS (dOrB (dB (dBin neT (dCall d__law_asked (dConsA (dV 4) (dConsA (dC (.int 3)) (dConsA (dC .non) (dConsA (dC .non) dNilA))))) (dC (.str "nothing")))) (dNotB (dB (dCall d__law_stands (dConsA (dV 4) (dConsA (dV 2) (dConsA (dTup dNilA) (dConsA (dC (.int 0)) dNilA)))))))) (dRet (dC (.bl false)))
 dNil)
 (dSeq (dSet 6 (dTup dNilA))
 (dSeq (dFor (wRng (dConsA (dBin ixT (dLst (dConsA (dCall d__law_pick (dConsA (dV 1) (dConsA (dC (.int 7)) dNilA))) (dConsA (dC (.int 39)) (dConsA (dC (.int 40)) dNilA)))) (dCallB max2T (dConsA (dC (.int 0)) (dConsA (dBin subT (dCall d__law_pick (dConsA (dV 1) (dConsA (dC (.int 6)) dNilA))) (dC (.int 3))) dNilA)))) dNilA)) (gN 7)
 (dSeq (dSet 6 (dBin addT (dV 6) (dTup (dConsA (dCall d__law_lot (dConsA (dV 1) (dConsA (dV 3) dNilA))) dNilA))))
 (dExpr (dMeth (isIns "Bench" "put") d_Bench_put (dV 4) (dConsA (dV 7) (dConsA (dBin ixT (dV 6) (dUn negT (dC (.int 1)))) dNilA))))))
 (dSeq (dFor (wRng (dConsA (dC (.int 14)) dNilA)) (gN 7)
 (dSeq (dSet 8 (dCall d__law_pick (dConsA (dV 1) (dConsA (dC (.int 3)) dNilA))))
 (dSeq (dSet 9 (dLst (dConsA (dCall d__law_odd (dConsA (dV 1) dNilA)) (dConsA (dBin subT (dCallB lenT (dConsA (dV 6) dNilA)) (dCall d__law_pick (dConsA (dV 1) (dConsA (dC (.int 3)) dNilA)))) (dConsA (dCall d__law_pick (dConsA (dV 1) (dConsA (dBin addT (dCallB lenT (dConsA (dV 6) dNilA)) (dC (.int 2))) dNilA))) (dConsA (dUn negT (dC (.int 1))) (dConsA (dBin addT (dCallB lenT (dConsA (dV 6) dNilA)) (dC (.int 1))) dNilA)))))))
 (dSeq (dSet 10 (dCall d__law_lot (dConsA (dV 1) (dConsA (dV 3) dNilA))))
 (dSeq (dSet 11 (dLst (dConsA (dV 10) (dConsA (dV 10) (dConsA (dCall d__law_odd (dConsA (dV 1) dNilA)) (dConsA (dCallB listT (dConsA (dV 10) dNilA)) (dConsA (dCall d__law_deep (dConsA (dV 1) dNilA)) dNilA)))))))
 (dSeq (dSet 12 (dTup (dConsA (dBin ixT (dV 9) (dCall d__law_pick (dConsA (dV 1) (dConsA (dC (.int 5)) dNilA)))) (dConsA (dBin ixT (dV 11) (dCall d__law_pick (dConsA (dV 1) (dConsA (dC (.int 5)) dNilA)))) dNilA))))
 (dSeq (dSet 13 (dCall d__law_due (dConsA (dV 2) (dConsA (dV 6) (dConsA (dV 8) (dConsA (dBin ixT (dV 12) (dC (.int 0))) (dConsA (dBin ixT (dV 12) (dC (.int 1))) dNilA)))))))
 (dSeq (dIfS (dB (dBin neT (dCall d__law_asked (dConsA (dV 4) (dConsA (dV 8) (dConsA (dBin ixT (dV 12) (dC (.int 0))) (dConsA (dBin ixT (dV 12) (dC (.int 1))) dNilA))))) (dV 13))) (dRet (dC (.bl false)))
 dNil)
 (dSeq (dIfS (dB (dBin eqT (dV 13) (dC (.str "done")))) (dExpr (dMeth (isIns "Bench" "back") d_Bench_back (dV 4) dNilA))
 dNil)
 (dIfS (dNotB (dB (dCall d__law_stands (dConsA (dV 4) (dConsA (dV 2) (dConsA (dV 6) (dConsA (dCallB lenT (dConsA (dV 6) dNilA)) dNilA))))))) (dRet (dC (.bl false)))
 dNil))))))))))
 (dRet (dC (.bl true)))))))))))))
def d_law : FD := gcF (dFn 1 14 b_law)
/-! .. and that they do so -/
section
variable {P : Program} {w : World} {h : Heap} {K : PySem.W.Frag} {mg : PySem.Str → Option Value} {base : Heap}
theorem sc__law_tape : FnScope N__law_tape Ps__law_tape (defScope s__law_tape) := ⟨rfl, rfl, rfl, by decide +kernel, rfl, by decide +kernel, by decide +kernel⟩
theorem ok__law_tape (c : Cc w h K mg) : FnF P w K mg base (He.ga K) 1 (He.fAd K ("_law_tape", none)) d__law_tape := by
  obtain ⟨fd, F⟩ := c.fd 0 (d := D__law_tape) rfl
  refine fn_gc (fn_d (b := b__law_tape) F sc__law_tape (fun _ _ _ _ _ _ us hl => match us, hl with | [_], _ => rfl) (fun cdv A outer s H E cn => ?_))
  exact (z_one (z_ret (s_lst (s_consA (s_callT c_list (fr_list c) (s_consA (s_v 0) s_nilA)) (s_consA s_int (s_consA s_int (s_consA s_int (s_consA s_int s_nilA))))))))
theorem sc__law_pick : FnScope N__law_pick Ps__law_pick (defScope s__law_pick) := ⟨rfl, rfl, rfl, by decide +kernel, rfl, by decide +kernel, by decide +kernel⟩
theorem ok__law_pick (c : Cc w h K mg) : FnF P w K mg base (He.ga K) 1 (He.fAd K ("_law_pick", none)) d__law_pick := by
  obtain ⟨fd, F⟩ := c.fd 1 (d := D__law_pick) rfl
  refine fn_gc (fn_d (b := b__law_pick) F sc__law_pick (fun _ _ _ _ _ _ us hl => match us, hl with | [_, _], _ => rfl) (fun cdv A outer s H E cn => ?_))
  exact (z_cons (z_if (s_cmpT o_gt (s_ix (s_v 0) s_int) s_int) (z_cons (z_set 4 cn.nd (s_bin o_mod (s_callT c_int (fr_int c) (s_consA (s_ix (s_v 0) s_int) s_nilA)) (s_v 1)) .non)
 (z_cons (z_asg (s_bin o_div (s_ix (s_v 0) s_int) (s_v 1)) (g_sub (s_v 0) s_int))
 (z_one (z_ret (s_v 4)))))
 z_nil)
 (z_cons (z_asg (s_bin o_add (s_ix (s_v 0) s_int) s_int) (g_sub (s_v 0) s_int))
 (z_cons (z_set 2 cn.nd s_int .non)
 (z_cons (z_if (s_cmpT o_lt (s_ix (s_v 0) s_int) (s_callB c_len (fr_len c) (s_consA (s_ix (s_v 0) s_int) s_nilA))) (z_cons (z_set 2 cn.nd (s_ix (s_ix (s_v 0) s_int) (s_ix (s_v 0) s_int)) .non)
 (z_one (z_asg (s_bin o_add (s_ix (s_v 0) s_int) s_int) (g_sub (s_v 0) s_int))))
 z_nil)
 (z_cons (z_if (s_cmpT o_ge (s_v 2) (s_bin o_pow s_int s_int)) (z_cons (z_asg (s_bin o_div (s_v 2) (s_v 1)) (g_sub (s_v 0) s_int))
 (z_one (z_ret (s_bin o_mod (s_callT c_int (fr_int c) (s_consA (s_v 2) s_nilA)) (s_v 1)))))
 z_nil)
 (z_cons (z_set 3 cn.nd (s_bin o_mod (s_callT c_int (fr_int c) (s_consA (s_bin o_add (s_bin o_add (s_bin o_mul (s_ix (s_v 0) s_int) s_int) (s_bin o_mod (s_callT c_int (fr_int c) (s_consA (s_v 2) s_nilA)) s_int)) (s_bin o_mul (s_ix (s_v 0) s_int) s_int)) s_nilA)) s_int) .non)
 (z_cons (z_set 3 cn.nd (s_bin o_mod (s_callT c_int (fr_int c) (s_consA (s_bin o_mul (s_v 3) (s_bin o_add (s_bin o_div (s_v 3) s_int) s_int)) s_nilA)) s_int) .non)
 (z_cons (z_asg (s_v 3) (g_sub (s_v 0) s_int))
 (z_one (z_ret (s_bin o_mod (s_callT c_int (fr_int c) (s_consA (s_bin o_div (s_v 3) s_int) s_nilA)) (s_v 1))))))))))))
theorem sc__law_marks : FnScope N__law_marks Ps__law_marks (defScope s__law_marks) := ⟨rfl, rfl, rfl, by decide +kernel, rfl, by decide +kernel, by decide +kernel⟩
theorem ok__law_marks (c : Cc w h K mg) : FnF P w K mg base (He.ga K) 2 (He.fAd K ("_law_marks", none)) d__law_marks := by
  obtain ⟨fd, F⟩ := c.fd 2 (d := D__law_marks) rfl
  refine fn_gc (fn_d (b := b__law_marks) F sc__law_marks (fun _ _ _ _ _ _ us hl => match us, hl with | [_], _ => rfl) (fun cdv A outer s H E cn => ?_))
  exact (z_one (z_ret (s_ix (s_lst (s_consA s_str (s_consA s_str (s_consA s_str (s_consA s_str (s_consA s_str (s_consA s_str (s_consA s_str (s_consA s_str (s_consA s_str s_nilA)))))))))) (s_call cn (ok__law_pick c) (by decide) (g__law_pick c) (s_consA (s_v 0) (s_consA s_int s_nilA))))))
theorem sc__law_kinds : FnScope N__law_kinds Ps__law_kinds (defScope s__law_kinds) := ⟨rfl, rfl, rfl, by decide +kernel, rfl, by decide +kernel, by decide +kernel⟩
theorem ok__law_kinds (c : Cc w h K mg) : FnF P w K mg base (He.ga K) 1 (He.fAd K ("_law_kinds", none)) d__law_kinds := by
  obtain ⟨fd, F⟩ := c.fd 3 (d := D__law_kinds) rfl
  refine fn_gc (fn_d (b := b__law_kinds) F sc__law_kinds (fun _ _ _ _ _ _ us hl => match us, hl with | [_], _ => rfl) (fun cdv A outer s H E cn => ?_))
  exact (z_cons (z_set 1 cn.nd (s_lst (s_consA s_str s_nilA)) .non)
 (z_cons (z_for cn (w_seq (s_v 0)) (g_n 2 cn.nd .non)
 (z_one (z_set 1 cn.nd (s_bin o_add (s_v 1) (s_lc cn (w_seq (s_v 1)) (own := [("_law_kind", 3)]) (by kernel_rfl) (lcN 3) (fun s H C cl fp cn => (pg_name cn.nd rfl (.inl rfl))) (fun s H C cl fp cn => t_none) (fun s H C cl fp cn => (s_bin o_add (s_v 3) (s_v 2))))) .non)))
 (z_one (z_ret (s_callB c_sorted (fr_sorted c) (s_consA (s_v 1) s_nilA))))))
theorem sc_is_ascending : FnScope N_is_ascending Ps_is_ascending (defScope s_is_ascending) := ⟨rfl, rfl, rfl, by decide +kernel, rfl, by decide +kernel, by decide +kernel⟩
theorem ok_is_ascending (c : Cc w h K mg) : FnF P w K mg base (He.ga K) 1 (He.fAd K ("is_ascending", none)) d_is_ascending := by
  obtain ⟨fd, F⟩ := c.fd 4 (d := D_is_ascending) rfl
  refine fn_gc (fn_d (b := b_is_ascending) F sc_is_ascending (fun _ _ _ _ _ _ us hl => match us, hl with | [_], _ => rfl) (fun cdv A outer s H E cn => ?_))
  exact (z_one (z_ret (s_callB (c_all cn.calm) (fr_all c) (s_consA (s_lc cn (w_rng2 (fr_range c) (s_consA s_int (s_consA (s_callB c_len (fr_len c) (s_consA (s_v 0) s_nilA)) s_nilA)) (h1 := len2)) (own := [("at", 1)]) (by kernel_rfl) (lcN 1) (fun s H C cl fp cn => (pg_name cn.nd rfl (.inl rfl))) (fun s H C cl fp cn => t_none) (fun s H C cl fp cn => (s_cmp o_lt (s_ix (s_v 0) (s_bin o_sub (s_v 1) s_int)) (s_ix (s_v 0) (s_v 1))))) s_nilA))))
theorem sc_is_marks : FnScope N_is_marks Ps_is_marks (defScope s_is_marks) := ⟨rfl, rfl, rfl, by decide +kernel, rfl, by decide +kernel, by decide +kernel⟩
theorem ok_is_marks (c : Cc w h K mg) : FnF P w K mg base (He.ga K) 2 (He.fAd K ("is_marks", none)) d_is_marks := by
  obtain ⟨fd, F⟩ := c.fd 5 (d := D_is_marks) rfl
  refine fn_gc (fn_d (b := b_is_marks) F sc_is_marks (fun _ _ _ _ _ _ us hl => match us, hl with | [_], _ => rfl) (fun cdv A outer s H E cn => ?_))
  exact (z_cons (z_if (s_orW (s_notT (s_test (s_isiB ["Seats", "Bench"] "str" (by decide) (kitB_of (.cons ⟨(in_Seats c), (kb_Seats_str c)⟩ (.cons ⟨(in_Bench c), (kb_Bench_str c)⟩ .nil))) (fr_isinstance c) (fr_str c) (s_v 0)))) (s_or1 (s_cmpT o_gt (s_callB c_len (fr_len c) (s_consA (s_v 0) s_nilA)) (s_gint (i_MOST_MARKS c))))).pt (z_one (z_ret s_bl))
 z_nil)
 (z_one (z_ret (s_and (s_callB (c_all cn.calm) (fr_all c) (s_consA (s_lc cn (w_seq (s_v 0)) (own := [("sign", 1)]) (by kernel_rfl) (lcN 1) (fun s H C cl fp cn => (pg_name cn.nd rfl (.inl rfl))) (fun s H C cl fp cn => t_none) (fun s H C cl fp cn => (s_cmp (o_in cn.u65) (s_v 1) (s_gstr (st_SMALL c))))) s_nilA)) (s_one (s_call cn (ok_is_ascending c) (by decide) (g_is_ascending c) (s_consA (s_v 0) s_nilA)))))))
theorem sc_check_marks : FnScope N_check_marks Ps_check_marks (defScope s_check_marks) := ⟨rfl, rfl, rfl, by decide +kernel, rfl, by decide +kernel, by decide +kernel⟩
theorem ok_check_marks (c : Cc w h K mg) : FnF P w K mg base (He.ga K) 3 (He.fAd K ("check_marks", none)) d_check_marks := by
  obtain ⟨fd, F⟩ := c.fd 6 (d := D_check_marks) rfl
  refine fn_gc (fn_d (b := b_check_marks) F sc_check_marks (fun _ _ _ _ _ _ us hl => match us, hl with | [_], _ => rfl) (fun cdv A outer s H E cn => ?_))
  exact (z_one (z_if (s_notT (s_test (s_call cn (ok_is_marks c) (by decide) (g_is_marks c) (s_consA (s_v 0) s_nilA)))) (z_one (z_raise cn (ex_NoMarks c) (g_NoMarks c)))
 z_nil))
theorem sc_Bench___init__ : FnScope N_Bench___init__ Ps_Bench___init__ (defScope s_Bench___init__) := ⟨rfl, rfl, rfl, by decide +kernel, rfl, by decide +kernel, by decide +kernel⟩
theorem ok_Bench___init__ (c : Cc w h K mg) : FnF P w K mg base (He.ga K) 4 (He.fAd K ("Bench", some "__init__")) d_Bench___init__ := by
  obtain ⟨fd, F⟩ := c.fd 7 (d := D_Bench___init__) rfl
  refine fn_gc (fn_d (b := b_Bench___init__) F sc_Bench___init__ (fun _ _ _ _ _ _ us hl => match us, hl with | [_, _], _ => rfl) (fun cdv A outer s H E cn => ?_))
  exact (z_cons (z_expr (s_call cn (ok_check_marks c) (by decide) (g_check_marks c) (s_consA (s_v 1) s_nilA)))
 (z_cons (z_fld _ (fldOk_of (.cons ⟨(cl_Seats c), (na_Seats_marks c)⟩ (.cons ⟨(cl_Bench c), (na_Bench_marks c)⟩ .nil))) (s_v 0) (s_v 1))
 (z_cons (z_fld _ (fldOk_of (.cons ⟨(cl_Bench c), (na_Bench_rows c)⟩ .nil)) (s_v 0) (s_tup s_nilA))
 (z_one (z_fld _ (fldOk_of (.cons ⟨(cl_Bench c), (na_Bench_past c)⟩ .nil)) (s_v 0) (s_lst s_nilA))))))
theorem sc_BadSeats___init__ : FnScope N_BadSeats___init__ Ps_BadSeats___init__ (defScope s_BadSeats___init__) := ⟨rfl, rfl, rfl, by decide +kernel, rfl, by decide +kernel, by decide +kernel⟩
theorem ok_BadSeats___init__ (c : Cc w h K mg) : IniF P w K mg base 1 (He.fAd K ("BadSeats", some "__init__")) (He.ga K "BadSeats") ["part", "at"] := by
  obtain ⟨fd, F⟩ := c.fd 8 (d := D_BadSeats___init__) rfl
  exact ini_two (oe_BadSeats c).ox F sc_BadSeats___init__ rfl (fun _ _ _ _ _ _ us hl => match us, hl with | [_, _, _], _ => rfl) ((xf_BadSeats_part c).2) ((xf_BadSeats_at c).2) (fun cdv A outer s H E => pss_cons (ps_ost (pe_var (i := 0) rfl (.inl rfl)) (pe_var (i := 1) rfl (.inl rfl)) rfl) (pss_one (ps_ost (pe_var (i := 0) rfl (.inl rfl)) (pe_var (i := 2) rfl (.inl rfl)) rfl)))
theorem sc_is_kind : FnScope N_is_kind Ps_is_kind (defScope s_is_kind) := ⟨rfl, rfl, rfl, by decide +kernel, rfl, by decide +kernel, by decide +kernel⟩
theorem ok_is_kind (c : Cc w h K mg) : FnF P w K mg base (He.ga K) 2 (He.fAd K ("is_kind", none)) d_is_kind := by
  obtain ⟨fd, F⟩ := c.fd 9 (d := D_is_kind) rfl
  refine fn_gc (fn_d (b := b_is_kind) F sc_is_kind (fun _ _ _ _ _ _ us hl => match us, hl with | [_, _], _ => rfl) (fun cdv A outer s H E cn => ?_))
  exact (z_one (z_ret (s_and (s_isiB ["Seats", "Bench"] "str" (by decide) (kitB_of (.cons ⟨(in_Seats c), (kb_Seats_str c)⟩ (.cons ⟨(in_Bench c), (kb_Bench_str c)⟩ .nil))) (fr_isinstance c) (fr_str c) (s_v 1)) (s_and (s_callB (c_all cn.calm) (fr_all c) (s_consA (s_lc cn (w_seq (s_v 1)) (own := [("sign", 2)]) (by kernel_rfl) (lcN 2) (fun s H C cl fp cn => (pg_name cn.nd rfl (.inl rfl))) (fun s H C cl fp cn => t_none) (fun s H C cl fp cn => (s_cmp (o_in cn.u65) (s_v 2) (s_v 0)))) s_nilA)) (s_one (s_call cn (ok_is_ascending c) (by decide) (g_is_ascending c) (s_consA (s_v 1) s_nilA)))))))
theorem sc_is_lot : FnScope N_is_lot Ps_is_lot (defScope s_is_lot) := ⟨rfl, rfl, rfl, by decide +kernel, rfl, by decide +kernel, by decide +kernel⟩
theorem ok_is_lot (c : Cc w h K mg) : FnF P w K mg base (He.ga K) 3 (He.fAd K ("is_lot", none)) d_is_lot := by
  obtain ⟨fd, F⟩ := c.fd 10 (d := D_is_lot) rfl
  refine fn_gc (fn_d (b := b_is_lot) F sc_is_lot (fun _ _ _ _ _ _ us hl => match us, hl with | [_, _], _ => rfl) (fun cdv A outer s H E cn => ?_))
  exact (z_cons (z_if (s_orW (s_notT (s_test (s_isiB ["Seats", "Bench"] "tuple" (by decide) (kitB_of (.cons ⟨(in_Seats c), (kb_Seats_tuple c)⟩ (.cons ⟨(in_Bench c), (kb_Bench_tuple c)⟩ .nil))) (fr_isinstance c) (fr_tuple c) (s_v 1)))) (s_or1 (s_cmpT (o_eq cn.u64) (s_callB c_len (fr_len c) (s_consA (s_v 1) s_nilA)) s_int))).pt (z_one (z_ret s_bl))
 z_nil)
 (z_one (z_ret (s_and (s_callB (c_all cn.calm) (fr_all c) (s_consA (s_lc cn (w_seq (s_v 1)) (own := [("kind", 2)]) (by kernel_rfl) (lcN 2) (fun s H C cl fp cn => (pg_name cn.nd rfl (.inl rfl))) (fun s H C cl fp cn => t_none) (fun s H C cl fp cn => (s_call cn (ok_is_kind c) (by decide) (g_is_kind c) (s_consA (s_v 0) (s_consA (s_v 2) s_nilA))))) s_nilA)) (s_one (s_call cn (ok_is_ascending c) (by decide) (g_is_ascending c) (s_consA (s_v 1) s_nilA)))))))
theorem sc_first_no_lot : FnScope N_first_no_lot Ps_first_no_lot (defScope s_first_no_lot) := ⟨rfl, rfl, rfl, by decide +kernel, rfl, by decide +kernel, by decide +kernel⟩
theorem ok_first_no_lot (c : Cc w h K mg) : FnF P w K mg base (He.ga K) 4 (He.fAd K ("first_no_lot", none)) d_first_no_lot := by
  obtain ⟨fd, F⟩ := c.fd 11 (d := D_first_no_lot) rfl
  refine fn_gc (fn_d (b := b_first_no_lot) F sc_first_no_lot (fun _ _ _ _ _ _ us hl => match us, hl with | [_, _], _ => rfl) (fun cdv A outer s H E cn => ?_))
  exact (z_cons (z_for cn (w_enum (fr_enumerate c) (s_v 1)) (g_tup cn.calm (g_cons (g_n 2 cn.nd .non) (g_cons (g_n 3 cn.nd .non) g_nil)))
 (z_one (z_if (s_notT (s_test (s_call cn (ok_is_lot c) (by decide) (g_is_lot c) (s_consA (s_v 0) (s_consA (s_v 3) s_nilA))))) (z_one (z_ret (s_v 2)))
 z_nil)))
 (z_one (z_ret s_non)))
theorem sc_Seats___init__ : FnScope N_Seats___init__ Ps_Seats___init__ (defScope s_Seats___init__) := ⟨rfl, rfl, rfl, by decide +kernel, rfl, by decide +kernel, by decide +kernel⟩
theorem ok_Seats___init__ (c : Cc w h K mg) : FnF P w K mg base (He.ga K) 5 (He.fAd K ("Seats", some "__init__")) d_Seats___init__ := by
  obtain ⟨fd, F⟩ := c.fd 12 (d := D_Seats___init__) rfl
  refine fn_gc (fn_d (b := b_Seats___init__) F sc_Seats___init__ (fun _ _ _ _ _ _ us hl => match us, hl with | [_, _, _], _ => rfl) (fun cdv A outer s H E cn => ?_))
  exact (z_cons (z_if (s_notT (s_test (s_call cn (ok_is_marks c) (by decide) (g_is_marks c) (s_consA (s_v 1) s_nilA)))) (z_one (z_raiseA cn (oe_BadSeats c) (ok_BadSeats___init__ c) (by decide) (g_BadSeats c) (s_consA s_str (s_consA (s_neg s_int) s_nilA))))
 z_nil)
 (z_cons (z_if (s_orW (s_notT (s_test (s_isiB ["Seats", "Bench"] "tuple" (by decide) (kitB_of (.cons ⟨(in_Seats c), (kb_Seats_tuple c)⟩ (.cons ⟨(in_Bench c), (kb_Bench_tuple c)⟩ .nil))) (fr_isinstance c) (fr_tuple c) (s_v 2)))) (s_or1 (s_cmpT o_gt (s_callB c_len (fr_len c) (s_consA (s_v 2) s_nilA)) (s_gint (i_MOST_SEATS c))))).pt (z_one (z_raiseA cn (oe_BadSeats c) (ok_BadSeats___init__ c) (by decide) (g_BadSeats c) (s_consA s_str (s_consA (s_neg s_int) s_nilA))))
 z_nil)
 (z_cons (z_set 3 cn.nd (s_call cn (ok_first_no_lot c) (by decide) (g_first_no_lot c) (s_consA (s_v 1) (s_consA (s_v 2) s_nilA))) .non)
 (z_cons (z_if (s_cmpT o_isnot (s_v 3) s_non) (z_one (z_raiseA cn (oe_BadSeats c) (ok_BadSeats___init__ c) (by decide) (g_BadSeats c) (s_consA s_str (s_consA (s_v 3) s_nilA))))
 z_nil)
 (z_cons (z_fld _ (fldOk_of (.cons ⟨(cl_Seats c), (na_Seats_marks c)⟩ (.cons ⟨(cl_Bench c), (na_Bench_marks c)⟩ .nil))) (s_v 0) (s_v 1))
 (z_one (z_fld _ (fldOk_of (.cons ⟨(cl_Seats c), (na_Seats_lots c)⟩ .nil)) (s_v 0) (s_v 2))))))))
theorem sc__law_deep : FnScope N__law_deep Ps__law_deep (defScope s__law_deep) := ⟨rfl, rfl, rfl, by decide +kernel, rfl, by decide +kernel, by decide +kernel⟩
theorem ok__law_deep (c : Cc w h K mg) : FnF P w K mg base (He.ga K) 2 (He.fAd K ("_law_deep", none)) d__law_deep := by
  obtain ⟨fd, F⟩ := c.fd 13 (d := D__law_deep) rfl
  refine fn_gc (fn_d (b := b__law_deep) F sc__law_deep (fun _ _ _ _ _ _ us hl => match us, hl with | [_], _ => rfl) (fun cdv A outer s H E cn => ?_))
  exact (z_cons (z_set 1 cn.nd (s_ix (s_lst (s_consA s_int (s_consA (s_tup s_nilA) (s_consA s_str (s_consA s_non s_nilA))))) (s_call cn (ok__law_pick c) (by decide) (g__law_pick c) (s_consA (s_v 0) (s_consA s_int s_nilA)))) .non)
 (z_cons (z_for cn (w_rng1 (fr_range c) (s_consA s_int s_nilA) (h1 := len1)) (g_n 2 cn.nd .non)
 (z_one (z_set 1 cn.nd (s_if (s_cmpT (o_eq cn.u64) (s_bin o_mod (s_callT c_int (fr_int c) (s_consA (s_v 2) s_nilA)) s_int) s_int) (s_lst (s_consA (s_v 1) s_nilA)) (s_tup (s_consA (s_v 1) s_nilA))) .non)))
 (z_one (z_ret (s_v 1)))))
theorem sc__law_odd : FnScope N__law_odd Ps__law_odd (defScope s__law_odd) := ⟨rfl, rfl, rfl, by decide +kernel, rfl, by decide +kernel, by decide +kernel⟩
theorem ok__law_odd (c : Cc w h K mg) : FnF P w K mg base (He.ga K) 2 (He.fAd K ("_law_odd", none)) d__law_odd := by
  obtain ⟨fd, F⟩ := c.fd 14 (d := D__law_odd) rfl
  refine fn_gc (fn_d (b := b__law_odd) F sc__law_odd (fun _ _ _ _ _ _ us hl => match us, hl with | [_], _ => rfl) (fun cdv A outer s H E cn => ?_))
  exact (z_cons (z_set 1 cn.nd (s_lst (s_consA s_non (s_consA s_bl (s_consA s_bl (s_consA s_int (s_consA s_int (s_consA (s_neg s_int) (s_consA (s_bin o_pow s_int s_int) (s_consA s_str (s_consA s_str (s_consA s_str (s_consA s_str (s_consA s_str (s_consA s_str (s_consA s_str (s_consA (s_tup s_nilA) (s_consA (s_lst s_nilA) (s_consA s_dic0 (s_consA (s_tup (s_consA s_str s_nilA)) s_nilA))))))))))))))))))) .non)
 (z_cons (z_set 1 cn.nd (s_bin o_add (s_v 1) (s_lst (s_consA (s_tup (s_consA s_str s_nilA)) (s_consA (s_lst (s_consA s_str s_nilA)) (s_consA (s_tup (s_consA s_str (s_consA s_str s_nilA))) (s_consA (s_tup (s_consA s_str (s_consA s_str s_nilA))) (s_consA (s_tup (s_consA s_str (s_consA s_str s_nilA))) (s_consA (s_tup (s_consA (s_tup (s_consA s_str s_nilA)) s_nilA)) (s_consA (s_tup (s_consA (s_tup (s_consA s_str s_nilA)) (s_consA (s_tup s_nilA) s_nilA))) (s_consA (s_tup (s_consA s_int s_nilA)) (s_consA (s_tup (s_consA s_str (s_consA s_int s_nilA))) s_nilA))))))))))) .non)
 (z_cons (z_set 1 cn.nd (s_bin o_add (s_v 1) (s_lst (s_consA (s_tup (s_consA s_bl (s_consA s_str s_nilA))) (s_consA (s_tup (s_consA s_str s_nilA)) (s_consA (s_tup (s_consA (s_tup (s_consA s_str s_nilA)) (s_consA (s_lst (s_consA s_str s_nilA)) s_nilA))) (s_consA s_str (s_consA (s_tup (s_consA s_int (s_consA s_int s_nilA))) (s_consA (s_tup (s_consA s_str (s_consA s_str s_nilA))) (s_consA (s_tup (s_consA s_str (s_consA s_str (s_consA s_str s_nilA)))) s_nilA))))))))) .non)
 (z_one (z_ret (s_ix (s_v 1) (s_call cn (ok__law_pick c) (by decide) (g__law_pick c) (s_consA (s_v 0) (s_consA (s_callB c_len (fr_len c) (s_consA (s_v 1) s_nilA)) s_nilA)))))))))
theorem sc_is_integer : FnScope N_is_integer Ps_is_integer (defScope s_is_integer) := ⟨rfl, rfl, rfl, by decide +kernel, rfl, by decide +kernel, by decide +kernel⟩
theorem ok_is_integer (c : Cc w h K mg) : FnF P w K mg base (He.ga K) 1 (He.fAd K ("is_integer", none)) d_is_integer := by
  obtain ⟨fd, F⟩ := c.fd 15 (d := D_is_integer) rfl
  refine fn_gc (fn_d (b := b_is_integer) F sc_is_integer (fun _ _ _ _ _ _ us hl => match us, hl with | [_], _ => rfl) (fun cdv A outer s H E cn => ?_))
  exact (z_one (z_ret (s_and (s_isiB ["Seats", "Bench"] "int" (by decide) (kitB_of (.cons ⟨(in_Seats c), (kb_Seats_int c)⟩ (.cons ⟨(in_Bench c), (kb_Bench_int c)⟩ .nil))) (fr_isinstance c) (fr_int c) (s_v 0)) (s_one (s_not (s_isiB ["Seats", "Bench"] "bool" (by decide) (kitB_of (.cons ⟨(in_Seats c), (kb_Seats_bool c)⟩ (.cons ⟨(in_Bench c), (kb_Bench_bool c)⟩ .nil))) (fr_isinstance c) (fr_bool c) (s_v 0)))))))
theorem sc_is_within : FnScope N_is_within Ps_is_within (defScope s_is_within) := ⟨rfl, rfl, rfl, by decide +kernel, rfl, by decide +kernel, by decide +kernel⟩
theorem ok_is_within (c : Cc w h K mg) : FnF P w K mg base (He.ga K) 2 (He.fAd K ("is_within", none)) d_is_within := by
  obtain ⟨fd, F⟩ := c.fd 16 (d := D_is_within) rfl
  refine fn_gc (fn_d (b := b_is_within) F sc_is_within (fun _ _ _ _ _ _ us hl => match us, hl with | [_, _, _], _ => rfl) (fun cdv A outer s H E cn => ?_))
  exact (z_one (z_ret (s_and (s_call cn (ok_is_integer c) (by decide) (g_is_integer c) (s_consA (s_v 0) s_nilA)) (s_one (s_chain op_le op_le (s_v 1) (s_v 0) (s_v 2))))))
theorem sc_check_lot : FnScope N_check_lot Ps_check_lot (defScope s_check_lot) := ⟨rfl, rfl, rfl, by decide +kernel, rfl, by decide +kernel, by decide +kernel⟩
theorem ok_check_lot (c : Cc w h K mg) : FnF P w K mg base (He.ga K) 4 (He.fAd K ("check_lot", none)) d_check_lot := by
  obtain ⟨fd, F⟩ := c.fd 17 (d := D_check_lot) rfl
  refine fn_gc (fn_d (b := b_check_lot) F sc_check_lot (fun _ _ _ _ _ _ us hl => match us, hl with | [_, _], _ => rfl) (fun cdv A outer s H E cn => ?_))
  exact (z_one (z_if (s_notT (s_test (s_call cn (ok_is_lot c) (by decide) (g_is_lot c) (s_consA (s_v 0) (s_consA (s_v 1) s_nilA))))) (z_one (z_raise cn (ex_NoLot c) (g_NoLot c)))
 z_nil))
theorem sc_TooMany___init__ : FnScope N_TooMany___init__ Ps_TooMany___init__ (defScope s_TooMany___init__) := ⟨rfl, rfl, rfl, by decide +kernel, rfl, by decide +kernel, by decide +kernel⟩
theorem ok_TooMany___init__ (c : Cc w h K mg) : IniF P w K mg base 1 (He.fAd K ("TooMany", some "__init__")) (He.ga K "TooMany") ["most"] := by
  obtain ⟨fd, F⟩ := c.fd 18 (d := D_TooMany___init__) rfl
  exact ini_one (oe_TooMany c).ox F sc_TooMany___init__ rfl (fun _ _ _ _ _ _ us hl => match us, hl with | [_, _], _ => rfl) ((xf_TooMany_most c).2) (fun cdv A outer s H E => pss_one (ps_ost (pe_var (i := 0) rfl (.inl rfl)) (pe_var (i := 1) rfl (.inl rfl)) rfl))
theorem sc_Bench_go : FnScope N_Bench_go Ps_Bench_go (defScope s_Bench_go) := ⟨rfl, rfl, rfl, by decide +kernel, rfl, by decide +kernel, by decide +kernel⟩
theorem ok_Bench_go (c : Cc w h K mg) : FnF P w K mg base (He.ga K) 1 (He.fAd K ("Bench", some "go")) d_Bench_go := by
  obtain ⟨fd, F⟩ := c.fd 19 (d := D_Bench_go) rfl
  refine fn_gc (fn_d (b := b_Bench_go) F sc_Bench_go (fun _ _ _ _ _ _ us hl => match us, hl with | [_, _], _ => rfl) (fun cdv A outer s H E cn => ?_))
  exact (z_cons (z_expr (s_m m_append ty_list (s_fld _ (fldOk_of (.cons ⟨(cl_Bench c), (na_Bench_past c)⟩ .nil)) (s_v 0)) (s_consA (s_fld _ (fldOk_of (.cons ⟨(cl_Bench c), (na_Bench_rows c)⟩ .nil)) (s_v 0)) s_nilA) PySem.F.plainAttrs_list PySem.F.slot_list_append PySem.F.type_list_append))
 (z_one (z_fld _ (fldOk_of (.cons ⟨(cl_Bench c), (na_Bench_rows c)⟩ .nil)) (s_v 0) (s_v 1))))
theorem sc_Bench_put : FnScope N_Bench_put Ps_Bench_put (defScope s_Bench_put) := ⟨rfl, rfl, rfl, by decide +kernel, rfl, by decide +kernel, by decide +kernel⟩
theorem ok_Bench_put (c : Cc w h K mg) : FnF P w K mg base (He.ga K) 5 (He.fAd K ("Bench", some "put")) d_Bench_put := by
  obtain ⟨fd, F⟩ := c.fd 20 (d := D_Bench_put) rfl
  refine fn_gc (fn_d (b := b_Bench_put) F sc_Bench_put (fun _ _ _ _ _ _ us hl => match us, hl with | [_, _, _], _ => rfl) (fun cdv A outer s H E cn => ?_))
  exact (z_cons (z_if (s_notT (s_test (s_call cn (ok_is_within c) (by decide) (g_is_within c) (s_consA (s_v 1) (s_consA s_int (s_consA (s_callB c_len (fr_len c) (s_consA (s_fld _ (fldOk_of (.cons ⟨(cl_Bench c), (na_Bench_rows c)⟩ .nil)) (s_v 0)) s_nilA)) s_nilA)))))) (z_one (z_raise cn (ex_NoPlace c) (g_NoPlace c)))
 z_nil)
 (z_cons (z_expr (s_call cn (ok_check_lot c) (by decide) (g_check_lot c) (s_consA (s_fld _ (fldOk_of (.cons ⟨(cl_Seats c), (na_Seats_marks c)⟩ (.cons ⟨(cl_Bench c), (na_Bench_marks c)⟩ .nil))) (s_v 0)) (s_consA (s_v 2) s_nilA))))
 (z_cons (z_if (s_cmpT (o_eq cn.u64) (s_callB c_len (fr_len c) (s_consA (s_fld _ (fldOk_of (.cons ⟨(cl_Bench c), (na_Bench_rows c)⟩ .nil)) (s_v 0)) s_nilA)) (s_gint (i_MOST_SEATS c))) (z_one (z_raiseA cn (oe_TooMany c) (ok_TooMany___init__ c) (by decide) (g_TooMany c) (s_consA (s_gint (i_MOST_SEATS c)) s_nilA)))
 z_nil)
 (z_one (z_expr (s_meth cn "Bench" (cl_Bench c) (me_Bench_go c) (ok_Bench_go c) (by decide) (s_v 0) (s_consA (s_bin o_add (s_bin o_add (s_slice (s_fld _ (fldOk_of (.cons ⟨(cl_Bench c), (na_Bench_rows c)⟩ .nil)) (s_v 0)) s_noP (s_part (s_v 1))) (s_tup (s_consA (s_v 2) s_nilA))) (s_slice (s_fld _ (fldOk_of (.cons ⟨(cl_Bench c), (na_Bench_rows c)⟩ .nil)) (s_v 0)) (s_part (s_v 1)) s_noP)) s_nilA)))))))
theorem sc_Bench_strike : FnScope N_Bench_strike Ps_Bench_strike (defScope s_Bench_strike) := ⟨rfl, rfl, rfl, by decide +kernel, rfl, by decide +kernel, by decide +kernel⟩
theorem ok_Bench_strike (c : Cc w h K mg) : FnF P w K mg base (He.ga K) 3 (He.fAd K ("Bench", some "strike")) d_Bench_strike := by
  obtain ⟨fd, F⟩ := c.fd 21 (d := D_Bench_strike) rfl
  refine fn_gc (fn_d (b := b_Bench_strike) F sc_Bench_strike (fun _ _ _ _ _ _ us hl => match us, hl with | [_, _], _ => rfl) (fun cdv A outer s H E cn => ?_))
  exact (z_cons (z_if (s_notT (s_test (s_call cn (ok_is_within c) (by decide) (g_is_within c) (s_consA (s_v 1) (s_consA s_int (s_consA (s_bin o_sub (s_callB c_len (fr_len c) (s_consA (s_fld _ (fldOk_of (.cons ⟨(cl_Bench c), (na_Bench_rows c)⟩ .nil)) (s_v 0)) s_nilA)) s_int) s_nilA)))))) (z_one (z_raise cn (ex_NoSeat c) (g_NoSeat c)))
 z_nil)
 (z_one (z_expr (s_meth cn "Bench" (cl_Bench c) (me_Bench_go c) (ok_Bench_go c) (by decide) (s_v 0) (s_consA (s_bin o_add (s_slice (s_fld _ (fldOk_of (.cons ⟨(cl_Bench c), (na_Bench_rows c)⟩ .nil)) (s_v 0)) s_noP (s_part (s_v 1))) (s_slice (s_fld _ (fldOk_of (.cons ⟨(cl_Bench c), (na_Bench_rows c)⟩ .nil)) (s_v 0)) (s_part (s_bin o_add (s_v 1) s_int)) s_noP)) s_nilA)))))
theorem sc_swapped : FnScope N_swapped Ps_swapped (defScope s_swapped) := ⟨rfl, rfl, rfl, by decide +kernel, rfl, by decide +kernel, by decide +kernel⟩
theorem ok_swapped (c : Cc w h K mg) : FnF P w K mg base (He.ga K) 1 (He.fAd K ("swapped", none)) d_swapped := by
  obtain ⟨fd, F⟩ := c.fd 22 (d := D_swapped) rfl
  refine fn_gc (fn_d (b := b_swapped) F sc_swapped (fun _ _ _ _ _ _ us hl => match us, hl with | [_, _], _ => rfl) (fun cdv A outer s H E cn => ?_))
  exact (z_one (z_ret (s_bin o_add (s_bin o_add (s_slice (s_v 0) s_noP (s_part (s_v 1))) (s_tup (s_consA (s_ix (s_v 0) (s_bin o_add (s_v 1) s_int)) (s_consA (s_ix (s_v 0) (s_v 1)) s_nilA)))) (s_slice (s_v 0) (s_part (s_bin o_add (s_v 1) s_int)) s_noP))))
theorem sc_Bench_shift : FnScope N_Bench_shift Ps_Bench_shift (defScope s_Bench_shift) := ⟨rfl, rfl, rfl, by decide +kernel, rfl, by decide +kernel, by decide +kernel⟩
theorem ok_Bench_shift (c : Cc w h K mg) : FnF P w K mg base (He.ga K) 3 (He.fAd K ("Bench", some "shift")) d_Bench_shift := by
  obtain ⟨fd, F⟩ := c.fd 23 (d := D_Bench_shift) rfl
  refine fn_gc (fn_d (b := b_Bench_shift) F sc_Bench_shift (fun _ _ _ _ _ _ us hl => match us, hl with | [_, _], _ => rfl) (fun cdv A outer s H E cn => ?_))
  exact (z_cons (z_if (s_notT (s_test (s_call cn (ok_is_within c) (by decide) (g_is_within c) (s_consA (s_v 1) (s_consA s_int (s_consA (s_bin o_sub (s_callB c_len (fr_len c) (s_consA (s_fld _ (fldOk_of (.cons ⟨(cl_Bench c), (na_Bench_rows c)⟩ .nil)) (s_v 0)) s_nilA)) s_int) s_nilA)))))) (z_one (z_raise cn (ex_NoSeat c) (g_NoSeat c)))
 z_nil)
 (z_one (z_expr (s_meth cn "Bench" (cl_Bench c) (me_Bench_go c) (ok_Bench_go c) (by decide) (s_v 0) (s_consA (s_call cn (ok_swapped c) (by decide) (g_swapped c) (s_consA (s_fld _ (fldOk_of (.cons ⟨(cl_Bench c), (na_Bench_rows c)⟩ .nil)) (s_v 0)) (s_consA (s_v 1) s_nilA))) s_nilA)))))
theorem sc_Bench_back : FnScope N_Bench_back Ps_Bench_back (defScope s_Bench_back) := ⟨rfl, rfl, rfl, by decide +kernel, rfl, by decide +kernel, by decide +kernel⟩
theorem ok_Bench_back (c : Cc w h K mg) : FnF P w K mg base (He.ga K) 1 (He.fAd K ("Bench", some "back")) d_Bench_back := by
  obtain ⟨fd, F⟩ := c.fd 24 (d := D_Bench_back) rfl
  refine fn_gc (fn_d (b := b_Bench_back) F sc_Bench_back (fun _ _ _ _ _ _ us hl => match us, hl with | [_], _ => rfl) (fun cdv A outer s H E cn => ?_))
  exact (z_cons (z_if (s_cmpT (o_eq cn.u64) (s_callB c_len (fr_len c) (s_consA (s_fld _ (fldOk_of (.cons ⟨(cl_Bench c), (na_Bench_past c)⟩ .nil)) (s_v 0)) s_nilA)) s_int) (z_one (z_raise cn (ex_NothingDone c) (g_NothingDone c)))
 z_nil)
 (z_one (z_fld _ (fldOk_of (.cons ⟨(cl_Bench c), (na_Bench_rows c)⟩ .nil)) (s_v 0) (s_m0 m_pop ty_list (s_fld _ (fldOk_of (.cons ⟨(cl_Bench c), (na_Bench_past c)⟩ .nil)) (s_v 0)) PySem.F.plainAttrs_list PySem.F.slot_list_pop PySem.F.type_list_pop))))
theorem sc__law_asked : FnScope N__law_asked Ps__law_asked (defScope s__law_asked) := ⟨rfl, rfl, rfl, by decide +kernel, rfl, by decide +kernel, by decide +kernel⟩
theorem ok__law_asked (c : Cc w h K mg) : FnF P w K mg base (He.ga K) 6 (He.fAd K ("_law_asked", none)) d__law_asked := by
  obtain ⟨fd, F⟩ := c.fd 25 (d := D__law_asked) rfl
  refine fn_gc (fn_d (b := b__law_asked) F sc__law_asked (fun _ _ _ _ _ _ us hl => match us, hl with | [_, _, _, _], _ => rfl) (fun cdv A outer s H E cn => ?_))
  exact (z_cons (z_set 4 cn.nd s_str .non)
 (z_cons (z_try cn (fun W pn xe cn => (z_cons (z_if (s_cmpT (o_eq cn.u64) (s_v 1) s_int) (z_one (z_expr (s_meth cn "Bench" (cl_Bench c) (me_Bench_put c) (ok_Bench_put c) (by decide) (s_v 0) (s_consA (s_v 2) (s_consA (s_v 3) s_nilA)))))
 (z_one (z_if (s_cmpT (o_eq cn.u64) (s_v 1) s_int) (z_one (z_expr (s_meth cn "Bench" (cl_Bench c) (me_Bench_strike c) (ok_Bench_strike c) (by decide) (s_v 0) (s_consA (s_v 2) s_nilA))))
 (z_one (z_if (s_cmpT (o_eq cn.u64) (s_v 1) s_int) (z_one (z_expr (s_meth cn "Bench" (cl_Bench c) (me_Bench_shift c) (ok_Bench_shift c) (by decide) (s_v 0) (s_consA (s_v 2) s_nilA))))
 (z_one (z_if (s_cmpT (o_eq cn.u64) (s_v 1) s_int) (z_one (z_expr (s_meth0 cn "Bench" (cl_Bench c) (me_Bench_back c) (ok_Bench_back c) (by decide) (s_v 0))))
 (z_one (z_expr (s_make cn (mk_Bench c) (ok_Bench___init__ c) (by decide) (g_Bench c) (s_consA (s_v 2) s_nilA)))))))))))
 (z_one (z_set 4 cn.nd s_str .non))))
 (CL.nm 5 ⟨rfl, by decide, .inl (g_TooMany c)⟩ (exmF_of (.cons (em_NoMarks_TooMany c) (.cons (em_NoLot_TooMany c) (.cons (em_NoSeat_TooMany c) (.cons (em_NoPlace_TooMany c) (.cons (em_NothingDone_TooMany c) (.cons (em_BadSeats_TooMany c) (.cons (em_TooMany_TooMany c) .nil)))))))) (fun q oe pn hi hz hf => (z_one (z_set 4 cn.nd (s_ix (s_lst (s_consA s_str (s_consA s_str s_nilA))) (s_callT c_int (fr_int c) (s_consA (s_cmp (o_eq cn.u64) (s_ef 5 hi hz hf (xfF_of (.cons (xf_TooMany_most c) .nil))) s_int) s_nilA))) (.some (by rw [hi]; decide))))) (CL.nm 5 ⟨rfl, by decide, .inl (g_SeatError c)⟩ (exmF_of (.cons (em_NoMarks_SeatError c) (.cons (em_NoLot_SeatError c) (.cons (em_NoSeat_SeatError c) (.cons (em_NoPlace_SeatError c) (.cons (em_NothingDone_SeatError c) (.cons (em_BadSeats_SeatError c) (.cons (em_TooMany_SeatError c) .nil)))))))) (fun q oe pn hi hz hf => (z_cons (z_set 6 cn.nd (s_lst (s_consA (s_isE 5 hi hz hf (isEF_of (.cons ⟨(ec_NoMarks c), (kk_NoMarks_NoPlace c)⟩ (.cons ⟨(ec_NoLot c), (kk_NoLot_NoPlace c)⟩ (.cons ⟨(ec_NoSeat c), (kk_NoSeat_NoPlace c)⟩ (.cons ⟨(ec_NoPlace c), (kk_NoPlace_NoPlace c)⟩ (.cons ⟨(ec_NothingDone c), (kk_NothingDone_NoPlace c)⟩ .nil)))))) (fr_isinstance c) (g_NoPlace c)) (s_consA (s_isE 5 hi hz hf (isEF_of (.cons ⟨(ec_NoMarks c), (kk_NoMarks_NoLot c)⟩ (.cons ⟨(ec_NoLot c), (kk_NoLot_NoLot c)⟩ (.cons ⟨(ec_NoSeat c), (kk_NoSeat_NoLot c)⟩ (.cons ⟨(ec_NoPlace c), (kk_NoPlace_NoLot c)⟩ (.cons ⟨(ec_NothingDone c), (kk_NothingDone_NoLot c)⟩ .nil)))))) (fr_isinstance c) (g_NoLot c)) (s_consA (s_isE 5 hi hz hf (isEF_of (.cons ⟨(ec_NoMarks c), (kk_NoMarks_NoSeat c)⟩ (.cons ⟨(ec_NoLot c), (kk_NoLot_NoSeat c)⟩ (.cons ⟨(ec_NoSeat c), (kk_NoSeat_NoSeat c)⟩ (.cons ⟨(ec_NoPlace c), (kk_NoPlace_NoSeat c)⟩ (.cons ⟨(ec_NothingDone c), (kk_NothingDone_NoSeat c)⟩ .nil)))))) (fr_isinstance c) (g_NoSeat c)) (s_consA (s_isE 5 hi hz hf (isEF_of (.cons ⟨(ec_NoMarks c), (kk_NoMarks_NothingDone c)⟩ (.cons ⟨(ec_NoLot c), (kk_NoLot_NothingDone c)⟩ (.cons ⟨(ec_NoSeat c), (kk_NoSeat_NothingDone c)⟩ (.cons ⟨(ec_NoPlace c), (kk_NoPlace_NothingDone c)⟩ (.cons ⟨(ec_NothingDone c), (kk_NothingDone_NothingDone c)⟩ .nil)))))) (fr_isinstance c) (g_NothingDone c)) s_nilA))))) (.some (by rw [hi]; decide)))
 (z_cons (z_expr (s_m m_append ty_list (s_v 6) (s_consA (s_isE 5 hi hz hf (isEF_of (.cons ⟨(ec_NoMarks c), (kk_NoMarks_NoMarks c)⟩ (.cons ⟨(ec_NoLot c), (kk_NoLot_NoMarks c)⟩ (.cons ⟨(ec_NoSeat c), (kk_NoSeat_NoMarks c)⟩ (.cons ⟨(ec_NoPlace c), (kk_NoPlace_NoMarks c)⟩ (.cons ⟨(ec_NothingDone c), (kk_NothingDone_NoMarks c)⟩ .nil)))))) (fr_isinstance c) (g_NoMarks c)) s_nilA) PySem.F.plainAttrs_list PySem.F.slot_list_append PySem.F.type_list_append))
 (z_cons (z_set 4 cn.nd s_str (.some (by rw [hi]; decide)))
 (z_one (z_if (s_cmpT (o_eq cn.u64) (s_m m_count ty_list (s_v 6) (s_consA s_bl s_nilA) PySem.F.plainAttrs_list PySem.F.slot_list_count PySem.F.type_list_count) s_int) (z_one (z_set 4 cn.nd (s_ix (s_lst (s_consA s_str (s_consA s_str (s_consA s_str (s_consA s_str (s_consA s_str s_nilA)))))) (s_m m_index ty_list (s_v 6) (s_consA s_bl s_nilA) PySem.F.plainAttrs_list PySem.F.slot_list_index PySem.F.type_list_index)) (.some (by rw [hi]; decide))))
 z_nil)))))) .nil)))
 (z_one (z_ret (s_v 4)))))
theorem sc__law_is_up : FnScope N__law_is_up Ps__law_is_up (defScope s__law_is_up) := ⟨rfl, rfl, rfl, by decide +kernel, rfl, by decide +kernel, by decide +kernel⟩
theorem ok__law_is_up (c : Cc w h K mg) : FnF P w K mg base (He.ga K) 1 (He.fAd K ("_law_is_up", none)) d__law_is_up := by
  obtain ⟨fd, F⟩ := c.fd 26 (d := D__law_is_up) rfl
  refine fn_gc (fn_d (b := b__law_is_up) F sc__law_is_up (fun _ _ _ _ _ _ us hl => match us, hl with | [_], _ => rfl) (fun cdv A outer s H E cn => ?_))
  exact (z_one (z_ret (s_cmp (o_eq cn.u64) (s_callB c_len (fr_len c) (s_consA (s_lc cn (w_rng2 (fr_range c) (s_consA s_int (s_consA (s_callB c_len (fr_len c) (s_consA (s_v 0) s_nilA)) s_nilA)) (h1 := len2)) (own := [("_law_at", 1)]) (by kernel_rfl) (lcN 1) (fun s H C cl fp cn => (pg_name cn.nd rfl (.inl rfl))) (fun s H C cl fp cn => (t_one (s_notT (s_cmpT o_lt (s_ix (s_v 0) (s_bin o_sub (s_v 1) s_int)) (s_ix (s_v 0) (s_v 1)))))) (fun s H C cl fp cn => (s_v 1))) s_nilA)) s_int)))
theorem sc__law_is_marks : FnScope N__law_is_marks Ps__law_is_marks (defScope s__law_is_marks) := ⟨rfl, rfl, rfl, by decide +kernel, rfl, by decide +kernel, by decide +kernel⟩
theorem ok__law_is_marks (c : Cc w h K mg) : FnF P w K mg base (He.ga K) 2 (He.fAd K ("_law_is_marks", none)) d__law_is_marks := by
  obtain ⟨fd, F⟩ := c.fd 27 (d := D__law_is_marks) rfl
  refine fn_gc (fn_d (b := b__law_is_marks) F sc__law_is_marks (fun _ _ _ _ _ _ us hl => match us, hl with | [_], _ => rfl) (fun cdv A outer s H E cn => ?_))
  exact (z_cons (z_if (s_orW (s_notT (s_test (s_isiB ["Seats", "Bench"] "str" (by decide) (kitB_of (.cons ⟨(in_Seats c), (kb_Seats_str c)⟩ (.cons ⟨(in_Bench c), (kb_Bench_str c)⟩ .nil))) (fr_isinstance c) (fr_str c) (s_v 0)))) (s_orW (s_cmpT o_gt (s_callB c_len (fr_len c) (s_consA (s_v 0) s_nilA)) s_int) (s_or1 (s_notT (s_test (s_call cn (ok__law_is_up c) (by decide) (g__law_is_up c) (s_consA (s_v 0) s_nilA))))))).pt (z_one (z_ret s_bl))
 z_nil)
 (z_one (z_ret (s_cmp (o_eq cn.u64) (s_callB c_len (fr_len c) (s_consA (s_lc cn (w_seq (s_v 0)) (own := [("_law_sign", 1)]) (by kernel_rfl) (lcN 1) (fun s H C cl fp cn => (pg_name cn.nd rfl (.inl rfl))) (fun s H C cl fp cn => (t_one (s_orW (s_cmpT o_lt (s_v 1) s_str) (s_or1 (s_cmpT o_gt (s_v 1) s_str))).pt)) (fun s H C cl fp cn => (s_v 1))) s_nilA)) s_int))))
theorem sc_Bench_made : FnScope N_Bench_made Ps_Bench_made (defScope s_Bench_made) := ⟨rfl, rfl, rfl, by decide +kernel, rfl, by decide +kernel, by decide +kernel⟩
theorem ok_Bench_made (c : Cc w h K mg) : FnF P w K mg base (He.ga K) 7 (He.fAd K ("Bench", some "made")) d_Bench_made := by
  obtain ⟨fd, F⟩ := c.fd 28 (d := D_Bench_made) rfl
  refine fn_gc (fn_d (b := b_Bench_made) F sc_Bench_made (fun _ _ _ _ _ _ us hl => match us, hl with | [_], _ => rfl) (fun cdv A outer s H E cn => ?_))
  exact (z_one (z_ret (s_make cn (mk_Seats c) (ok_Seats___init__ c) (by decide) (g_Seats c) (s_consA (s_fld _ (fldOk_of (.cons ⟨(cl_Seats c), (na_Seats_marks c)⟩ (.cons ⟨(cl_Bench c), (na_Bench_marks c)⟩ .nil))) (s_v 0)) (s_consA (s_fld _ (fldOk_of (.cons ⟨(cl_Bench c), (na_Bench_rows c)⟩ .nil)) (s_v 0)) s_nilA)))))
theorem sc_Bench_deeds : FnScope N_Bench_deeds Ps_Bench_deeds (defScope s_Bench_deeds) := ⟨rfl, rfl, rfl, by decide +kernel, rfl, by decide +kernel, by decide +kernel⟩
theorem ok_Bench_deeds (c : Cc w h K mg) : FnF P w K mg base (He.ga K) 1 (He.fAd K ("Bench", some "deeds")) d_Bench_deeds := by
  obtain ⟨fd, F⟩ := c.fd 29 (d := D_Bench_deeds) rfl
  refine fn_gc (fn_d (b := b_Bench_deeds) F sc_Bench_deeds (fun _ _ _ _ _ _ us hl => match us, hl with | [_], _ => rfl) (fun cdv A outer s H E cn => ?_))
  exact (z_one (z_ret (s_callB c_len (fr_len c) (s_consA (s_fld _ (fldOk_of (.cons ⟨(cl_Bench c), (na_Bench_past c)⟩ .nil)) (s_v 0)) s_nilA))))
theorem sc__law_stands : FnScope N__law_stands Ps__law_stands (defScope s__law_stands) := ⟨rfl, rfl, rfl, by decide +kernel, rfl, by decide +kernel, by decide +kernel⟩
theorem ok__law_stands (c : Cc w h K mg) : FnF P w K mg base (He.ga K) 8 (He.fAd K ("_law_stands", none)) d__law_stands := by
  obtain ⟨fd, F⟩ := c.fd 30 (d := D__law_stands) rfl
  refine fn_gc (fn_d (b := b__law_stands) F sc__law_stands (fun _ _ _ _ _ _ us hl => match us, hl with | [_, _, _, _], _ => rfl) (fun cdv A outer s H E cn => ?_))
  exact (z_cons (z_set 4 cn.nd (s_meth0 cn "Bench" (cl_Bench c) (me_Bench_made c) (ok_Bench_made c) (by decide) (s_v 0)) .non)
 (z_one (z_ret (s_and (s_isiC ["Seats", "Bench"] (kitC_of (.cons (kt_NoneType_Seats c) (.cons (kt_bool_Seats c) (.cons (kt_int_Seats c) (.cons (kt_str_Seats c) (.cons (kt_tuple_Seats c) (.cons (kt_list_Seats c) (.cons (kt_dict_Seats c) .nil))))))) (.cons ⟨(in_Seats c), (kk_Seats_Seats c)⟩ (.cons ⟨(in_Bench c), (kk_Bench_Seats c)⟩ .nil))) (fr_isinstance c) (g_Seats c) (s_v 4)) (s_and (s_cmp (o_eq cn.u64) (s_fld _ (fldOk_of (.cons ⟨(cl_Seats c), (na_Seats_marks c)⟩ (.cons ⟨(cl_Bench c), (na_Bench_marks c)⟩ .nil))) (s_v 4)) (s_v 1)) (s_and (s_cmp (o_eq cn.u64) (s_fld _ (fldOk_of (.cons ⟨(cl_Seats c), (na_Seats_lots c)⟩ .nil)) (s_v 4)) (s_v 2)) (s_one (s_cmp (o_eq cn.u64) (s_meth0 cn "Bench" (cl_Bench c) (me_Bench_deeds c) (ok_Bench_deeds c) (by decide) (s_v 0)) (s_v 3)))))))))
theorem sc__law_lot : FnScope N__law_lot Ps__law_lot (defScope s__law_lot) := ⟨rfl, rfl, rfl, by decide +kernel, rfl, by decide +kernel, by decide +kernel⟩
theorem ok__law_lot (c : Cc w h K mg) : FnF P w K mg base (He.ga K) 2 (He.fAd K ("_law_lot", none)) d__law_lot := by
  obtain ⟨fd, F⟩ := c.fd 31 (d := D__law_lot) rfl
  refine fn_gc (fn_d (b := b__law_lot) F sc__law_lot (fun _ _ _ _ _ _ us hl => match us, hl with | [_, _], _ => rfl) (fun cdv A outer s H E cn => ?_))
  exact (z_cons (z_if (s_andW (s_cmpT o_gt (s_callB c_len (fr_len c) (s_consA (s_v 1) s_nilA)) s_int) (s_and1 (s_cmpT (o_eq cn.u64) (s_call cn (ok__law_pick c) (by decide) (g__law_pick c) (s_consA (s_v 0) (s_consA s_int s_nilA))) s_int))).pt (z_cons (z_set 3 cn.nd (s_lc cn (w_rng1 (fr_range c) (s_consA (s_bin o_add s_int (s_call cn (ok__law_pick c) (by decide) (g__law_pick c) (s_consA (s_v 0) (s_consA s_int s_nilA)))) s_nilA) (h1 := len1)) (own := [("_law_k", 5)]) (by kernel_rfl) (lcN 5) (fun s H C cl fp cn => (pg_name cn.nd rfl (.inl rfl))) (fun s H C cl fp cn => t_none) (fun s H C cl fp cn => (s_ix (s_v 1) (s_call cn (ok__law_pick c) (by decide) (g__law_pick c) (s_consA (s_v 0) (s_consA (s_callB c_len (fr_len c) (s_consA (s_v 1) s_nilA)) s_nilA)))))) .non)
 (z_one (z_ret (s_callT c_tuple (fr_tuple c) (s_consA (s_callB c_sorted (fr_sorted c) (s_consA (s_lc cn (w_seq (s_v 1)) (own := [("_law_kind", 4)]) (by kernel_rfl) (lcN 4) (fun s H C cl fp cn => (pg_name cn.nd rfl (.inl rfl))) (fun s H C cl fp cn => (t_one (s_cmpT (o_in cn.u65) (s_v 4) (s_v 3)))) (fun s H C cl fp cn => (s_v 4))) s_nilA)) s_nilA)))))
 z_nil)
 (z_cons (z_setLc 2 cn (w_seq (s_v 1)) (own := [("_law_kind", 4)]) (by kernel_rfl) (lcN 4) (fun s H C cl fp cn => (pg_name cn.nd rfl (.inl rfl))) (fun s H C cl fp cn => (t_one (s_cmpT (o_eq cn.u64) (s_call cn (ok__law_pick c) (by decide) (g__law_pick c) (s_consA (s_v 0) (s_consA s_int s_nilA))) s_int))) (fun s H C cl fp cn => (s_v 4)))
 (z_cons (z_if (s_cmpT (o_eq cn.u64) (s_callB c_len (fr_len c) (s_consA (s_v 2) s_nilA)) s_int) (z_one (z_set 2 cn.nd (s_lst (s_consA (s_ix (s_v 1) (s_call cn (ok__law_pick c) (by decide) (g__law_pick c) (s_consA (s_v 0) (s_consA (s_callB c_len (fr_len c) (s_consA (s_v 1) s_nilA)) s_nilA)))) s_nilA)) .non))
 z_nil)
 (z_one (z_ret (s_callT c_tuple (fr_tuple c) (s_consA (s_v 2) s_nilA)))))))
theorem sc__law_is_int : FnScope N__law_is_int Ps__law_is_int (defScope s__law_is_int) := ⟨rfl, rfl, rfl, by decide +kernel, rfl, by decide +kernel, by decide +kernel⟩
theorem ok__law_is_int (c : Cc w h K mg) : FnF P w K mg base (He.ga K) 1 (He.fAd K ("_law_is_int", none)) d__law_is_int := by
  obtain ⟨fd, F⟩ := c.fd 32 (d := D__law_is_int) rfl
  refine fn_gc (fn_d (b := b__law_is_int) F sc__law_is_int (fun _ _ _ _ _ _ us hl => match us, hl with | [_, _, _], _ => rfl) (fun cdv A outer s H E cn => ?_))
  exact (z_one (z_ret (s_and (s_isiB ["Seats", "Bench"] "int" (by decide) (kitB_of (.cons ⟨(in_Seats c), (kb_Seats_int c)⟩ (.cons ⟨(in_Bench c), (kb_Bench_int c)⟩ .nil))) (fr_isinstance c) (fr_int c) (s_v 0)) (s_and (s_not (s_isiB ["Seats", "Bench"] "bool" (by decide) (kitB_of (.cons ⟨(in_Seats c), (kb_Seats_bool c)⟩ (.cons ⟨(in_Bench c), (kb_Bench_bool c)⟩ .nil))) (fr_isinstance c) (fr_bool c) (s_v 0))) (s_and (s_cmp o_le (s_v 1) (s_v 0)) (s_one (s_cmp o_le (s_v 0) (s_v 2))))))))
theorem sc__law_is_kind : FnScope N__law_is_kind Ps__law_is_kind (defScope s__law_is_kind) := ⟨rfl, rfl, rfl, by decide +kernel, rfl, by decide +kernel, by decide +kernel⟩
theorem ok__law_is_kind (c : Cc w h K mg) : FnF P w K mg base (He.ga K) 2 (He.fAd K ("_law_is_kind", none)) d__law_is_kind := by
  obtain ⟨fd, F⟩ := c.fd 33 (d := D__law_is_kind) rfl
  refine fn_gc (fn_d (b := b__law_is_kind) F sc__law_is_kind (fun _ _ _ _ _ _ us hl => match us, hl with | [_, _], _ => rfl) (fun cdv A outer s H E cn => ?_))
  exact (z_one (z_ret (s_and (s_isiB ["Seats", "Bench"] "str" (by decide) (kitB_of (.cons ⟨(in_Seats c), (kb_Seats_str c)⟩ (.cons ⟨(in_Bench c), (kb_Bench_str c)⟩ .nil))) (fr_isinstance c) (fr_str c) (s_v 1)) (s_and (s_cmp (o_eq cn.u64) (s_callB c_len (fr_len c) (s_consA (s_lc cn (w_seq (s_v 1)) (own := [("_law_sign", 2)]) (by kernel_rfl) (lcN 2) (fun s H C cl fp cn => (pg_name cn.nd rfl (.inl rfl))) (fun s H C cl fp cn => (t_one (s_cmpT (o_notin cn.u65) (s_v 2) (s_v 0)))) (fun s H C cl fp cn => (s_v 2))) s_nilA)) s_int) (s_one (s_call cn (ok__law_is_up c) (by decide) (g__law_is_up c) (s_consA (s_v 1) s_nilA)))))))
theorem sc__law_is_lot : FnScope N__law_is_lot Ps__law_is_lot (defScope s__law_is_lot) := ⟨rfl, rfl, rfl, by decide +kernel, rfl, by decide +kernel, by decide +kernel⟩
theorem ok__law_is_lot (c : Cc w h K mg) : FnF P w K mg base (He.ga K) 3 (He.fAd K ("_law_is_lot", none)) d__law_is_lot := by
  obtain ⟨fd, F⟩ := c.fd 34 (d := D__law_is_lot) rfl
  refine fn_gc (fn_d (b := b__law_is_lot) F sc__law_is_lot (fun _ _ _ _ _ _ us hl => match us, hl with | [_, _], _ => rfl) (fun cdv A outer s H E cn => ?_))
  exact (z_cons (z_if (s_orW (s_notT (s_test (s_isiB ["Seats", "Bench"] "tuple" (by decide) (kitB_of (.cons ⟨(in_Seats c), (kb_Seats_tuple c)⟩ (.cons ⟨(in_Bench c), (kb_Bench_tuple c)⟩ .nil))) (fr_isinstance c) (fr_tuple c) (s_v 1)))) (s_or1 (s_cmpT (o_eq cn.u64) (s_callB c_len (fr_len c) (s_consA (s_v 1) s_nilA)) s_int))).pt (z_one (z_ret s_bl))
 z_nil)
 (z_one (z_ret (s_and (s_cmp (o_eq cn.u64) (s_callB c_len (fr_len c) (s_consA (s_lc cn (w_seq (s_v 1)) (own := [("_law_kind", 2)]) (by kernel_rfl) (lcN 2) (fun s H C cl fp cn => (pg_name cn.nd rfl (.inl rfl))) (fun s H C cl fp cn => (t_one (s_notT (s_test (s_call cn (ok__law_is_kind c) (by decide) (g__law_is_kind c) (s_consA (s_v 0) (s_consA (s_v 2) s_nilA))))))) (fun s H C cl fp cn => (s_v 2))) s_nilA)) s_int) (s_one (s_call cn (ok__law_is_up c) (by decide) (g__law_is_up c) (s_consA (s_v 1) s_nilA)))))))
theorem sc__law_due : FnScope N__law_due Ps__law_due (defScope s__law_due) := ⟨rfl, rfl, rfl, by decide +kernel, rfl, by decide +kernel, by decide +kernel⟩
theorem ok__law_due (c : Cc w h K mg) : FnF P w K mg base (He.ga K) 4 (He.fAd K ("_law_due", none)) d__law_due := by
  obtain ⟨fd, F⟩ := c.fd 35 (d := D__law_due) rfl
  refine fn_gc (fn_d (b := b__law_due) F sc__law_due (fun _ _ _ _ _ _ us hl => match us, hl with | [_, _, _, _, _], _ => rfl) (fun cdv A outer s H E cn => ?_))
  exact (z_cons (z_if (s_cmpT (o_eq cn.u64) (s_v 2) s_int) (z_cons (z_if (s_notT (s_test (s_call cn (ok__law_is_int c) (by decide) (g__law_is_int c) (s_consA (s_v 3) (s_consA s_int (s_consA (s_callB c_len (fr_len c) (s_consA (s_v 1) s_nilA)) s_nilA)))))) (z_one (z_ret s_str))
 z_nil)
 (z_cons (z_if (s_notT (s_test (s_call cn (ok__law_is_lot c) (by decide) (g__law_is_lot c) (s_consA (s_v 0) (s_consA (s_v 4) s_nilA))))) (z_one (z_ret s_str))
 z_nil)
 (z_one (z_ret (s_ix (s_lst (s_consA s_str (s_consA s_str s_nilA))) (s_callT c_int (fr_int c) (s_consA (s_cmp (o_eq cn.u64) (s_callB c_len (fr_len c) (s_consA (s_v 1) s_nilA)) s_int) s_nilA)))))))
 z_nil)
 (z_cons (z_if (s_notT (s_test (s_call cn (ok__law_is_int c) (by decide) (g__law_is_int c) (s_consA (s_v 3) (s_consA s_int (s_consA (s_bin o_sub (s_callB c_len (fr_len c) (s_consA (s_v 1) s_nilA)) (s_v 2)) s_nilA)))))) (z_one (z_ret s_str))
 z_nil)
 (z_one (z_ret s_str))))
theorem sc_law : FnScope N_law Ps_law (defScope s_law) := ⟨rfl, rfl, rfl, by decide +kernel, rfl, by decide +kernel, by decide +kernel⟩
theorem ok_law (c : Cc w h K mg) : FnF P w K mg base (He.ga K) 9 (He.fAd K ("law", none)) d_law := by
  obtain ⟨fd, F⟩ := c.fd 36 (d := D_law) rfl
  refine fn_gc (fn_d (b := b_law) F sc_law (fun _ _ _ _ _ _ us hl => match us, hl with | [_], _ => rfl) (fun cdv A outer s H E cn => ?_))
  exact (z_cons (z_set 1 cn.nd (s_call cn (ok__law_tape c) (by decide) (g__law_tape c) (s_consA (s_v 0) s_nilA)) .non)
 (z_cons (z_set 2 cn.nd (s_call cn (ok__law_marks c) (by decide) (g__law_marks c) (s_consA (s_v 1) s_nilA)) .non)
 (z_cons (z_set 3 cn.nd (s_call cn (ok__law_kinds c) (by decide) (g__law_kinds c) (s_consA (s_v 2) s_nilA)) .non)
 (z_cons (z_set 4 cn.nd (s_make cn (mk_Bench c) (ok_Bench___init__ c) (by decide) (g_Bench c) (s_consA (s_v 2) s_nilA)) .non)
 (z_cons (z_set 5 cn.nd (s_ix (s_lst (s_consA (s_call cn (ok__law_odd c) (by decide) (g__law_odd c) (s_consA (s_v 1) s_nilA)) (s_consA (s_call cn (ok__law_odd c) (by decide) (g__law_odd c) (s_consA (s_v 1) s_nilA)) (s_consA (s_call cn (ok__law_deep c) (by decide) (g__law_deep c) (s_consA (s_v 1) s_nilA)) (s_consA (s_v 4) (s_consA (s_make cn (mk_Seats c) (ok_Seats___init__ c) (by decide) (g_Seats c) (s_consA (s_v 2) (s_consA (s_tup s_nilA) s_nilA))) s_nilA)))))) (s_call cn (ok__law_pick c) (by decide) (g__law_pick c) (s_consA (s_v 1) (s_consA s_int s_nilA)))) .non)
 (z_cons (z_if (s_cmpT (o_ne cn.u64) (s_call cn (ok__law_asked c) (by decide) (g__law_asked c) (s_consA (s_v 4) (s_consA s_int (s_consA (s_v 5) (s_consA s_non s_nilA))))) (s_ix (s_lst (s_consA s_str (s_consA s_str s_nilA))) (s_callT c_int (fr_int c) (s_consA (s_call cn (ok__law_is_marks c) (by decide) (g__law_is_marks c) (s_consA (s_v 5) s_nilA)) s_nilA)))) (z_one (z_ret s_bl))
 z_nil)
 (z_cons (z_if (s_orW (s_cmpT (o_ne cn.u64) (s_call cn (ok__law_asked c) (by decide) (g__law_asked c) (s_consA (s_v 4) (s_consA s_int (s_consA s_non (s_consA s_non s_nilA))))) s_str) (s_or1 (s_notT (s_test (s_call cn (ok__law_stands c) (by decide) (g__law_stands c) (s_consA (s_v 4) (s_consA (s_v 2) (s_consA (s_tup s_nilA) (s_consA s_int s_nilA))))))))).pt (z_one (z_ret s_bl))
 z_nil)
 (z_cons (z_set 6 cn.nd (s_tup s_nilA) .non)
 (z_cons (z_for cn (w_rng1 (fr_range c) (s_consA (s_ix (s_lst (s_consA (s_call cn (ok__law_pick c) (by decide) (g__law_pick c) (s_consA (s_v 1) (s_consA s_int s_nilA))) (s_consA s_int (s_consA s_int s_nilA)))) (s_callB (c_max2 cn.calm) (fr_max c) (s_consA s_int (s_consA (s_bin o_sub (s_call cn (ok__law_pick c) (by decide) (g__law_pick c) (s_consA (s_v 1) (s_consA s_int s_nilA))) s_int) s_nilA)))) s_nilA) (h1 := len1)) (g_n 7 cn.nd .non)
 (z_cons (z_set 6 cn.nd (s_bin o_add (s_v 6) (s_tup (s_consA (s_call cn (ok__law_lot c) (by decide) (g__law_lot c) (s_consA (s_v 1) (s_consA (s_v 3) s_nilA))) s_nilA))) .non)
 (z_one (z_expr (s_meth cn "Bench" (cl_Bench c) (me_Bench_put c) (ok_Bench_put c) (by decide) (s_v 4) (s_consA (s_v 7) (s_consA (s_ix (s_v 6) (s_neg s_int)) s_nilA)))))))
 (z_cons (z_for cn (w_rng1 (fr_range c) (s_consA s_int s_nilA) (h1 := len1)) (g_n 7 cn.nd .non)
 (z_cons (z_set 8 cn.nd (s_call cn (ok__law_pick c) (by decide) (g__law_pick c) (s_consA (s_v 1) (s_consA s_int s_nilA))) .non)
 (z_cons (z_set 9 cn.nd (s_lst (s_consA (s_call cn (ok__law_odd c) (by decide) (g__law_odd c) (s_consA (s_v 1) s_nilA)) (s_consA (s_bin o_sub (s_callB c_len (fr_len c) (s_consA (s_v 6) s_nilA)) (s_call cn (ok__law_pick c) (by decide) (g__law_pick c) (s_consA (s_v 1) (s_consA s_int s_nilA)))) (s_consA (s_call cn (ok__law_pick c) (by decide) (g__law_pick c) (s_consA (s_v 1) (s_consA (s_bin o_add (s_callB c_len (fr_len c) (s_consA (s_v 6) s_nilA)) s_int) s_nilA))) (s_consA (s_neg s_int) (s_consA (s_bin o_add (s_callB c_len (fr_len c) (s_consA (s_v 6) s_nilA)) s_int) s_nilA)))))) .non)
 (z_cons (z_set 10 cn.nd (s_call cn (ok__law_lot c) (by decide) (g__law_lot c) (s_consA (s_v 1) (s_consA (s_v 3) s_nilA))) .non)
 (z_cons (z_set 11 cn.nd (s_lst (s_consA (s_v 10) (s_consA (s_v 10) (s_consA (s_call cn (ok__law_odd c) (by decide) (g__law_odd c) (s_consA (s_v 1) s_nilA)) (s_consA (s_callT c_list (fr_list c) (s_consA (s_v 10) s_nilA)) (s_consA (s_call cn (ok__law_deep c) (by decide) (g__law_deep c) (s_consA (s_v 1) s_nilA)) s_nilA)))))) .non)
 (z_cons (z_set 12 cn.nd (s_tup (s_consA (s_ix (s_v 9) (s_call cn (ok__law_pick c) (by decide) (g__law_pick c) (s_consA (s_v 1) (s_consA s_int s_nilA)))) (s_consA (s_ix (s_v 11) (s_call cn (ok__law_pick c) (by decide) (g__law_pick c) (s_consA (s_v 1) (s_consA s_int s_nilA)))) s_nilA))) .non)
 (z_cons (z_set 13 cn.nd (s_call cn (ok__law_due c) (by decide) (g__law_due c) (s_consA (s_v 2) (s_consA (s_v 6) (s_consA (s_v 8) (s_consA (s_ix (s_v 12) s_int) (s_consA (s_ix (s_v 12) s_int) s_nilA)))))) .non)
 (z_cons (z_if (s_cmpT (o_ne cn.u64) (s_call cn (ok__law_asked c) (by decide) (g__law_asked c) (s_consA (s_v 4) (s_consA (s_v 8) (s_consA (s_ix (s_v 12) s_int) (s_consA (s_ix (s_v 12) s_int) s_nilA))))) (s_v 13)) (z_one (z_ret s_bl))
 z_nil)
 (z_cons (z_if (s_cmpT (o_eq cn.u64) (s_v 13) s_str) (z_one (z_expr (s_meth0 cn "Bench" (cl_Bench c) (me_Bench_back c) (ok_Bench_back c) (by decide) (s_v 4))))
 z_nil)
 (z_one (z_if (s_notT (s_test (s_call cn (ok__law_stands c) (by decide) (g__law_stands c) (s_consA (s_v 4) (s_consA (s_v 2) (s_consA (s_v 6) (s_consA (s_callB c_len (fr_len c) (s_consA (s_v 6) s_nilA)) s_nilA))))))) (z_one (z_ret s_bl))
 z_nil)))))))))))
 (z_one (z_ret s_bl))))))))))))
theorem okL (c : Cc w h K mg) : ∃ fd, (∀ (s : Shared) (u : Value), BindsTo s fd ⟨[u], []⟩ [("_law_script", u)]) ∧ ∀ base, FnOk P w K mg base CXn 9 (He.ga K "law") fd ["_law_script"] (spL K (He.ga K) d_law) := by
  obtain ⟨fd, F⟩ := c.fd 36 (d := D_law) rfl
  have bi := FunD.bindsA (ps := ["_law_script"]) F fun _ _ _ _ _ _ us hl => match us, hl with | [_], _ => rfl
  refine ⟨fd, fun s u => bi s [u] rfl, fun base => fn_law (b := b_law) F sc_law (fun cdv A outer s H E cn => ?_)⟩
  exact (z_cons (z_set 1 cn.nd (s_call cn (ok__law_tape c) (by decide) (g__law_tape c) (s_consA (s_v 0) s_nilA)) .non)
 (z_cons (z_set 2 cn.nd (s_call cn (ok__law_marks c) (by decide) (g__law_marks c) (s_consA (s_v 1) s_nilA)) .non)
 (z_cons (z_set 3 cn.nd (s_call cn (ok__law_kinds c) (by decide) (g__law_kinds c) (s_consA (s_v 2) s_nilA)) .non)
 (z_cons (z_set 4 cn.nd (s_make cn (mk_Bench c) (ok_Bench___init__ c) (by decide) (g_Bench c) (s_consA (s_v 2) s_nilA)) .non)
 (z_cons (z_set 5 cn.nd (s_ix (s_lst (s_consA (s_call cn (ok__law_odd c) (by decide) (g__law_odd c) (s_consA (s_v 1) s_nilA)) (s_consA (s_call cn (ok__law_odd c) (by decide) (g__law_odd c) (s_consA (s_v 1) s_nilA)) (s_consA (s_call cn (ok__law_deep c) (by decide) (g__law_deep c) (s_consA (s_v 1) s_nilA)) (s_consA (s_v 4) (s_consA (s_make cn (mk_Seats c) (ok_Seats___init__ c) (by decide) (g_Seats c) (s_consA (s_v 2) (s_consA (s_tup s_nilA) s_nilA))) s_nilA)))))) (s_call cn (ok__law_pick c) (by decide) (g__law_pick c) (s_consA (s_v 1) (s_consA s_int s_nilA)))) .non)
 (z_cons (z_if (s_cmpT (o_ne cn.u64) (s_call cn (ok__law_asked c) (by decide) (g__law_asked c) (s_consA (s_v 4) (s_consA s_int (s_consA (s_v 5) (s_consA s_non s_nilA))))) (s_ix (s_lst (s_consA s_str (s_consA s_str s_nilA))) (s_callT c_int (fr_int c) (s_consA (s_call cn (ok__law_is_marks c) (by decide) (g__law_is_marks c) (s_consA (s_v 5) s_nilA)) s_nilA)))) (z_one (z_ret s_bl))
 z_nil)
 (z_cons (z_if (s_orW (s_cmpT (o_ne cn.u64) (s_call cn (ok__law_asked c) (by decide) (g__law_asked c) (s_consA (s_v 4) (s_consA s_int (s_consA s_non (s_consA s_non s_nilA))))) s_str) (s_or1 (s_notT (s_test (s_call cn (ok__law_stands c) (by decide) (g__law_stands c) (s_consA (s_v 4) (s_consA (s_v 2) (s_consA (s_tup s_nilA) (s_consA s_int s_nilA))))))))).pt (z_one (z_ret s_bl))
 z_nil)
 (z_cons (z_set 6 cn.nd (s_tup s_nilA) .non)
 (z_cons (z_for cn (w_rng1 (fr_range c) (s_consA (s_ix (s_lst (s_consA (s_call cn (ok__law_pick c) (by decide) (g__law_pick c) (s_consA (s_v 1) (s_consA s_int s_nilA))) (s_consA s_int (s_consA s_int s_nilA)))) (s_callB (c_max2 cn.calm) (fr_max c) (s_consA s_int (s_consA (s_bin o_sub (s_call cn (ok__law_pick c) (by decide) (g__law_pick c) (s_consA (s_v 1) (s_consA s_int s_nilA))) s_int) s_nilA)))) s_nilA) (h1 := len1)) (g_n 7 cn.nd .non)
 (z_cons (z_set 6 cn.nd (s_bin o_add (s_v 6) (s_tup (s_consA (s_call cn (ok__law_lot c) (by decide) (g__law_lot c) (s_consA (s_v 1) (s_consA (s_v 3) s_nilA))) s_nilA))) .non)
 (z_one (z_expr (s_meth cn "Bench" (cl_Bench c) (me_Bench_put c) (ok_Bench_put c) (by decide) (s_v 4) (s_consA (s_v 7) (s_consA (s_ix (s_v 6) (s_neg s_int)) s_nilA)))))))
 (z_cons (z_for cn (w_rng1 (fr_range c) (s_consA s_int s_nilA) (h1 := len1)) (g_n 7 cn.nd .non)
 (z_cons (z_set 8 cn.nd (s_call cn (ok__law_pick c) (by decide) (g__law_pick c) (s_consA (s_v 1) (s_consA s_int s_nilA))) .non)
 (z_cons (z_set 9 cn.nd (s_lst (s_consA (s_call cn (ok__law_odd c) (by decide) (g__law_odd c) (s_consA (s_v 1) s_nilA)) (s_consA (s_bin o_sub (s_callB c_len (fr_len c) (s_consA (s_v 6) s_nilA)) (s_call cn (ok__law_pick c) (by decide) (g__law_pick c) (s_consA (s_v 1) (s_consA s_int s_nilA)))) (s_consA (s_call cn (ok__law_pick c) (by decide) (g__law_pick c) (s_consA (s_v 1) (s_consA (s_bin o_add (s_callB c_len (fr_len c) (s_consA (s_v 6) s_nilA)) s_int) s_nilA))) (s_consA (s_neg s_int) (s_consA (s_bin o_add (s_callB c_len (fr_len c) (s_consA (s_v 6) s_nilA)) s_int) s_nilA)))))) .non)
 (z_cons (z_set 10 cn.nd (s_call cn (ok__law_lot c) (by decide) (g__law_lot c) (s_consA (s_v 1) (s_consA (s_v 3) s_nilA))) .non)
 (z_cons (z_set 11 cn.nd (s_lst (s_consA (s_v 10) (s_consA (s_v 10) (s_consA (s_call cn (ok__law_odd c) (by decide) (g__law_odd c) (s_consA (s_v 1) s_nilA)) (s_consA (s_callT c_list (fr_list c) (s_consA (s_v 10) s_nilA)) (s_consA (s_call cn (ok__law_deep c) (by decide) (g__law_deep c) (s_consA (s_v 1) s_nilA)) s_nilA)))))) .non)
 (z_cons (z_set 12 cn.nd (s_tup (s_consA (s_ix (s_v 9) (s_call cn (ok__law_pick c) (by decide) (g__law_pick c) (s_consA (s_v 1) (s_consA s_int s_nilA)))) (s_consA (s_ix (s_v 11) (s_call cn (ok__law_pick c) (by decide) (g__law_pick c) (s_consA (s_v 1) (s_consA s_int s_nilA)))) s_nilA))) .non)
 (z_cons (z_set 13 cn.nd (s_call cn (ok__law_due c) (by decide) (g__law_due c) (s_consA (s_v 2) (s_consA (s_v 6) (s_consA (s_v 8) (s_consA (s_ix (s_v 12) s_int) (s_consA (s_ix (s_v 12) s_int) s_nilA)))))) .non)
 (z_cons (z_if (s_cmpT (o_ne cn.u64) (s_call cn (ok__law_asked c) (by decide) (g__law_asked c) (s_consA (s_v 4) (s_consA (s_v 8) (s_consA (s_ix (s_v 12) s_int) (s_consA (s_ix (s_v 12) s_int) s_nilA))))) (s_v 13)) (z_one (z_ret s_bl))
 z_nil)
 (z_cons (z_if (s_cmpT (o_eq cn.u64) (s_v 13) s_str) (z_one (z_expr (s_meth0 cn "Bench" (cl_Bench c) (me_Bench_back c) (ok_Bench_back c) (by decide) (s_v 4))))
 z_nil)
 (z_one (z_if (s_notT (s_test (s_call cn (ok__law_stands c) (by decide) (g__law_stands c) (s_consA (s_v 4) (s_consA (s_v 2) (s_consA (s_v 6) (s_consA (s_callB c_len (fr_len c) (s_consA (s_v 6) s_nilA)) s_nilA))))))) (z_one (z_ret s_bl))
 z_nil)))))))))))
 (z_one (z_ret s_bl))))))))))))
end
theorem run (w : World) : HandSHeadRun.RunEq RwO (PySem.W.view RwO.prog [49]) hk ob 6000 names w := by
  intro os
  kernel_rfl
end HB

set_option maxHeartbeats 1000000
namespace HB
open PySem DN
abbrev cs : List PySem.Str := ["Seats", "Bench"]
/-! ### rows that go up, kinds, lots -/
theorem asc_loop {t : T} {L : List PySem.Str} (h : Row t L) (M : Mem) : loopC (fun _ => true) (gN 1) dYes (dBin ltT (dBin ixT (dV 0) (dBin subT (dV 1) (dC (.int 1)))) (dBin ixT (dV 0) (dV 1))) [some t, none] M.length (rngT 1 (L.length - 1)) (M ++ [.lst []]) =
    .ok (.ob M.length) (M ++ [.lst ((List.range (L.length - 1)).map fun i => .bl (adjAt L i))]) := by
  rw [loopC_pure (fun u => [some t, some u]) (fun _ => true) (fun u => .bl (adjAt L (preI u))) _ _ (fun _ => rfl) (fun u hu acc => ?_) (le_line (by rw [rngT_len]; have := h.small; omega))]
  · rw [List.filter_eq_self.mpr (fun _ _ => rfl), rng1_map (fun i => T.bl (adjAt L i))]; rfl
  · obtain ⟨i, hi, rfl, hp⟩ := rng1_mem hu
    rw [hp]
    refine ⟨rfl, rfl, fun _ => ?_⟩
    have e1 : ((i : Int) + 1 - 1) = (i : Int) := by omega
    have e2 : ((i : Int) + 1) = ((i + 1 : Nat) : Int) := by omega
    simp only [bind_ok, bind_ex, bind_no, toS_ok, toS_ex, toS_no, sb_nx, sb_rt, sb_bk, sb_ct, sb_ex, sb_no, tu_nx, tu_ct, tu_bk, tu_rt, tu_ex, on_nx, on_ex, dV_, dC_, dBin_, dUn_, dNilA_, dConsA_, dTup_, dLst_, asB_bl, dB_, dAndB_, dOrB_, dNotB_, dAnd_, dOr_, dNot_, dIf_, dCallB_, dCall_, dMeth_, dFld_, dSetF_, dMake_, dNoPart_, asI_int, dPart_, dSlice_, dDic_, dChain_, dSeq_, dNil_, dPass_, dBreak_, dCont_, dExpr_, dRet_, dRetN_, dSet_, dIfS_, gN_, gsN_, gsC_, gT_, gSub_, dAsg_, dRaise_, dRaiseA_, dFor_, wSeq_, wEn_, wRng_, dLc_, dYes_, wipeT_nil, wipeT_cons, endF_nx, endF_rt, endF_ex, chk_str, chk_tup, items_str, items_tup, items_ob, seq_tup, len_tup, add_int, sub_int, lt_int', le_int', gt_int', ge_int', lt_str', gt_str', eq_int', eq_str', ne_int', ne_str', neg_int, int_int, int_bl, isnot_non, is_non, dFn1, dFn2, dFn3, dFn4, dFn5, List.replicate_succ, List.replicate_zero, List.getElem?_cons_zero, List.getElem?_cons_succ, List.set_cons_zero, List.set_cons_succ, List.length_cons, List.length_nil, if_true_, if_false_, if_T_, if_F_, Bool.not_true, Bool.not_false, Nat.reduceAdd, Nat.reduceSub, Nat.reduceLeDiff, Int.reduceSub, Int.reduceAdd, ge_iff_le, List.map_cons, List.map_nil, List.cons_append, List.nil_append]
    rw [e1, h.ix i _ (by omega), bind_ok, e2, h.ix (i + 1) _ (by omega)]
    rfl
theorem P_is_ascending {t : T} {L : List PySem.Str} (h : Row t L) (M : Mem) : d_is_ascending [t] M = .ok (.bl (upS L)) M := by
  refine gcF_app (G := [.lst ((List.range (L.length - 1)).map fun i => .bl (adjAt L i))]) ?_ rfl
  have hs := h.small
  have hr : ((L.length : Int) - 1).toNat = L.length - 1 := by omega
  have hb : -1000000 ≤ (1 : Int) ∧ (1 : Int) ≤ 1000000 ∧ -1000000 ≤ (L.length : Int) ∧ (L.length : Int) ≤ 1000000 := by omega
  simp only [b_is_ascending, bind_ok, bind_ex, bind_no, toS_ok, toS_ex, toS_no, sb_nx, sb_rt, sb_bk, sb_ct, sb_ex, sb_no, tu_nx, tu_ct, tu_bk, tu_rt, tu_ex, on_nx, on_ex, dV_, dC_, dBin_, dUn_, dNilA_, dConsA_, dTup_, dLst_, asB_bl, dB_, dAndB_, dOrB_, dNotB_, dAnd_, dOr_, dNot_, dIf_, dCallB_, dCall_, dMeth_, dFld_, dSetF_, dMake_, dNoPart_, asI_int, dPart_, dSlice_, dDic_, dChain_, dSeq_, dNil_, dPass_, dBreak_, dCont_, dExpr_, dRet_, dRetN_, dSet_, dIfS_, gN_, gsN_, gsC_, gT_, gSub_, dAsg_, dRaise_, dRaiseA_, dFor_, wSeq_, wEn_, wRng_, dLc_, dYes_, wipeT_nil, wipeT_cons, endF_nx, endF_rt, endF_ex, chk_str, chk_tup, items_str, items_tup, items_ob, seq_tup, len_tup, add_int, sub_int, lt_int', le_int', gt_int', ge_int', lt_str', gt_str', eq_int', eq_str', ne_int', ne_str', neg_int, int_int, int_bl, isnot_non, is_non, dFn1, dFn2, dFn3, dFn4, dFn5, List.replicate_succ, List.replicate_zero, List.getElem?_cons_zero, List.getElem?_cons_succ, List.set_cons_zero, List.set_cons_succ, List.length_cons, List.length_nil, if_true_, if_false_, if_T_, if_F_, Bool.not_true, Bool.not_false, Nat.reduceAdd, Nat.reduceSub, Nat.reduceLeDiff, Int.reduceSub, Int.reduceAdd, ge_iff_le, List.map_cons, List.map_nil, List.cons_append, List.nil_append, h.len, rng_ok2 hb, hr, asc_loop h, allT, List.getElem?_concat_length, bls_of]
  simp only [upS, List.all_map]
  rfl
theorem P__law_is_up {t : T} {L : List PySem.Str} (h : Row t L) (M : Mem) : d__law_is_up [t] M = .ok (.bl (upS L)) M := by
  have hs := h.small
  have hr : ((L.length : Int) - 1).toNat = L.length - 1 := by omega
  have hb : -1000000 ≤ (1 : Int) ∧ (1 : Int) ≤ 1000000 ∧ -1000000 ≤ (L.length : Int) ∧ (L.length : Int) ≤ 1000000 := by omega
  have hl : loopC (fun _ => true) (gN 1) (dNotB (dB (dBin ltT (dBin ixT (dV 0) (dBin subT (dV 1) (dC (.int 1)))) (dBin ixT (dV 0) (dV 1))))) (dV 1) [some t, none] M.length (rngT 1 (L.length - 1)) (M ++ [.lst []]) =
      .ok (.ob M.length) (M ++ [.lst ([] ++ ((rngT 1 (L.length - 1)).filter fun u => !adjAt L (preI u)).map id)]) := by
    refine loopC_pure (fun u => [some t, some u]) _ _ _ _ (fun _ => rfl) (fun u hu acc => ?_) (le_line (by rw [rngT_len]; have := h.small; omega))
    obtain ⟨i, hi, rfl, hp⟩ := rng1_mem hu
    rw [hp]
    have e1 : ((i : Int) + 1 - 1) = (i : Int) := by omega
    have e2 : ((i : Int) + 1) = ((i + 1 : Nat) : Int) := by omega
    refine ⟨rfl, ?_, fun _ => rfl⟩
    simp only [bind_ok, bind_ex, bind_no, toS_ok, toS_ex, toS_no, sb_nx, sb_rt, sb_bk, sb_ct, sb_ex, sb_no, tu_nx, tu_ct, tu_bk, tu_rt, tu_ex, on_nx, on_ex, dV_, dC_, dBin_, dUn_, dNilA_, dConsA_, dTup_, dLst_, asB_bl, dB_, dAndB_, dOrB_, dNotB_, dAnd_, dOr_, dNot_, dIf_, dCallB_, dCall_, dMeth_, dFld_, dSetF_, dMake_, dNoPart_, asI_int, dPart_, dSlice_, dDic_, dChain_, dSeq_, dNil_, dPass_, dBreak_, dCont_, dExpr_, dRet_, dRetN_, dSet_, dIfS_, gN_, gsN_, gsC_, gT_, gSub_, dAsg_, dRaise_, dRaiseA_, dFor_, wSeq_, wEn_, wRng_, dLc_, dYes_, wipeT_nil, wipeT_cons, endF_nx, endF_rt, endF_ex, chk_str, chk_tup, items_str, items_tup, items_ob, seq_tup, len_tup, add_int, sub_int, lt_int', le_int', gt_int', ge_int', lt_str', gt_str', eq_int', eq_str', ne_int', ne_str', neg_int, int_int, int_bl, isnot_non, is_non, dFn1, dFn2, dFn3, dFn4, dFn5, List.replicate_succ, List.replicate_zero, List.getElem?_cons_zero, List.getElem?_cons_succ, List.set_cons_zero, List.set_cons_succ, List.length_cons, List.length_nil, if_true_, if_false_, if_T_, if_F_, Bool.not_true, Bool.not_false, Nat.reduceAdd, Nat.reduceSub, Nat.reduceLeDiff, Int.reduceSub, Int.reduceAdd, ge_iff_le, List.map_cons, List.map_nil, List.cons_append, List.nil_append]
    rw [e1, h.ix i _ (by omega), bind_ok, e2, h.ix (i + 1) _ (by omega)]
    rfl
  refine gcF_app (G := [.lst ([] ++ ((rngT 1 (L.length - 1)).filter fun u => !adjAt L (preI u)).map id)]) ?_ rfl
  simp only [b__law_is_up, bind_ok, bind_ex, bind_no, toS_ok, toS_ex, toS_no, sb_nx, sb_rt, sb_bk, sb_ct, sb_ex, sb_no, tu_nx, tu_ct, tu_bk, tu_rt, tu_ex, on_nx, on_ex, dV_, dC_, dBin_, dUn_, dNilA_, dConsA_, dTup_, dLst_, asB_bl, dB_, dAndB_, dOrB_, dNotB_, dAnd_, dOr_, dNot_, dIf_, dCallB_, dCall_, dMeth_, dFld_, dSetF_, dMake_, dNoPart_, asI_int, dPart_, dSlice_, dDic_, dChain_, dSeq_, dNil_, dPass_, dBreak_, dCont_, dExpr_, dRet_, dRetN_, dSet_, dIfS_, gN_, gsN_, gsC_, gT_, gSub_, dAsg_, dRaise_, dRaiseA_, dFor_, wSeq_, wEn_, wRng_, dLc_, dYes_, wipeT_nil, wipeT_cons, endF_nx, endF_rt, endF_ex, chk_str, chk_tup, items_str, items_tup, items_ob, seq_tup, len_tup, add_int, sub_int, lt_int', le_int', gt_int', ge_int', lt_str', gt_str', eq_int', eq_str', ne_int', ne_str', neg_int, int_int, int_bl, isnot_non, is_non, dFn1, dFn2, dFn3, dFn4, dFn5, List.replicate_succ, List.replicate_zero, List.getElem?_cons_zero, List.getElem?_cons_succ, List.set_cons_zero, List.set_cons_succ, List.length_cons, List.length_nil, if_true_, if_false_, if_T_, if_F_, Bool.not_true, Bool.not_false, Nat.reduceAdd, Nat.reduceSub, Nat.reduceLeDiff, Int.reduceSub, Int.reduceAdd, ge_iff_le, List.map_cons, List.map_nil, List.cons_append, List.nil_append, h.len, rng_ok2 hb, hr, hl, len_ob List.getElem?_concat_length, List.map_id, rng1_filter (fun i => !adjAt L i), all_filter]
  rfl
theorem P_is_kind {m : PySem.Str} {t : T} {M : Mem} (h : Thing cs t M) : d_is_kind [.str m, t] M = .ok (.bl (isKind m t)) M := by
  cases t with
  | str k =>
    have hk := h.str k rfl
    refine gcF_app (G := [.lst ((signsT k).map fun u => .bl (inM m u))]) ?_ rfl
    have hl : loopC (seqChk (.str k) (signsT k)) (gN 2) dYes (dBin (inT false) (dV 2) (dV 0)) [some (.str m), some (.str k), none] M.length (signsT k) (M ++ [.lst []]) = .ok (.ob M.length) (M ++ [.lst ([] ++ ((signsT k).filter fun _ => true).map fun u => .bl (inM m u))]) := by
      refine loopC_pure (fun u => [some (.str m), some (.str k), some u]) _ _ _ _ (fun _ => chk_str) (fun u hu acc => ?_) (le_line (by rw [sgn_signs, List.length_map, sgn_len]; exact hk))
      obtain ⟨c, rfl⟩ := signs_mem hu
      refine ⟨rfl, rfl, fun _ => ?_⟩
      simp only [bind_ok, bind_ex, bind_no, toS_ok, toS_ex, toS_no, sb_nx, sb_rt, sb_bk, sb_ct, sb_ex, sb_no, tu_nx, tu_ct, tu_bk, tu_rt, tu_ex, on_nx, on_ex, dV_, dC_, dBin_, dUn_, dNilA_, dConsA_, dTup_, dLst_, asB_bl, dB_, dAndB_, dOrB_, dNotB_, dAnd_, dOr_, dNot_, dIf_, dCallB_, dCall_, dMeth_, dFld_, dSetF_, dMake_, dNoPart_, asI_int, dPart_, dSlice_, dDic_, dChain_, dSeq_, dNil_, dPass_, dBreak_, dCont_, dExpr_, dRet_, dRetN_, dSet_, dIfS_, gN_, gsN_, gsC_, gT_, gSub_, dAsg_, dRaise_, dRaiseA_, dFor_, wSeq_, wEn_, wRng_, dLc_, dYes_, wipeT_nil, wipeT_cons, endF_nx, endF_rt, endF_ex, chk_str, chk_tup, items_str, items_tup, items_ob, seq_tup, len_tup, add_int, sub_int, lt_int', le_int', gt_int', ge_int', lt_str', gt_str', eq_int', eq_str', ne_int', ne_str', neg_int, int_int, int_bl, isnot_non, is_non, dFn1, dFn2, dFn3, dFn4, dFn5, List.replicate_succ, List.replicate_zero, List.getElem?_cons_zero, List.getElem?_cons_succ, List.set_cons_zero, List.set_cons_succ, List.length_cons, List.length_nil, if_true_, if_false_, if_T_, if_F_, Bool.not_true, Bool.not_false, Nat.reduceAdd, Nat.reduceSub, Nat.reduceLeDiff, Int.reduceSub, Int.reduceAdd, ge_iff_le, List.map_cons, List.map_nil, List.cons_append, List.nil_append]
      exact in_sign
    rw [List.filter_eq_self.mpr (fun _ _ => rfl)] at hl
    simp only [b_is_kind, bind_ok, bind_ex, bind_no, toS_ok, toS_ex, toS_no, sb_nx, sb_rt, sb_bk, sb_ct, sb_ex, sb_no, tu_nx, tu_ct, tu_bk, tu_rt, tu_ex, on_nx, on_ex, dV_, dC_, dBin_, dUn_, dNilA_, dConsA_, dTup_, dLst_, asB_bl, dB_, dAndB_, dOrB_, dNotB_, dAnd_, dOr_, dNot_, dIf_, dCallB_, dCall_, dMeth_, dFld_, dSetF_, dMake_, dNoPart_, asI_int, dPart_, dSlice_, dDic_, dChain_, dSeq_, dNil_, dPass_, dBreak_, dCont_, dExpr_, dRet_, dRetN_, dSet_, dIfS_, gN_, gsN_, gsC_, gT_, gSub_, dAsg_, dRaise_, dRaiseA_, dFor_, wSeq_, wEn_, wRng_, dLc_, dYes_, wipeT_nil, wipeT_cons, endF_nx, endF_rt, endF_ex, chk_str, chk_tup, items_str, items_tup, items_ob, seq_tup, len_tup, add_int, sub_int, lt_int', le_int', gt_int', ge_int', lt_str', gt_str', eq_int', eq_str', ne_int', ne_str', neg_int, int_int, int_bl, isnot_non, is_non, dFn1, dFn2, dFn3, dFn4, dFn5, List.replicate_succ, List.replicate_zero, List.getElem?_cons_zero, List.getElem?_cons_succ, List.set_cons_zero, List.set_cons_succ, List.length_cons, List.length_nil, if_true_, if_false_, if_T_, if_F_, Bool.not_true, Bool.not_false, Nat.reduceAdd, Nat.reduceSub, Nat.reduceLeDiff, Int.reduceSub, Int.reduceAdd, ge_iff_le, List.map_cons, List.map_nil, List.cons_append, List.nil_append, isiB_str, hl, allT, List.getElem?_concat_length, bls_of, P_is_ascending (row_str hk)]
    simp only [isKind, kindB, List.all_map]
    cases e : (signsT k).all (id ∘ fun u => inM m u) with
    | true =>
      have e' : (signsT k).all (inM m) = true := e
      rw [e']; rfl
    | false =>
      have e' : (signsT k).all (inM m) = false := e
      rw [e']; rfl
  | _ =>
    refine gcF_same ?_
    simp only [b_is_kind, bind_ok, bind_ex, bind_no, toS_ok, toS_ex, toS_no, sb_nx, sb_rt, sb_bk, sb_ct, sb_ex, sb_no, tu_nx, tu_ct, tu_bk, tu_rt, tu_ex, on_nx, on_ex, dV_, dC_, dBin_, dUn_, dNilA_, dConsA_, dTup_, dLst_, asB_bl, dB_, dAndB_, dOrB_, dNotB_, dAnd_, dOr_, dNot_, dIf_, dCallB_, dCall_, dMeth_, dFld_, dSetF_, dMake_, dNoPart_, asI_int, dPart_, dSlice_, dDic_, dChain_, dSeq_, dNil_, dPass_, dBreak_, dCont_, dExpr_, dRet_, dRetN_, dSet_, dIfS_, gN_, gsN_, gsC_, gT_, gSub_, dAsg_, dRaise_, dRaiseA_, dFor_, wSeq_, wEn_, wRng_, dLc_, dYes_, wipeT_nil, wipeT_cons, endF_nx, endF_rt, endF_ex, chk_str, chk_tup, items_str, items_tup, items_ob, seq_tup, len_tup, add_int, sub_int, lt_int', le_int', gt_int', ge_int', lt_str', gt_str', eq_int', eq_str', ne_int', ne_str', neg_int, int_int, int_bl, isnot_non, is_non, dFn1, dFn2, dFn3, dFn4, dFn5, List.replicate_succ, List.replicate_zero, List.getElem?_cons_zero, List.getElem?_cons_succ, List.set_cons_zero, List.set_cons_succ, List.length_cons, List.length_nil, if_true_, if_false_, if_T_, if_F_, Bool.not_true, Bool.not_false, Nat.reduceAdd, Nat.reduceSub, Nat.reduceLeDiff, Int.reduceSub, Int.reduceAdd, ge_iff_le, List.map_cons, List.map_nil, List.cons_append, List.nil_append, isi_str h.ty]
    rfl
theorem P__law_is_kind {m : PySem.Str} {t : T} {M : Mem} (h : Thing cs t M) : d__law_is_kind [.str m, t] M = .ok (.bl (isKind m t)) M := by
  cases t with
  | str k =>
    have hk := h.str k rfl
    refine gcF_app (G := [.lst ([] ++ ((signsT k).filter fun u => !inM m u).map id)]) ?_ rfl
    have hl : loopC (seqChk (.str k) (signsT k)) (gN 2) (dB (dBin (inT true) (dV 2) (dV 0))) (dV 2) [some (.str m), some (.str k), none] M.length (signsT k) (M ++ [.lst []]) = .ok (.ob M.length) (M ++ [.lst ([] ++ ((signsT k).filter fun u => !inM m u).map id)]) := by
      refine loopC_pure (fun u => [some (.str m), some (.str k), some u]) _ _ _ _ (fun _ => chk_str) (fun u hu acc => ?_) (le_line (by rw [sgn_signs, List.length_map, sgn_len]; exact hk))
      obtain ⟨c, rfl⟩ := signs_mem hu
      refine ⟨rfl, ?_, fun _ => rfl⟩
      simp only [bind_ok, bind_ex, bind_no, toS_ok, toS_ex, toS_no, sb_nx, sb_rt, sb_bk, sb_ct, sb_ex, sb_no, tu_nx, tu_ct, tu_bk, tu_rt, tu_ex, on_nx, on_ex, dV_, dC_, dBin_, dUn_, dNilA_, dConsA_, dTup_, dLst_, asB_bl, dB_, dAndB_, dOrB_, dNotB_, dAnd_, dOr_, dNot_, dIf_, dCallB_, dCall_, dMeth_, dFld_, dSetF_, dMake_, dNoPart_, asI_int, dPart_, dSlice_, dDic_, dChain_, dSeq_, dNil_, dPass_, dBreak_, dCont_, dExpr_, dRet_, dRetN_, dSet_, dIfS_, gN_, gsN_, gsC_, gT_, gSub_, dAsg_, dRaise_, dRaiseA_, dFor_, wSeq_, wEn_, wRng_, dLc_, dYes_, wipeT_nil, wipeT_cons, endF_nx, endF_rt, endF_ex, chk_str, chk_tup, items_str, items_tup, items_ob, seq_tup, len_tup, add_int, sub_int, lt_int', le_int', gt_int', ge_int', lt_str', gt_str', eq_int', eq_str', ne_int', ne_str', neg_int, int_int, int_bl, isnot_non, is_non, dFn1, dFn2, dFn3, dFn4, dFn5, List.replicate_succ, List.replicate_zero, List.getElem?_cons_zero, List.getElem?_cons_succ, List.set_cons_zero, List.set_cons_succ, List.length_cons, List.length_nil, if_true_, if_false_, if_T_, if_F_, Bool.not_true, Bool.not_false, Nat.reduceAdd, Nat.reduceSub, Nat.reduceLeDiff, Int.reduceSub, Int.reduceAdd, ge_iff_le, List.map_cons, List.map_nil, List.cons_append, List.nil_append, notin_sign]
    simp only [b__law_is_kind, bind_ok, bind_ex, bind_no, toS_ok, toS_ex, toS_no, sb_nx, sb_rt, sb_bk, sb_ct, sb_ex, sb_no, tu_nx, tu_ct, tu_bk, tu_rt, tu_ex, on_nx, on_ex, dV_, dC_, dBin_, dUn_, dNilA_, dConsA_, dTup_, dLst_, asB_bl, dB_, dAndB_, dOrB_, dNotB_, dAnd_, dOr_, dNot_, dIf_, dCallB_, dCall_, dMeth_, dFld_, dSetF_, dMake_, dNoPart_, asI_int, dPart_, dSlice_, dDic_, dChain_, dSeq_, dNil_, dPass_, dBreak_, dCont_, dExpr_, dRet_, dRetN_, dSet_, dIfS_, gN_, gsN_, gsC_, gT_, gSub_, dAsg_, dRaise_, dRaiseA_, dFor_, wSeq_, wEn_, wRng_, dLc_, dYes_, wipeT_nil, wipeT_cons, endF_nx, endF_rt, endF_ex, chk_str, chk_tup, items_str, items_tup, items_ob, seq_tup, len_tup, add_int, sub_int, lt_int', le_int', gt_int', ge_int', lt_str', gt_str', eq_int', eq_str', ne_int', ne_str', neg_int, int_int, int_bl, isnot_non, is_non, dFn1, dFn2, dFn3, dFn4, dFn5, List.replicate_succ, List.replicate_zero, List.getElem?_cons_zero, List.getElem?_cons_succ, List.set_cons_zero, List.set_cons_succ, List.length_cons, List.length_nil, if_true_, if_false_, if_T_, if_F_, Bool.not_true, Bool.not_false, Nat.reduceAdd, Nat.reduceSub, Nat.reduceLeDiff, Int.reduceSub, Int.reduceAdd, ge_iff_le, List.map_cons, List.map_nil, List.cons_append, List.nil_append, isiB_str, hl, len_ob List.getElem?_concat_length, List.map_id, all_filter, P__law_is_up (row_str hk), isKind, kindB]
    cases e : (signsT k).all (inM m) with
    | true => rfl
    | false => rfl
  | _ =>
    refine gcF_same ?_
    simp only [b__law_is_kind, bind_ok, bind_ex, bind_no, toS_ok, toS_ex, toS_no, sb_nx, sb_rt, sb_bk, sb_ct, sb_ex, sb_no, tu_nx, tu_ct, tu_bk, tu_rt, tu_ex, on_nx, on_ex, dV_, dC_, dBin_, dUn_, dNilA_, dConsA_, dTup_, dLst_, asB_bl, dB_, dAndB_, dOrB_, dNotB_, dAnd_, dOr_, dNot_, dIf_, dCallB_, dCall_, dMeth_, dFld_, dSetF_, dMake_, dNoPart_, asI_int, dPart_, dSlice_, dDic_, dChain_, dSeq_, dNil_, dPass_, dBreak_, dCont_, dExpr_, dRet_, dRetN_, dSet_, dIfS_, gN_, gsN_, gsC_, gT_, gSub_, dAsg_, dRaise_, dRaiseA_, dFor_, wSeq_, wEn_, wRng_, dLc_, dYes_, wipeT_nil, wipeT_cons, endF_nx, endF_rt, endF_ex, chk_str, chk_tup, items_str, items_tup, items_ob, seq_tup, len_tup, add_int, sub_int, lt_int', le_int', gt_int', ge_int', lt_str', gt_str', eq_int', eq_str', ne_int', ne_str', neg_int, int_int, int_bl, isnot_non, is_non, dFn1, dFn2, dFn3, dFn4, dFn5, List.replicate_succ, List.replicate_zero, List.getElem?_cons_zero, List.getElem?_cons_succ, List.set_cons_zero, List.set_cons_succ, List.length_cons, List.length_nil, if_true_, if_false_, if_T_, if_F_, Bool.not_true, Bool.not_false, Nat.reduceAdd, Nat.reduceSub, Nat.reduceLeDiff, Int.reduceSub, Int.reduceAdd, ge_iff_le, List.map_cons, List.map_nil, List.cons_append, List.nil_append, isi_str h.ty]
    rfl
theorem P_is_lot {m : PySem.Str} {t : T} {M : Mem} (h : Things cs t M) : d_is_lot [.str m, t] M = .ok (.bl (isLot m t)) M := by
  cases t with
  | tup ts =>
    obtain ⟨hk, hz⟩ := h.tup ts rfl
    by_cases h0 : ts = []
    · subst h0
      refine gcF_same ?_
      simp only [b_is_lot, bind_ok, bind_ex, bind_no, toS_ok, toS_ex, toS_no, sb_nx, sb_rt, sb_bk, sb_ct, sb_ex, sb_no, tu_nx, tu_ct, tu_bk, tu_rt, tu_ex, on_nx, on_ex, dV_, dC_, dBin_, dUn_, dNilA_, dConsA_, dTup_, dLst_, asB_bl, dB_, dAndB_, dOrB_, dNotB_, dAnd_, dOr_, dNot_, dIf_, dCallB_, dCall_, dMeth_, dFld_, dSetF_, dMake_, dNoPart_, asI_int, dPart_, dSlice_, dDic_, dChain_, dSeq_, dNil_, dPass_, dBreak_, dCont_, dExpr_, dRet_, dRetN_, dSet_, dIfS_, gN_, gsN_, gsC_, gT_, gSub_, dAsg_, dRaise_, dRaiseA_, dFor_, wSeq_, wEn_, wRng_, dLc_, dYes_, wipeT_nil, wipeT_cons, endF_nx, endF_rt, endF_ex, chk_str, chk_tup, items_str, items_tup, items_ob, seq_tup, len_tup, add_int, sub_int, lt_int', le_int', gt_int', ge_int', lt_str', gt_str', eq_int', eq_str', ne_int', ne_str', neg_int, int_int, int_bl, isnot_non, is_non, dFn1, dFn2, dFn3, dFn4, dFn5, List.replicate_succ, List.replicate_zero, List.getElem?_cons_zero, List.getElem?_cons_succ, List.set_cons_zero, List.set_cons_succ, List.length_cons, List.length_nil, if_true_, if_false_, if_T_, if_F_, Bool.not_true, Bool.not_false, Nat.reduceAdd, Nat.reduceSub, Nat.reduceLeDiff, Int.reduceSub, Int.reduceAdd, ge_iff_le, List.map_cons, List.map_nil, List.cons_append, List.nil_append, isi_tup h.ty]
      rfl
    · have hl0 : decide ((ts.length : Int) = 0) = false := by
        have : ts.length ≠ 0 := fun e => h0 (List.length_eq_zero_iff.mp e)
        simp; omega
      refine gcF_app (G := [.lst (ts.map fun u => .bl (isKind m u))]) ?_ rfl
      have hl : loopC (seqChk (.tup ts) ts) (gN 2) dYes (dCall d_is_kind (dConsA (dV 0) (dConsA (dV 2) dNilA))) [some (.str m), some (.tup ts), none] M.length ts (M ++ [.lst []]) = .ok (.ob M.length) (M ++ [.lst ([] ++ (ts.filter fun _ => true).map fun u => .bl (isKind m u))]) := by
        refine loopC_pure (fun u => [some (.str m), some (.tup ts), some u]) _ _ _ _ (fun _ => chk_tup) (fun u hu acc => ?_) (le_line hz)
        refine ⟨rfl, rfl, fun _ => ?_⟩
        simp only [bind_ok, bind_ex, bind_no, toS_ok, toS_ex, toS_no, sb_nx, sb_rt, sb_bk, sb_ct, sb_ex, sb_no, tu_nx, tu_ct, tu_bk, tu_rt, tu_ex, on_nx, on_ex, dV_, dC_, dBin_, dUn_, dNilA_, dConsA_, dTup_, dLst_, asB_bl, dB_, dAndB_, dOrB_, dNotB_, dAnd_, dOr_, dNot_, dIf_, dCallB_, dCall_, dMeth_, dFld_, dSetF_, dMake_, dNoPart_, asI_int, dPart_, dSlice_, dDic_, dChain_, dSeq_, dNil_, dPass_, dBreak_, dCont_, dExpr_, dRet_, dRetN_, dSet_, dIfS_, gN_, gsN_, gsC_, gT_, gSub_, dAsg_, dRaise_, dRaiseA_, dFor_, wSeq_, wEn_, wRng_, dLc_, dYes_, wipeT_nil, wipeT_cons, endF_nx, endF_rt, endF_ex, chk_str, chk_tup, items_str, items_tup, items_ob, seq_tup, len_tup, add_int, sub_int, lt_int', le_int', gt_int', ge_int', lt_str', gt_str', eq_int', eq_str', ne_int', ne_str', neg_int, int_int, int_bl, isnot_non, is_non, dFn1, dFn2, dFn3, dFn4, dFn5, List.replicate_succ, List.replicate_zero, List.getElem?_cons_zero, List.getElem?_cons_succ, List.set_cons_zero, List.set_cons_succ, List.length_cons, List.length_nil, if_true_, if_false_, if_T_, if_F_, Bool.not_true, Bool.not_false, Nat.reduceAdd, Nat.reduceSub, Nat.reduceLeDiff, Int.reduceSub, Int.reduceAdd, ge_iff_le, List.map_cons, List.map_nil, List.cons_append, List.nil_append]
        exact P_is_kind (hk u hu).app
      rw [List.filter_eq_self.mpr (fun _ _ => rfl)] at hl
      simp only [b_is_lot, bind_ok, bind_ex, bind_no, toS_ok, toS_ex, toS_no, sb_nx, sb_rt, sb_bk, sb_ct, sb_ex, sb_no, tu_nx, tu_ct, tu_bk, tu_rt, tu_ex, on_nx, on_ex, dV_, dC_, dBin_, dUn_, dNilA_, dConsA_, dTup_, dLst_, asB_bl, dB_, dAndB_, dOrB_, dNotB_, dAnd_, dOr_, dNot_, dIf_, dCallB_, dCall_, dMeth_, dFld_, dSetF_, dMake_, dNoPart_, asI_int, dPart_, dSlice_, dDic_, dChain_, dSeq_, dNil_, dPass_, dBreak_, dCont_, dExpr_, dRet_, dRetN_, dSet_, dIfS_, gN_, gsN_, gsC_, gT_, gSub_, dAsg_, dRaise_, dRaiseA_, dFor_, wSeq_, wEn_, wRng_, dLc_, dYes_, wipeT_nil, wipeT_cons, endF_nx, endF_rt, endF_ex, chk_str, chk_tup, items_str, items_tup, items_ob, seq_tup, len_tup, add_int, sub_int, lt_int', le_int', gt_int', ge_int', lt_str', gt_str', eq_int', eq_str', ne_int', ne_str', neg_int, int_int, int_bl, isnot_non, is_non, dFn1, dFn2, dFn3, dFn4, dFn5, List.replicate_succ, List.replicate_zero, List.getElem?_cons_zero, List.getElem?_cons_succ, List.set_cons_zero, List.set_cons_succ, List.length_cons, List.length_nil, if_true_, if_false_, if_T_, if_F_, Bool.not_true, Bool.not_false, Nat.reduceAdd, Nat.reduceSub, Nat.reduceLeDiff, Int.reduceSub, Int.reduceAdd, ge_iff_le, List.map_cons, List.map_nil, List.cons_append, List.nil_append, isi_tup h.ty, hl0, hl, allT, List.getElem?_concat_length, bls_of]
      simp only [isLot, List.all_map]
      have h0' : decide (ts ≠ []) = true := by simpa using h0
      rw [h0']
      cases e : ts.all (id ∘ fun u => isKind m u) with
      | true =>
        have e' : ts.all (isKind m) = true := e
        rw [e']
        simp only [bind_ok, bind_ex, bind_no, toS_ok, toS_ex, toS_no, sb_nx, sb_rt, sb_bk, sb_ct, sb_ex, sb_no, tu_nx, tu_ct, tu_bk, tu_rt, tu_ex, on_nx, on_ex, dV_, dC_, dBin_, dUn_, dNilA_, dConsA_, dTup_, dLst_, asB_bl, dB_, dAndB_, dOrB_, dNotB_, dAnd_, dOr_, dNot_, dIf_, dCallB_, dCall_, dMeth_, dFld_, dSetF_, dMake_, dNoPart_, asI_int, dPart_, dSlice_, dDic_, dChain_, dSeq_, dNil_, dPass_, dBreak_, dCont_, dExpr_, dRet_, dRetN_, dSet_, dIfS_, gN_, gsN_, gsC_, gT_, gSub_, dAsg_, dRaise_, dRaiseA_, dFor_, wSeq_, wEn_, wRng_, dLc_, dYes_, wipeT_nil, wipeT_cons, endF_nx, endF_rt, endF_ex, chk_str, chk_tup, items_str, items_tup, items_ob, seq_tup, len_tup, add_int, sub_int, lt_int', le_int', gt_int', ge_int', lt_str', gt_str', eq_int', eq_str', ne_int', ne_str', neg_int, int_int, int_bl, isnot_non, is_non, dFn1, dFn2, dFn3, dFn4, dFn5, List.replicate_succ, List.replicate_zero, List.getElem?_cons_zero, List.getElem?_cons_succ, List.set_cons_zero, List.set_cons_succ, List.length_cons, List.length_nil, if_true_, if_false_, if_T_, if_F_, Bool.not_true, Bool.not_false, Nat.reduceAdd, Nat.reduceSub, Nat.reduceLeDiff, Int.reduceSub, Int.reduceAdd, ge_iff_le, List.map_cons, List.map_nil, List.cons_append, List.nil_append, P_is_ascending (kinds_row e' hz), Bool.true_and]
      | false =>
        have e' : ts.all (isKind m) = false := e
        rw [e']; rfl
  | _ =>
    refine gcF_same ?_
    simp only [b_is_lot, bind_ok, bind_ex, bind_no, toS_ok, toS_ex, toS_no, sb_nx, sb_rt, sb_bk, sb_ct, sb_ex, sb_no, tu_nx, tu_ct, tu_bk, tu_rt, tu_ex, on_nx, on_ex, dV_, dC_, dBin_, dUn_, dNilA_, dConsA_, dTup_, dLst_, asB_bl, dB_, dAndB_, dOrB_, dNotB_, dAnd_, dOr_, dNot_, dIf_, dCallB_, dCall_, dMeth_, dFld_, dSetF_, dMake_, dNoPart_, asI_int, dPart_, dSlice_, dDic_, dChain_, dSeq_, dNil_, dPass_, dBreak_, dCont_, dExpr_, dRet_, dRetN_, dSet_, dIfS_, gN_, gsN_, gsC_, gT_, gSub_, dAsg_, dRaise_, dRaiseA_, dFor_, wSeq_, wEn_, wRng_, dLc_, dYes_, wipeT_nil, wipeT_cons, endF_nx, endF_rt, endF_ex, chk_str, chk_tup, items_str, items_tup, items_ob, seq_tup, len_tup, add_int, sub_int, lt_int', le_int', gt_int', ge_int', lt_str', gt_str', eq_int', eq_str', ne_int', ne_str', neg_int, int_int, int_bl, isnot_non, is_non, dFn1, dFn2, dFn3, dFn4, dFn5, List.replicate_succ, List.replicate_zero, List.getElem?_cons_zero, List.getElem?_cons_succ, List.set_cons_zero, List.set_cons_succ, List.length_cons, List.length_nil, if_true_, if_false_, if_T_, if_F_, Bool.not_true, Bool.not_false, Nat.reduceAdd, Nat.reduceSub, Nat.reduceLeDiff, Int.reduceSub, Int.reduceAdd, ge_iff_le, List.map_cons, List.map_nil, List.cons_append, List.nil_append, isi_tup h.ty]
    rfl
theorem P__law_is_lot {m : PySem.Str} {t : T} {M : Mem} (h : Things cs t M) : d__law_is_lot [.str m, t] M = .ok (.bl (isLot m t)) M := by
  cases t with
  | tup ts =>
    obtain ⟨hk, hz⟩ := h.tup ts rfl
    by_cases h0 : ts = []
    · subst h0
      refine gcF_same ?_
      simp only [b__law_is_lot, bind_ok, bind_ex, bind_no, toS_ok, toS_ex, toS_no, sb_nx, sb_rt, sb_bk, sb_ct, sb_ex, sb_no, tu_nx, tu_ct, tu_bk, tu_rt, tu_ex, on_nx, on_ex, dV_, dC_, dBin_, dUn_, dNilA_, dConsA_, dTup_, dLst_, asB_bl, dB_, dAndB_, dOrB_, dNotB_, dAnd_, dOr_, dNot_, dIf_, dCallB_, dCall_, dMeth_, dFld_, dSetF_, dMake_, dNoPart_, asI_int, dPart_, dSlice_, dDic_, dChain_, dSeq_, dNil_, dPass_, dBreak_, dCont_, dExpr_, dRet_, dRetN_, dSet_, dIfS_, gN_, gsN_, gsC_, gT_, gSub_, dAsg_, dRaise_, dRaiseA_, dFor_, wSeq_, wEn_, wRng_, dLc_, dYes_, wipeT_nil, wipeT_cons, endF_nx, endF_rt, endF_ex, chk_str, chk_tup, items_str, items_tup, items_ob, seq_tup, len_tup, add_int, sub_int, lt_int', le_int', gt_int', ge_int', lt_str', gt_str', eq_int', eq_str', ne_int', ne_str', neg_int, int_int, int_bl, isnot_non, is_non, dFn1, dFn2, dFn3, dFn4, dFn5, List.replicate_succ, List.replicate_zero, List.getElem?_cons_zero, List.getElem?_cons_succ, List.set_cons_zero, List.set_cons_succ, List.length_cons, List.length_nil, if_true_, if_false_, if_T_, if_F_, Bool.not_true, Bool.not_false, Nat.reduceAdd, Nat.reduceSub, Nat.reduceLeDiff, Int.reduceSub, Int.reduceAdd, ge_iff_le, List.map_cons, List.map_nil, List.cons_append, List.nil_append, isi_tup h.ty]
      rfl
    · have hl0 : decide ((ts.length : Int) = 0) = false := by
        have : ts.length ≠ 0 := fun e => h0 (List.length_eq_zero_iff.mp e)
        simp; omega
      refine gcF_app (G := [.lst ([] ++ (ts.filter fun u => !isKind m u).map id)]) ?_ rfl
      have hl : loopC (seqChk (.tup ts) ts) (gN 2) (dNotB (dB (dCall d__law_is_kind (dConsA (dV 0) (dConsA (dV 2) dNilA))))) (dV 2) [some (.str m), some (.tup ts), none] M.length ts (M ++ [.lst []]) = .ok (.ob M.length) (M ++ [.lst ([] ++ (ts.filter fun u => !isKind m u).map id)]) := by
        refine loopC_pure (fun u => [some (.str m), some (.tup ts), some u]) _ _ _ _ (fun _ => chk_tup) (fun u hu acc => ?_) (le_line hz)
        refine ⟨rfl, ?_, fun _ => rfl⟩
        simp only [bind_ok, bind_ex, bind_no, toS_ok, toS_ex, toS_no, sb_nx, sb_rt, sb_bk, sb_ct, sb_ex, sb_no, tu_nx, tu_ct, tu_bk, tu_rt, tu_ex, on_nx, on_ex, dV_, dC_, dBin_, dUn_, dNilA_, dConsA_, dTup_, dLst_, asB_bl, dB_, dAndB_, dOrB_, dNotB_, dAnd_, dOr_, dNot_, dIf_, dCallB_, dCall_, dMeth_, dFld_, dSetF_, dMake_, dNoPart_, asI_int, dPart_, dSlice_, dDic_, dChain_, dSeq_, dNil_, dPass_, dBreak_, dCont_, dExpr_, dRet_, dRetN_, dSet_, dIfS_, gN_, gsN_, gsC_, gT_, gSub_, dAsg_, dRaise_, dRaiseA_, dFor_, wSeq_, wEn_, wRng_, dLc_, dYes_, wipeT_nil, wipeT_cons, endF_nx, endF_rt, endF_ex, chk_str, chk_tup, items_str, items_tup, items_ob, seq_tup, len_tup, add_int, sub_int, lt_int', le_int', gt_int', ge_int', lt_str', gt_str', eq_int', eq_str', ne_int', ne_str', neg_int, int_int, int_bl, isnot_non, is_non, dFn1, dFn2, dFn3, dFn4, dFn5, List.replicate_succ, List.replicate_zero, List.getElem?_cons_zero, List.getElem?_cons_succ, List.set_cons_zero, List.set_cons_succ, List.length_cons, List.length_nil, if_true_, if_false_, if_T_, if_F_, Bool.not_true, Bool.not_false, Nat.reduceAdd, Nat.reduceSub, Nat.reduceLeDiff, Int.reduceSub, Int.reduceAdd, ge_iff_le, List.map_cons, List.map_nil, List.cons_append, List.nil_append, P__law_is_kind (hk u hu).app]
      simp only [b__law_is_lot, bind_ok, bind_ex, bind_no, toS_ok, toS_ex, toS_no, sb_nx, sb_rt, sb_bk, sb_ct, sb_ex, sb_no, tu_nx, tu_ct, tu_bk, tu_rt, tu_ex, on_nx, on_ex, dV_, dC_, dBin_, dUn_, dNilA_, dConsA_, dTup_, dLst_, asB_bl, dB_, dAndB_, dOrB_, dNotB_, dAnd_, dOr_, dNot_, dIf_, dCallB_, dCall_, dMeth_, dFld_, dSetF_, dMake_, dNoPart_, asI_int, dPart_, dSlice_, dDic_, dChain_, dSeq_, dNil_, dPass_, dBreak_, dCont_, dExpr_, dRet_, dRetN_, dSet_, dIfS_, gN_, gsN_, gsC_, gT_, gSub_, dAsg_, dRaise_, dRaiseA_, dFor_, wSeq_, wEn_, wRng_, dLc_, dYes_, wipeT_nil, wipeT_cons, endF_nx, endF_rt, endF_ex, chk_str, chk_tup, items_str, items_tup, items_ob, seq_tup, len_tup, add_int, sub_int, lt_int', le_int', gt_int', ge_int', lt_str', gt_str', eq_int', eq_str', ne_int', ne_str', neg_int, int_int, int_bl, isnot_non, is_non, dFn1, dFn2, dFn3, dFn4, dFn5, List.replicate_succ, List.replicate_zero, List.getElem?_cons_zero, List.getElem?_cons_succ, List.set_cons_zero, List.set_cons_succ, List.length_cons, List.length_nil, if_true_, if_false_, if_T_, if_F_, Bool.not_true, Bool.not_false, Nat.reduceAdd, Nat.reduceSub, Nat.reduceLeDiff, Int.reduceSub, Int.reduceAdd, ge_iff_le, List.map_cons, List.map_nil, List.cons_append, List.nil_append, isi_tup h.ty, hl0, hl, len_ob List.getElem?_concat_length, List.map_id, all_filter]
      simp only [isLot]
      have h0' : decide (ts ≠ []) = true := by simpa using h0
      rw [h0']
      cases e' : ts.all (isKind m) with
      | true => simp only [bind_ok, bind_ex, bind_no, toS_ok, toS_ex, toS_no, sb_nx, sb_rt, sb_bk, sb_ct, sb_ex, sb_no, tu_nx, tu_ct, tu_bk, tu_rt, tu_ex, on_nx, on_ex, dV_, dC_, dBin_, dUn_, dNilA_, dConsA_, dTup_, dLst_, asB_bl, dB_, dAndB_, dOrB_, dNotB_, dAnd_, dOr_, dNot_, dIf_, dCallB_, dCall_, dMeth_, dFld_, dSetF_, dMake_, dNoPart_, asI_int, dPart_, dSlice_, dDic_, dChain_, dSeq_, dNil_, dPass_, dBreak_, dCont_, dExpr_, dRet_, dRetN_, dSet_, dIfS_, gN_, gsN_, gsC_, gT_, gSub_, dAsg_, dRaise_, dRaiseA_, dFor_, wSeq_, wEn_, wRng_, dLc_, dYes_, wipeT_nil, wipeT_cons, endF_nx, endF_rt, endF_ex, chk_str, chk_tup, items_str, items_tup, items_ob, seq_tup, len_tup, add_int, sub_int, lt_int', le_int', gt_int', ge_int', lt_str', gt_str', eq_int', eq_str', ne_int', ne_str', neg_int, int_int, int_bl, isnot_non, is_non, dFn1, dFn2, dFn3, dFn4, dFn5, List.replicate_succ, List.replicate_zero, List.getElem?_cons_zero, List.getElem?_cons_succ, List.set_cons_zero, List.set_cons_succ, List.length_cons, List.length_nil, if_true_, if_false_, if_T_, if_F_, Bool.not_true, Bool.not_false, Nat.reduceAdd, Nat.reduceSub, Nat.reduceLeDiff, Int.reduceSub, Int.reduceAdd, ge_iff_le, List.map_cons, List.map_nil, List.cons_append, List.nil_append, P__law_is_up (kinds_row e' hz), Bool.true_and]
      | false => rfl
  | _ =>
    refine gcF_same ?_
    simp only [b__law_is_lot, bind_ok, bind_ex, bind_no, toS_ok, toS_ex, toS_no, sb_nx, sb_rt, sb_bk, sb_ct, sb_ex, sb_no, tu_nx, tu_ct, tu_bk, tu_rt, tu_ex, on_nx, on_ex, dV_, dC_, dBin_, dUn_, dNilA_, dConsA_, dTup_, dLst_, asB_bl, dB_, dAndB_, dOrB_, dNotB_, dAnd_, dOr_, dNot_, dIf_, dCallB_, dCall_, dMeth_, dFld_, dSetF_, dMake_, dNoPart_, asI_int, dPart_, dSlice_, dDic_, dChain_, dSeq_, dNil_, dPass_, dBreak_, dCont_, dExpr_, dRet_, dRetN_, dSet_, dIfS_, gN_, gsN_, gsC_, gT_, gSub_, dAsg_, dRaise_, dRaiseA_, dFor_, wSeq_, wEn_, wRng_, dLc_, dYes_, wipeT_nil, wipeT_cons, endF_nx, endF_rt, endF_ex, chk_str, chk_tup, items_str, items_tup, items_ob, seq_tup, len_tup, add_int, sub_int, lt_int', le_int', gt_int', ge_int', lt_str', gt_str', eq_int', eq_str', ne_int', ne_str', neg_int, int_int, int_bl, isnot_non, is_non, dFn1, dFn2, dFn3, dFn4, dFn5, List.replicate_succ, List.replicate_zero, List.getElem?_cons_zero, List.getElem?_cons_succ, List.set_cons_zero, List.set_cons_succ, List.length_cons, List.length_nil, if_true_, if_false_, if_T_, if_F_, Bool.not_true, Bool.not_false, Nat.reduceAdd, Nat.reduceSub, Nat.reduceLeDiff, Int.reduceSub, Int.reduceAdd, ge_iff_le, List.map_cons, List.map_nil, List.cons_append, List.nil_append, isi_tup h.ty]
    rfl
theorem P_is_integer {t : T} {M : Mem} (h : tyOk cs t M) : d_is_integer [t] M = .ok (.bl (match t with | .int _ => true | _ => false)) M := by
  refine gcF_same ?_
  simp only [b_is_integer, bind_ok, bind_ex, bind_no, toS_ok, toS_ex, toS_no, sb_nx, sb_rt, sb_bk, sb_ct, sb_ex, sb_no, tu_nx, tu_ct, tu_bk, tu_rt, tu_ex, on_nx, on_ex, dV_, dC_, dBin_, dUn_, dNilA_, dConsA_, dTup_, dLst_, asB_bl, dB_, dAndB_, dOrB_, dNotB_, dAnd_, dOr_, dNot_, dIf_, dCallB_, dCall_, dMeth_, dFld_, dSetF_, dMake_, dNoPart_, asI_int, dPart_, dSlice_, dDic_, dChain_, dSeq_, dNil_, dPass_, dBreak_, dCont_, dExpr_, dRet_, dRetN_, dSet_, dIfS_, gN_, gsN_, gsC_, gT_, gSub_, dAsg_, dRaise_, dRaiseA_, dFor_, wSeq_, wEn_, wRng_, dLc_, dYes_, wipeT_nil, wipeT_cons, endF_nx, endF_rt, endF_ex, chk_str, chk_tup, items_str, items_tup, items_ob, seq_tup, len_tup, add_int, sub_int, lt_int', le_int', gt_int', ge_int', lt_str', gt_str', eq_int', eq_str', ne_int', ne_str', neg_int, int_int, int_bl, isnot_non, is_non, dFn1, dFn2, dFn3, dFn4, dFn5, List.replicate_succ, List.replicate_zero, List.getElem?_cons_zero, List.getElem?_cons_succ, List.set_cons_zero, List.set_cons_succ, List.length_cons, List.length_nil, if_true_, if_false_, if_T_, if_F_, Bool.not_true, Bool.not_false, Nat.reduceAdd, Nat.reduceSub, Nat.reduceLeDiff, Int.reduceSub, Int.reduceAdd, ge_iff_le, List.map_cons, List.map_nil, List.cons_append, List.nil_append, isi_int h, isi_bool h]
  cases t <;> rfl
theorem P_is_within {t : T} {M : Mem} {lo hi : Int} (h : tyOk cs t M) : d_is_within [t, .int lo, .int hi] M = .ok (.bl (isWithin lo hi t)) M := by
  refine gcF_same ?_
  simp only [b_is_within, bind_ok, bind_ex, bind_no, toS_ok, toS_ex, toS_no, sb_nx, sb_rt, sb_bk, sb_ct, sb_ex, sb_no, tu_nx, tu_ct, tu_bk, tu_rt, tu_ex, on_nx, on_ex, dV_, dC_, dBin_, dUn_, dNilA_, dConsA_, dTup_, dLst_, asB_bl, dB_, dAndB_, dOrB_, dNotB_, dAnd_, dOr_, dNot_, dIf_, dCallB_, dCall_, dMeth_, dFld_, dSetF_, dMake_, dNoPart_, asI_int, dPart_, dSlice_, dDic_, dChain_, dSeq_, dNil_, dPass_, dBreak_, dCont_, dExpr_, dRet_, dRetN_, dSet_, dIfS_, gN_, gsN_, gsC_, gT_, gSub_, dAsg_, dRaise_, dRaiseA_, dFor_, wSeq_, wEn_, wRng_, dLc_, dYes_, wipeT_nil, wipeT_cons, endF_nx, endF_rt, endF_ex, chk_str, chk_tup, items_str, items_tup, items_ob, seq_tup, len_tup, add_int, sub_int, lt_int', le_int', gt_int', ge_int', lt_str', gt_str', eq_int', eq_str', ne_int', ne_str', neg_int, int_int, int_bl, isnot_non, is_non, dFn1, dFn2, dFn3, dFn4, dFn5, List.replicate_succ, List.replicate_zero, List.getElem?_cons_zero, List.getElem?_cons_succ, List.set_cons_zero, List.set_cons_succ, List.length_cons, List.length_nil, if_true_, if_false_, if_T_, if_F_, Bool.not_true, Bool.not_false, Nat.reduceAdd, Nat.reduceSub, Nat.reduceLeDiff, Int.reduceSub, Int.reduceAdd, ge_iff_le, List.map_cons, List.map_nil, List.cons_append, List.nil_append, P_is_integer h]
  cases t with
  | int i =>
    simp only [bind_ok, bind_ex, bind_no, toS_ok, toS_ex, toS_no, sb_nx, sb_rt, sb_bk, sb_ct, sb_ex, sb_no, tu_nx, tu_ct, tu_bk, tu_rt, tu_ex, on_nx, on_ex, dV_, dC_, dBin_, dUn_, dNilA_, dConsA_, dTup_, dLst_, asB_bl, dB_, dAndB_, dOrB_, dNotB_, dAnd_, dOr_, dNot_, dIf_, dCallB_, dCall_, dMeth_, dFld_, dSetF_, dMake_, dNoPart_, asI_int, dPart_, dSlice_, dDic_, dChain_, dSeq_, dNil_, dPass_, dBreak_, dCont_, dExpr_, dRet_, dRetN_, dSet_, dIfS_, gN_, gsN_, gsC_, gT_, gSub_, dAsg_, dRaise_, dRaiseA_, dFor_, wSeq_, wEn_, wRng_, dLc_, dYes_, wipeT_nil, wipeT_cons, endF_nx, endF_rt, endF_ex, chk_str, chk_tup, items_str, items_tup, items_ob, seq_tup, len_tup, add_int, sub_int, lt_int', le_int', gt_int', ge_int', lt_str', gt_str', eq_int', eq_str', ne_int', ne_str', neg_int, int_int, int_bl, isnot_non, is_non, dFn1, dFn2, dFn3, dFn4, dFn5, List.replicate_succ, List.replicate_zero, List.getElem?_cons_zero, List.getElem?_cons_succ, List.set_cons_zero, List.set_cons_succ, List.length_cons, List.length_nil, if_true_, if_false_, if_T_, if_F_, Bool.not_true, Bool.not_false, Nat.reduceAdd, Nat.reduceSub, Nat.reduceLeDiff, Int.reduceSub, Int.reduceAdd, ge_iff_le, List.map_cons, List.map_nil, List.cons_append, List.nil_append, isWithin]
    by_cases q : lo ≤ i
    · simp [q]
    · simp [q]
  | _ => rfl
theorem P__law_is_int {t : T} {M : Mem} {lo hi : Int} (h : tyOk cs t M) : d__law_is_int [t, .int lo, .int hi] M = .ok (.bl (isWithin lo hi t)) M := by
  refine gcF_same ?_
  simp only [b__law_is_int, bind_ok, bind_ex, bind_no, toS_ok, toS_ex, toS_no, sb_nx, sb_rt, sb_bk, sb_ct, sb_ex, sb_no, tu_nx, tu_ct, tu_bk, tu_rt, tu_ex, on_nx, on_ex, dV_, dC_, dBin_, dUn_, dNilA_, dConsA_, dTup_, dLst_, asB_bl, dB_, dAndB_, dOrB_, dNotB_, dAnd_, dOr_, dNot_, dIf_, dCallB_, dCall_, dMeth_, dFld_, dSetF_, dMake_, dNoPart_, asI_int, dPart_, dSlice_, dDic_, dChain_, dSeq_, dNil_, dPass_, dBreak_, dCont_, dExpr_, dRet_, dRetN_, dSet_, dIfS_, gN_, gsN_, gsC_, gT_, gSub_, dAsg_, dRaise_, dRaiseA_, dFor_, wSeq_, wEn_, wRng_, dLc_, dYes_, wipeT_nil, wipeT_cons, endF_nx, endF_rt, endF_ex, chk_str, chk_tup, items_str, items_tup, items_ob, seq_tup, len_tup, add_int, sub_int, lt_int', le_int', gt_int', ge_int', lt_str', gt_str', eq_int', eq_str', ne_int', ne_str', neg_int, int_int, int_bl, isnot_non, is_non, dFn1, dFn2, dFn3, dFn4, dFn5, List.replicate_succ, List.replicate_zero, List.getElem?_cons_zero, List.getElem?_cons_succ, List.set_cons_zero, List.set_cons_succ, List.length_cons, List.length_nil, if_true_, if_false_, if_T_, if_F_, Bool.not_true, Bool.not_false, Nat.reduceAdd, Nat.reduceSub, Nat.reduceLeDiff, Int.reduceSub, Int.reduceAdd, ge_iff_le, List.map_cons, List.map_nil, List.cons_append, List.nil_append, isi_int h, isi_bool h]
  cases t with
  | int i =>
    simp only [bind_ok, bind_ex, bind_no, toS_ok, toS_ex, toS_no, sb_nx, sb_rt, sb_bk, sb_ct, sb_ex, sb_no, tu_nx, tu_ct, tu_bk, tu_rt, tu_ex, on_nx, on_ex, dV_, dC_, dBin_, dUn_, dNilA_, dConsA_, dTup_, dLst_, asB_bl, dB_, dAndB_, dOrB_, dNotB_, dAnd_, dOr_, dNot_, dIf_, dCallB_, dCall_, dMeth_, dFld_, dSetF_, dMake_, dNoPart_, asI_int, dPart_, dSlice_, dDic_, dChain_, dSeq_, dNil_, dPass_, dBreak_, dCont_, dExpr_, dRet_, dRetN_, dSet_, dIfS_, gN_, gsN_, gsC_, gT_, gSub_, dAsg_, dRaise_, dRaiseA_, dFor_, wSeq_, wEn_, wRng_, dLc_, dYes_, wipeT_nil, wipeT_cons, endF_nx, endF_rt, endF_ex, chk_str, chk_tup, items_str, items_tup, items_ob, seq_tup, len_tup, add_int, sub_int, lt_int', le_int', gt_int', ge_int', lt_str', gt_str', eq_int', eq_str', ne_int', ne_str', neg_int, int_int, int_bl, isnot_non, is_non, dFn1, dFn2, dFn3, dFn4, dFn5, List.replicate_succ, List.replicate_zero, List.getElem?_cons_zero, List.getElem?_cons_succ, List.set_cons_zero, List.set_cons_succ, List.length_cons, List.length_nil, if_true_, if_false_, if_T_, if_F_, Bool.not_true, Bool.not_false, Nat.reduceAdd, Nat.reduceSub, Nat.reduceLeDiff, Int.reduceSub, Int.reduceAdd, ge_iff_le, List.map_cons, List.map_nil, List.cons_append, List.nil_append, isWithin]
    by_cases q : lo ≤ i
    · simp [q]
    · simp [q]
  | _ => rfl
end HB

set_option maxHeartbeats 1000000
namespace HB
open PySem DN
/-! ### the tape -/
theorem P__law_tape {s : Nat} {ns : List Int} {M : Mem} (h : M[s]? = some (.ro (ns.map .int))) (hl : ns.length ≤ 1000) : ∃ M', d__law_tape [.ob s] M = .ok (.ob (M.length + 1)) M' ∧ Tape M' (M.length + 1) ∧ M' = M ++ [.lst (ns.map .int), tc M.length 0 0 1 0] := by
  have e : dFn 1 1 b__law_tape [.ob s] M = .ok (.ob (M.length + 1)) (M ++ [.lst (ns.map .int), tc M.length 0 0 1 0]) := by
    have hs : listT [.ob s] M = .ok (.ob M.length) (M ++ [.lst (ns.map .int)]) := by simp [listT, seqT, h]
    simp only [b__law_tape, bind_ok, bind_ex, bind_no, toS_ok, toS_ex, toS_no, sb_nx, sb_rt, sb_bk, sb_ct, sb_ex, sb_no, tu_nx, tu_ct, tu_bk, tu_rt, tu_ex, on_nx, on_ex, dV_, dC_, dBin_, dUn_, dNilA_, dConsA_, dTup_, dLst_, asB_bl, dB_, dAndB_, dOrB_, dNotB_, dAnd_, dOr_, dNot_, dIf_, dCallB_, dCall_, dMeth_, dFld_, dSetF_, dMake_, dNoPart_, asI_int, dPart_, dSlice_, dDic_, dChain_, dSeq_, dNil_, dPass_, dBreak_, dCont_, dExpr_, dRet_, dRetN_, dSet_, dIfS_, gN_, gsN_, gsC_, gT_, gSub_, dAsg_, dRaise_, dRaiseA_, dFor_, wSeq_, wEn_, wRng_, dLc_, dYes_, wipeT_nil, wipeT_cons, endF_nx, endF_rt, endF_ex, chk_str, chk_tup, items_str, items_tup, items_ob, seq_tup, len_tup, add_int, sub_int, lt_int', le_int', gt_int', ge_int', lt_str', gt_str', eq_int', eq_str', ne_int', ne_str', neg_int, int_int, int_bl, isnot_non, is_non, dFn1, dFn2, dFn3, dFn4, dFn5, List.replicate_succ, List.replicate_zero, List.getElem?_cons_zero, List.getElem?_cons_succ, List.set_cons_zero, List.set_cons_succ, List.length_cons, List.length_nil, if_true_, if_false_, if_T_, if_F_, Bool.not_true, Bool.not_false, Nat.reduceAdd, Nat.reduceSub, Nat.reduceLeDiff, Int.reduceSub, Int.reduceAdd, ge_iff_le, List.map_cons, List.map_nil, List.cons_append, List.nil_append, hs, if_pos (le_line' (n := 5) (by decide))]
    simp [tc]
  refine ⟨_, ?_, ?_, rfl⟩
  · unfold d__law_tape gcF
    rw [e]
    simp [gcR, clT]
  · refine ⟨M.length, ns, 0, 0, 1, 0, ?_, ?_, by omega, by omega, hl⟩
    · simp
    · simp
theorem P__law_pick {p : Nat} {m : Int} {M : Mem} (h : Tape M p) (hm : 0 < m ∧ m < 1000000) : ∃ (d : Int) (M' : Mem), d__law_pick [.ob p, .int m] M = .ok (.int d) M' ∧ TStep M M' p ∧ M'.length = M.length ∧ 0 ≤ d ∧ d < m := by
  have hp := h.lt
  obtain ⟨q, ns, i, b, mix, cnt, e1, e2, hq, hi, hl⟩ := h
  have self : ∀ c, (M.set p c)[p]? = some c := fun c => List.getElem?_set_self hp
  have oth : ∀ c, (M.set p c)[q]? = some (.lst (ns.map .int)) := fun c => look_set e2 (Ne.symm hq)
  have hql : q < M.length := lt_of_some e2
  have step : ∀ i' b' mix' cnt', 0 ≤ i' → TStep M (M.set p (tc q i' b' mix' cnt')) p := fun i' b' mix' cnt' h0 => ⟨⟨q, ns, i', b', mix', cnt', self _, oth _, hq, h0, hl⟩, Keep.set (by simp), fun q2 _ _ _ _ e4 => by
    rw [e1] at e4
    have e5 := Option.some.inj e4
    simp only [tc, C.lst.injEq, List.cons.injEq, T.ob.injEq] at e5
    rw [← e5.1]
    exact ⟨_, _, _, _, self _⟩⟩
  have ok : ∀ {d : Int} {c : C}, dFn 2 5 b__law_pick [.ob p, .int m] M = .ok (.int d) (M.set p c) → d__law_pick [.ob p, .int m] M = .ok (.int d) (M.set p c) := fun e => gcF_len e (by simp)
  have hmod : ∀ z : Int, 0 ≤ z % m ∧ z % m < m := fun z => ⟨Int.emod_nonneg _ (by omega), Int.emod_lt_of_pos _ hm.1⟩
  by_cases hb : 1 < b
  · refine ⟨b % m, _, ok (c := tc q i (b / m) mix cnt) ?_, step _ _ _ _ hi, by simp, hmod b⟩
    simp only [b__law_pick, bind_ok, bind_ex, bind_no, toS_ok, toS_ex, toS_no, sb_nx, sb_rt, sb_bk, sb_ct, sb_ex, sb_no, tu_nx, tu_ct, tu_bk, tu_rt, tu_ex, on_nx, on_ex, dV_, dC_, dBin_, dUn_, dNilA_, dConsA_, dTup_, dLst_, asB_bl, dB_, dAndB_, dOrB_, dNotB_, dAnd_, dOr_, dNot_, dIf_, dCallB_, dCall_, dMeth_, dFld_, dSetF_, dMake_, dNoPart_, asI_int, dPart_, dSlice_, dDic_, dChain_, dSeq_, dNil_, dPass_, dBreak_, dCont_, dExpr_, dRet_, dRetN_, dSet_, dIfS_, gN_, gsN_, gsC_, gT_, gSub_, dAsg_, dRaise_, dRaiseA_, dFor_, wSeq_, wEn_, wRng_, dLc_, dYes_, wipeT_nil, wipeT_cons, endF_nx, endF_rt, endF_ex, chk_str, chk_tup, items_str, items_tup, items_ob, seq_tup, len_tup, add_int, sub_int, lt_int', le_int', gt_int', ge_int', lt_str', gt_str', eq_int', eq_str', ne_int', ne_str', neg_int, int_int, int_bl, isnot_non, is_non, dFn1, dFn2, dFn3, dFn4, dFn5, List.replicate_succ, List.replicate_zero, List.getElem?_cons_zero, List.getElem?_cons_succ, List.set_cons_zero, List.set_cons_succ, List.length_cons, List.length_nil, if_true_, if_false_, if_T_, if_F_, Bool.not_true, Bool.not_false, Nat.reduceAdd, Nat.reduceSub, Nat.reduceLeDiff, Int.reduceSub, Int.reduceAdd, ge_iff_le, List.map_cons, List.map_nil, List.cons_append, List.nil_append, tix2 e1, decide_eq_true hb, mod_ok hm.1, div_ok ⟨hm.1, by omega⟩, tset2 e1]
  · have hb' : decide (1 < b) = false := decide_eq_false hb
    have tail : ∀ (cell i' : Int), 0 ≤ i' → ∀ ρ4, ∃ (d : Int) (c : C), endF ((dSeq (dIfS (dB (dBin geT (dV 2) (dBin powT (dC (.int 10)) (dC (.int 18))))) (dSeq (dAsg (dBin divT (dV 2) (dV 1)) (gSub' (dV 0) (dC (.int 2)) setItemT))
 (dRet (dBin modT (dCallB intT (dConsA (dV 2) dNilA)) (dV 1))))
 dNil)
 (dSeq (dSet 3 (dBin modT (dCallB intT (dConsA (dBin addT (dBin addT (dBin mulT (dBin ixT (dV 0) (dC (.int 3))) (dC (.int 48271))) (dBin modT (dCallB intT (dConsA (dV 2) dNilA)) (dC (.int 2147483629)))) (dBin mulT (dBin ixT (dV 0) (dC (.int 4))) (dC (.int 69621)))) dNilA)) (dC (.int 2147483647))))
 (dSeq (dSet 3 (dBin modT (dCallB intT (dConsA (dBin mulT (dV 3) (dBin addT (dBin divT (dV 3) (dC (.int 1009))) (dC (.int 40692)))) dNilA)) (dC (.int 2147483399))))
 (dSeq (dAsg (dV 3) (gSub' (dV 0) (dC (.int 3)) setItemT))
 (dRet (dBin modT (dCallB intT (dConsA (dBin divT (dV 3) (dC (.int 16))) dNilA)) (dV 1))))))) [some (.ob p), some (.int m), some (.int cell), none, ρ4] (M.set p (tc q i' b mix (cnt + 1)))) = .ok (.int d) (M.set p c) ∧ TStep M (M.set p c) p ∧ 0 ≤ d ∧ d < m := by
      intro cell i' hi' ρ4
      by_cases hc : (1000000000000000000 : Int) ≤ cell
      · refine ⟨cell % m, tc q i' (cell / m) mix (cnt + 1), ?_, step _ _ _ _ hi', hmod cell⟩
        simp only [bind_ok, bind_ex, bind_no, toS_ok, toS_ex, toS_no, sb_nx, sb_rt, sb_bk, sb_ct, sb_ex, sb_no, tu_nx, tu_ct, tu_bk, tu_rt, tu_ex, on_nx, on_ex, dV_, dC_, dBin_, dUn_, dNilA_, dConsA_, dTup_, dLst_, asB_bl, dB_, dAndB_, dOrB_, dNotB_, dAnd_, dOr_, dNot_, dIf_, dCallB_, dCall_, dMeth_, dFld_, dSetF_, dMake_, dNoPart_, asI_int, dPart_, dSlice_, dDic_, dChain_, dSeq_, dNil_, dPass_, dBreak_, dCont_, dExpr_, dRet_, dRetN_, dSet_, dIfS_, gN_, gsN_, gsC_, gT_, gSub_, dAsg_, dRaise_, dRaiseA_, dFor_, wSeq_, wEn_, wRng_, dLc_, dYes_, wipeT_nil, wipeT_cons, endF_nx, endF_rt, endF_ex, chk_str, chk_tup, items_str, items_tup, items_ob, seq_tup, len_tup, add_int, sub_int, lt_int', le_int', gt_int', ge_int', lt_str', gt_str', eq_int', eq_str', ne_int', ne_str', neg_int, int_int, int_bl, isnot_non, is_non, dFn1, dFn2, dFn3, dFn4, dFn5, List.replicate_succ, List.replicate_zero, List.getElem?_cons_zero, List.getElem?_cons_succ, List.set_cons_zero, List.set_cons_succ, List.length_cons, List.length_nil, if_true_, if_false_, if_T_, if_F_, Bool.not_true, Bool.not_false, Nat.reduceAdd, Nat.reduceSub, Nat.reduceLeDiff, Int.reduceSub, Int.reduceAdd, ge_iff_le, List.map_cons, List.map_nil, List.cons_append, List.nil_append, pow_18, decide_eq_true hc, div_ok ⟨hm.1, show m < 1073741824 by omega⟩, tset2 (self _), List.set_set, mod_ok hm.1]
      · have hc' : decide ((1000000000000000000 : Int) ≤ cell) = false := decide_eq_false hc
        generalize hx : (mix * 48271 + cell % 2147483629 + (cnt + 1) * 69621) % 2147483647 = x
        have hx0 : 0 ≤ x ∧ x < 2147483647 := by rw [← hx]; exact ⟨Int.emod_nonneg _ (by decide), Int.emod_lt_of_pos _ (by decide)⟩
        refine ⟨((x * (x / 1009 + 40692)) % 2147483399 / 16) % m, tc q i' b ((x * (x / 1009 + 40692)) % 2147483399) (cnt + 1), ?_, step _ _ _ _ hi', hmod _⟩
        simp only [bind_ok, bind_ex, bind_no, toS_ok, toS_ex, toS_no, sb_nx, sb_rt, sb_bk, sb_ct, sb_ex, sb_no, tu_nx, tu_ct, tu_bk, tu_rt, tu_ex, on_nx, on_ex, dV_, dC_, dBin_, dUn_, dNilA_, dConsA_, dTup_, dLst_, asB_bl, dB_, dAndB_, dOrB_, dNotB_, dAnd_, dOr_, dNot_, dIf_, dCallB_, dCall_, dMeth_, dFld_, dSetF_, dMake_, dNoPart_, asI_int, dPart_, dSlice_, dDic_, dChain_, dSeq_, dNil_, dPass_, dBreak_, dCont_, dExpr_, dRet_, dRetN_, dSet_, dIfS_, gN_, gsN_, gsC_, gT_, gSub_, dAsg_, dRaise_, dRaiseA_, dFor_, wSeq_, wEn_, wRng_, dLc_, dYes_, wipeT_nil, wipeT_cons, endF_nx, endF_rt, endF_ex, chk_str, chk_tup, items_str, items_tup, items_ob, seq_tup, len_tup, add_int, sub_int, lt_int', le_int', gt_int', ge_int', lt_str', gt_str', eq_int', eq_str', ne_int', ne_str', neg_int, int_int, int_bl, isnot_non, is_non, dFn1, dFn2, dFn3, dFn4, dFn5, List.replicate_succ, List.replicate_zero, List.getElem?_cons_zero, List.getElem?_cons_succ, List.set_cons_zero, List.set_cons_succ, List.length_cons, List.length_nil, if_true_, if_false_, if_T_, if_F_, Bool.not_true, Bool.not_false, Nat.reduceAdd, Nat.reduceSub, Nat.reduceLeDiff, Int.reduceSub, Int.reduceAdd, ge_iff_le, List.map_cons, List.map_nil, List.cons_append, List.nil_append, pow_18, hc', tix3 (self _), tix4 (self _), mul_r (M := M.set p (tc q i' b mix (cnt + 1))) (show -1000000000000 ≤ (48271 : Int) ∧ (48271 : Int) ≤ 1000000000000 by omega),
          mul_r (M := M.set p (tc q i' b mix (cnt + 1))) (show -1000000000000 ≤ (69621 : Int) ∧ (69621 : Int) ≤ 1000000000000 by omega), mod_ok (show (0 : Int) < 2147483629 by omega), mod_ok (show (0 : Int) < 2147483647 by omega), hx,
          div_ok (show (0 : Int) < 1009 ∧ (1009 : Int) < 1073741824 by omega), mul_l (i := x) (by omega), mod_ok (show (0 : Int) < 2147483399 by omega), tset3 (self _), List.set_set, div_ok (show (0 : Int) < 16 ∧ (16 : Int) < 1073741824 by omega), mod_ok hm.1]
    have head : ∀ (cell i' : Int), (∀ M' : Mem, M' = M.set p (tc q i b mix (cnt + 1)) → (dIfS (dB (dBin ltT (dBin ixT (dV 0) (dC (.int 1))) (dCallB lenT (dConsA (dBin ixT (dV 0) (dC (.int 0))) dNilA)))) (dSeq (dSet 2 (dBin ixT (dBin ixT (dV 0) (dC (.int 0))) (dBin ixT (dV 0) (dC (.int 1)))))
 (dAsg (dBin addT (dBin ixT (dV 0) (dC (.int 1))) (dC (.int 1))) (gSub' (dV 0) (dC (.int 1)) setItemT)))
 dNil) [some (.ob p), some (.int m), some (.int 0), none, none] M' = .nx [some (.ob p), some (.int m), some (.int cell), none, none] (M.set p (tc q i' b mix (cnt + 1)))) → 0 ≤ i' → ∃ (d : Int) (M' : Mem), d__law_pick [.ob p, .int m] M = .ok (.int d) M' ∧ TStep M M' p ∧ M'.length = M.length ∧ 0 ≤ d ∧ d < m := by
      intro cell i' hh hi'
      obtain ⟨d, c, e, st, hd⟩ := tail cell i' hi' none
      refine ⟨d, M.set p c, ok ?_, st, by simp, hd⟩
      have hh' := hh _ rfl
      rw [show dFn 2 5 b__law_pick [.ob p, .int m] M = endF (b__law_pick [some (.ob p), some (.int m), none, none, none] M) from rfl]
      rw [b__law_pick]
      simp only [dSeq_]
      simp only [bind_ok, bind_ex, bind_no, toS_ok, toS_ex, toS_no, sb_nx, sb_rt, sb_bk, sb_ct, sb_ex, sb_no, tu_nx, tu_ct, tu_bk, tu_rt, tu_ex, on_nx, on_ex, dV_, dC_, dBin_, dUn_, dNilA_, dConsA_, dTup_, dLst_, asB_bl, dB_, dAndB_, dOrB_, dNotB_, dAnd_, dOr_, dNot_, dIf_, dCallB_, dCall_, dMeth_, dFld_, dSetF_, dMake_, dNoPart_, asI_int, dPart_, dSlice_, dDic_, dChain_, dSeq_, dNil_, dPass_, dBreak_, dCont_, dExpr_, dRet_, dRetN_, dSet_, dIfS_, gN_, gsN_, gsC_, gT_, gSub_, dAsg_, dRaise_, dRaiseA_, dFor_, wSeq_, wEn_, wRng_, dLc_, dYes_, wipeT_nil, wipeT_cons, endF_nx, endF_rt, endF_ex, chk_str, chk_tup, items_str, items_tup, items_ob, seq_tup, len_tup, add_int, sub_int, lt_int', le_int', gt_int', ge_int', lt_str', gt_str', eq_int', eq_str', ne_int', ne_str', neg_int, int_int, int_bl, isnot_non, is_non, dFn1, dFn2, dFn3, dFn4, dFn5, List.replicate_succ, List.replicate_zero, List.getElem?_cons_zero, List.getElem?_cons_succ, List.set_cons_zero, List.set_cons_succ, List.length_cons, List.length_nil, if_true_, if_false_, if_T_, if_F_, Bool.not_true, Bool.not_false, Nat.reduceAdd, Nat.reduceSub, Nat.reduceLeDiff, Int.reduceSub, Int.reduceAdd, ge_iff_le, List.map_cons, List.map_nil, List.cons_append, List.nil_append, tix2 e1, hb', tix4 e1, tset4 e1]
      simp only [bind_ok, bind_ex, bind_no, toS_ok, toS_ex, toS_no, sb_nx, sb_rt, sb_bk, sb_ct, sb_ex, sb_no, tu_nx, tu_ct, tu_bk, tu_rt, tu_ex, on_nx, on_ex, dV_, dC_, dBin_, dUn_, dNilA_, dConsA_, dTup_, dLst_, asB_bl, dB_, dAndB_, dOrB_, dNotB_, dAnd_, dOr_, dNot_, dIf_, dCallB_, dCall_, dMeth_, dFld_, dSetF_, dMake_, dNoPart_, asI_int, dPart_, dSlice_, dDic_, dChain_, dSeq_, dNil_, dPass_, dBreak_, dCont_, dExpr_, dRet_, dRetN_, dSet_, dIfS_, gN_, gsN_, gsC_, gT_, gSub_, dAsg_, dRaise_, dRaiseA_, dFor_, wSeq_, wEn_, wRng_, dLc_, dYes_, wipeT_nil, wipeT_cons, endF_nx, endF_rt, endF_ex, chk_str, chk_tup, items_str, items_tup, items_ob, seq_tup, len_tup, add_int, sub_int, lt_int', le_int', gt_int', ge_int', lt_str', gt_str', eq_int', eq_str', ne_int', ne_str', neg_int, int_int, int_bl, isnot_non, is_non, dFn1, dFn2, dFn3, dFn4, dFn5, List.replicate_succ, List.replicate_zero, List.getElem?_cons_zero, List.getElem?_cons_succ, List.set_cons_zero, List.set_cons_succ, List.length_cons, List.length_nil, if_true_, if_false_, if_T_, if_F_, Bool.not_true, Bool.not_false, Nat.reduceAdd, Nat.reduceSub, Nat.reduceLeDiff, Int.reduceSub, Int.reduceAdd, ge_iff_le, List.map_cons, List.map_nil, List.cons_append, List.nil_append] at hh' e
      rw [hh']
      simp only [bind_ok, bind_ex, bind_no, toS_ok, toS_ex, toS_no, sb_nx, sb_rt, sb_bk, sb_ct, sb_ex, sb_no, tu_nx, tu_ct, tu_bk, tu_rt, tu_ex, on_nx, on_ex, dV_, dC_, dBin_, dUn_, dNilA_, dConsA_, dTup_, dLst_, asB_bl, dB_, dAndB_, dOrB_, dNotB_, dAnd_, dOr_, dNot_, dIf_, dCallB_, dCall_, dMeth_, dFld_, dSetF_, dMake_, dNoPart_, asI_int, dPart_, dSlice_, dDic_, dChain_, dSeq_, dNil_, dPass_, dBreak_, dCont_, dExpr_, dRet_, dRetN_, dSet_, dIfS_, gN_, gsN_, gsC_, gT_, gSub_, dAsg_, dRaise_, dRaiseA_, dFor_, wSeq_, wEn_, wRng_, dLc_, dYes_, wipeT_nil, wipeT_cons, endF_nx, endF_rt, endF_ex, chk_str, chk_tup, items_str, items_tup, items_ob, seq_tup, len_tup, add_int, sub_int, lt_int', le_int', gt_int', ge_int', lt_str', gt_str', eq_int', eq_str', ne_int', ne_str', neg_int, int_int, int_bl, isnot_non, is_non, dFn1, dFn2, dFn3, dFn4, dFn5, List.replicate_succ, List.replicate_zero, List.getElem?_cons_zero, List.getElem?_cons_succ, List.set_cons_zero, List.set_cons_succ, List.length_cons, List.length_nil, if_true_, if_false_, if_T_, if_F_, Bool.not_true, Bool.not_false, Nat.reduceAdd, Nat.reduceSub, Nat.reduceLeDiff, Int.reduceSub, Int.reduceAdd, ge_iff_le, List.map_cons, List.map_nil, List.cons_append, List.nil_append]
      exact e
    by_cases hk : i < ns.length
    · refine head (ns.getD i.toNat 0) (i + 1) (fun M' hM => ?_) (by omega)
      subst hM
      have hin : (ns.map T.int)[i.toNat]? = some (.int (ns.getD i.toNat 0)) := by
        rw [List.getElem?_map, List.getElem?_eq_getElem (by omega)]
        simp [List.getD, show i.toNat < ns.length by omega]
      have hk' : decide (i < (ns.map T.int).length) = true := by simpa using hk
      have hk2 : i = (i.toNat : Int) := by omega
      simp only [bind_ok, bind_ex, bind_no, toS_ok, toS_ex, toS_no, sb_nx, sb_rt, sb_bk, sb_ct, sb_ex, sb_no, tu_nx, tu_ct, tu_bk, tu_rt, tu_ex, on_nx, on_ex, dV_, dC_, dBin_, dUn_, dNilA_, dConsA_, dTup_, dLst_, asB_bl, dB_, dAndB_, dOrB_, dNotB_, dAnd_, dOr_, dNot_, dIf_, dCallB_, dCall_, dMeth_, dFld_, dSetF_, dMake_, dNoPart_, asI_int, dPart_, dSlice_, dDic_, dChain_, dSeq_, dNil_, dPass_, dBreak_, dCont_, dExpr_, dRet_, dRetN_, dSet_, dIfS_, gN_, gsN_, gsC_, gT_, gSub_, dAsg_, dRaise_, dRaiseA_, dFor_, wSeq_, wEn_, wRng_, dLc_, dYes_, wipeT_nil, wipeT_cons, endF_nx, endF_rt, endF_ex, chk_str, chk_tup, items_str, items_tup, items_ob, seq_tup, len_tup, add_int, sub_int, lt_int', le_int', gt_int', ge_int', lt_str', gt_str', eq_int', eq_str', ne_int', ne_str', neg_int, int_int, int_bl, isnot_non, is_non, dFn1, dFn2, dFn3, dFn4, dFn5, List.replicate_succ, List.replicate_zero, List.getElem?_cons_zero, List.getElem?_cons_succ, List.set_cons_zero, List.set_cons_succ, List.length_cons, List.length_nil, if_true_, if_false_, if_T_, if_F_, Bool.not_true, Bool.not_false, Nat.reduceAdd, Nat.reduceSub, Nat.reduceLeDiff, Int.reduceSub, Int.reduceAdd, ge_iff_le, List.map_cons, List.map_nil, List.cons_append, List.nil_append, tix1 (self _), tix0 (self _), len_ob (oth _), hk', ix_ob' hk2 (oth _) hin, tset1 (self _), List.set_set]
    · refine head 0 i (fun M' hM => ?_) hi
      subst hM
      have hk' : decide (i < (ns.map T.int).length) = false := by simpa using hk
      simp only [bind_ok, bind_ex, bind_no, toS_ok, toS_ex, toS_no, sb_nx, sb_rt, sb_bk, sb_ct, sb_ex, sb_no, tu_nx, tu_ct, tu_bk, tu_rt, tu_ex, on_nx, on_ex, dV_, dC_, dBin_, dUn_, dNilA_, dConsA_, dTup_, dLst_, asB_bl, dB_, dAndB_, dOrB_, dNotB_, dAnd_, dOr_, dNot_, dIf_, dCallB_, dCall_, dMeth_, dFld_, dSetF_, dMake_, dNoPart_, asI_int, dPart_, dSlice_, dDic_, dChain_, dSeq_, dNil_, dPass_, dBreak_, dCont_, dExpr_, dRet_, dRetN_, dSet_, dIfS_, gN_, gsN_, gsC_, gT_, gSub_, dAsg_, dRaise_, dRaiseA_, dFor_, wSeq_, wEn_, wRng_, dLc_, dYes_, wipeT_nil, wipeT_cons, endF_nx, endF_rt, endF_ex, chk_str, chk_tup, items_str, items_tup, items_ob, seq_tup, len_tup, add_int, sub_int, lt_int', le_int', gt_int', ge_int', lt_str', gt_str', eq_int', eq_str', ne_int', ne_str', neg_int, int_int, int_bl, isnot_non, is_non, dFn1, dFn2, dFn3, dFn4, dFn5, List.replicate_succ, List.replicate_zero, List.getElem?_cons_zero, List.getElem?_cons_succ, List.set_cons_zero, List.set_cons_succ, List.length_cons, List.length_nil, if_true_, if_false_, if_T_, if_F_, Bool.not_true, Bool.not_false, Nat.reduceAdd, Nat.reduceSub, Nat.reduceLeDiff, Int.reduceSub, Int.reduceAdd, ge_iff_le, List.map_cons, List.map_nil, List.cons_append, List.nil_append, tix1 (self _), tix0 (self _), len_ob (oth _), hk']
end HB

set_option maxHeartbeats 1000000
namespace HB
open PySem DN
def marksL : List PySem.Str := ["ab", "abc", "abc", "ab", "x", "", "bdy", "abcd", "aeioz"]
theorem P__law_marks {p : Nat} {M : Mem} (h : Tape M p) : ∃ (m : PySem.Str) (M' : Mem), d__law_marks [.ob p] M = .ok (.str m) M' ∧ TStep M M' p ∧ M'.length = M.length ∧ m ∈ marksL := by
  obtain ⟨d, M1, e, st, hl, h0, h1⟩ := P__law_pick (m := 9) (M := M ++ [.lst (marksL.map .str)]) h.app (by omega)
  have hk : M1[M.length]? = some (.lst (marksL.map .str)) := st.keep.at List.getElem?_concat_length (by have := h.lt; simp; omega)
  obtain ⟨u, hu, _, ei⟩ := ix_pick hk ⟨h0, h1⟩
  obtain ⟨m, hm, rfl⟩ := List.mem_map.mp hu
  have ef : dFn 1 1 b__law_marks [.ob p] M = .ok (.str m) M1 := by
    simp only [marksL, bind_ok, bind_ex, bind_no, toS_ok, toS_ex, toS_no, sb_nx, sb_rt, sb_bk, sb_ct, sb_ex, sb_no, tu_nx, tu_ct, tu_bk, tu_rt, tu_ex, on_nx, on_ex, dV_, dC_, dBin_, dUn_, dNilA_, dConsA_, dTup_, dLst_, asB_bl, dB_, dAndB_, dOrB_, dNotB_, dAnd_, dOr_, dNot_, dIf_, dCallB_, dCall_, dMeth_, dFld_, dSetF_, dMake_, dNoPart_, asI_int, dPart_, dSlice_, dDic_, dChain_, dSeq_, dNil_, dPass_, dBreak_, dCont_, dExpr_, dRet_, dRetN_, dSet_, dIfS_, gN_, gsN_, gsC_, gT_, gSub_, dAsg_, dRaise_, dRaiseA_, dFor_, wSeq_, wEn_, wRng_, dLc_, dYes_, wipeT_nil, wipeT_cons, endF_nx, endF_rt, endF_ex, chk_str, chk_tup, items_str, items_tup, items_ob, seq_tup, len_tup, add_int, sub_int, lt_int', le_int', gt_int', ge_int', lt_str', gt_str', eq_int', eq_str', ne_int', ne_str', neg_int, int_int, int_bl, isnot_non, is_non, dFn1, dFn2, dFn3, dFn4, dFn5, List.replicate_succ, List.replicate_zero, List.getElem?_cons_zero, List.getElem?_cons_succ, List.set_cons_zero, List.set_cons_succ, List.length_cons, List.length_nil, if_true_, if_false_, if_T_, if_F_, Bool.not_true, Bool.not_false, Nat.reduceAdd, Nat.reduceSub, Nat.reduceLeDiff, Int.reduceSub, Int.reduceAdd, ge_iff_le, List.map_cons, List.map_nil, List.cons_append, List.nil_append] at e
    simp only [b__law_marks, bind_ok, bind_ex, bind_no, toS_ok, toS_ex, toS_no, sb_nx, sb_rt, sb_bk, sb_ct, sb_ex, sb_no, tu_nx, tu_ct, tu_bk, tu_rt, tu_ex, on_nx, on_ex, dV_, dC_, dBin_, dUn_, dNilA_, dConsA_, dTup_, dLst_, asB_bl, dB_, dAndB_, dOrB_, dNotB_, dAnd_, dOr_, dNot_, dIf_, dCallB_, dCall_, dMeth_, dFld_, dSetF_, dMake_, dNoPart_, asI_int, dPart_, dSlice_, dDic_, dChain_, dSeq_, dNil_, dPass_, dBreak_, dCont_, dExpr_, dRet_, dRetN_, dSet_, dIfS_, gN_, gsN_, gsC_, gT_, gSub_, dAsg_, dRaise_, dRaiseA_, dFor_, wSeq_, wEn_, wRng_, dLc_, dYes_, wipeT_nil, wipeT_cons, endF_nx, endF_rt, endF_ex, chk_str, chk_tup, items_str, items_tup, items_ob, seq_tup, len_tup, add_int, sub_int, lt_int', le_int', gt_int', ge_int', lt_str', gt_str', eq_int', eq_str', ne_int', ne_str', neg_int, int_int, int_bl, isnot_non, is_non, dFn1, dFn2, dFn3, dFn4, dFn5, List.replicate_succ, List.replicate_zero, List.getElem?_cons_zero, List.getElem?_cons_succ, List.set_cons_zero, List.set_cons_succ, List.length_cons, List.length_nil, if_true_, if_false_, if_T_, if_F_, Bool.not_true, Bool.not_false, Nat.reduceAdd, Nat.reduceSub, Nat.reduceLeDiff, Int.reduceSub, Int.reduceAdd, ge_iff_le, List.map_cons, List.map_nil, List.cons_append, List.nil_append, if_pos (le_line' (n := 9) (by decide)), e, ei]
  obtain ⟨M', g1, g2, g3⟩ := gc_t ef h ((TStep.app h).trans st) rfl
  exact ⟨m, M', g1, g2, g3, hm⟩
theorem P__law_kinds {m : PySem.Str} {M : Mem} (hm : m.length ≤ 5) : ∃ (n : Nat) (G : Mem), d__law_kinds [.str m] M = .ok (.ob n) (M ++ G) ∧ (M ++ G)[n]? = some (.lst ((kindsF m).map .str)) ∧ M.length ≤ n := by
  have key : ∀ (r : RS), r = loopF (seqChk (.str m) (signsT m)) (gN 2) (dSet 1 (dBin addT (dV 1) (dLc (wSeq (dV 1)) [3] (gN 3) dYes (dBin addT (dV 3) (dV 2))))) (signsT m) [some (.str m), some (.ob M.length), none, none] (M ++ [.lst [.str ⟨#[]⟩]]) →
      ∃ n a b G, r = .nx [some (.str m), some (.ob n), a, b] (M ++ G) ∧ (M ++ G)[n]? = some (.lst ((m.cps.toList.foldl dbl [⟨#[]⟩]).map .str)) ∧ (m.cps.toList.foldl dbl [⟨#[]⟩]).length ≤ 32 ∧ M.length ≤ n := by
    intro r hr
    subst hr
    refine loopF_run (fun us ρ M' => ∃ (cs : List Nat) (f : List PySem.Str) (n : Nat) (a b : Option T) (G : Mem), us = cs.map (fun c => .str ⟨#[c]⟩) ∧ ρ = [some (.str m), some (.ob n), a, b] ∧ M' = M ++ G ∧ (M ++ G)[n]? = some (.lst (f.map .str)) ∧ (f.length * 2 ^ cs.length ≤ 32 ∧ ∀ k, k ∈ f → k.length + cs.length ≤ 5) ∧ M.length ≤ n ∧ cs.foldl dbl f = m.cps.toList.foldl dbl [⟨#[]⟩])
      (fun r => ∃ n a b G, r = .nx [some (.str m), some (.ob n), a, b] (M ++ G) ∧ (M ++ G)[n]? = some (.lst ((m.cps.toList.foldl dbl [⟨#[]⟩]).map .str)) ∧ (m.cps.toList.foldl dbl [⟨#[]⟩]).length ≤ 32 ∧ M.length ≤ n) ?_ ?_ _ _ _ ?_
    · rintro ρ M' ⟨cs, f, n, a, b, G, e1, rfl, rfl, hn, ⟨hz, _⟩, hl, hf⟩
      cases cs with
      | cons c cs => cases e1
      | nil =>
        refine ⟨chk_str, n, a, b, G, rfl, ?_, ?_, hl⟩
        · rw [← hf]; exact hn
        · rw [← hf]; simpa using hz
    · rintro u us ρ M' ⟨cs, f, n, a, b, G, e1, rfl, rfl, hn, ⟨hz, hk⟩, hl, hf⟩
      cases cs with
      | nil => cases e1
      | cons c cs =>
        simp only [List.map_cons, List.cons.injEq] at e1
        obtain ⟨rfl, rfl⟩ := e1
        have hfl : f.length ≤ 32 := by
          have : 1 ≤ 2 ^ (c :: cs).length := Nat.one_le_two_pow
          exact Nat.le_trans (Nat.le_mul_of_pos_right _ this) hz
        have hn1 : ∀ acc, (M ++ G ++ [.lst acc])[n]? = some (.lst (f.map .str)) := fun acc => look_app hn
        have hlc : loopC (seqChk (.ob n) (f.map .str)) (gN 3) dYes (dBin addT (dV 3) (dV 2)) [some (.str m), some (.ob n), some (.str ⟨#[c]⟩), none] (M ++ G).length (f.map .str) (M ++ G ++ [.lst []]) =
            .ok (.ob (M ++ G).length) (M ++ G ++ [.lst ([] ++ ((f.map T.str).filter fun _ => true).map fun u => .str (strOf u ++ ⟨#[c]⟩))]) := by
          refine loopC_pure (fun u => [some (.str m), some (.ob n), some (.str ⟨#[c]⟩), some u]) _ _ _ _ (fun acc => chk_ob (hn1 acc)) (fun u hu acc => ?_) (le_line (by simp; omega))
          obtain ⟨k, hk1, rfl⟩ := List.mem_map.mp hu
          refine ⟨rfl, rfl, fun _ => ?_⟩
          have h1 : (⟨#[c]⟩ : PySem.Str).length = 1 := rfl
          have := hk k hk1
          simp only [bind_ok, bind_ex, bind_no, toS_ok, toS_ex, toS_no, sb_nx, sb_rt, sb_bk, sb_ct, sb_ex, sb_no, tu_nx, tu_ct, tu_bk, tu_rt, tu_ex, on_nx, on_ex, dV_, dC_, dBin_, dUn_, dNilA_, dConsA_, dTup_, dLst_, asB_bl, dB_, dAndB_, dOrB_, dNotB_, dAnd_, dOr_, dNot_, dIf_, dCallB_, dCall_, dMeth_, dFld_, dSetF_, dMake_, dNoPart_, asI_int, dPart_, dSlice_, dDic_, dChain_, dSeq_, dNil_, dPass_, dBreak_, dCont_, dExpr_, dRet_, dRetN_, dSet_, dIfS_, gN_, gsN_, gsC_, gT_, gSub_, dAsg_, dRaise_, dRaiseA_, dFor_, wSeq_, wEn_, wRng_, dLc_, dYes_, wipeT_nil, wipeT_cons, endF_nx, endF_rt, endF_ex, chk_str, chk_tup, items_str, items_tup, items_ob, seq_tup, len_tup, add_int, sub_int, lt_int', le_int', gt_int', ge_int', lt_str', gt_str', eq_int', eq_str', ne_int', ne_str', neg_int, int_int, int_bl, isnot_non, is_non, dFn1, dFn2, dFn3, dFn4, dFn5, List.replicate_succ, List.replicate_zero, List.getElem?_cons_zero, List.getElem?_cons_succ, List.set_cons_zero, List.set_cons_succ, List.length_cons, List.length_nil, if_true_, if_false_, if_T_, if_F_, Bool.not_true, Bool.not_false, Nat.reduceAdd, Nat.reduceSub, Nat.reduceLeDiff, Int.reduceSub, Int.reduceAdd, ge_iff_le, List.map_cons, List.map_nil, List.cons_append, List.nil_append, add_str (x := k) (y := ⟨#[c]⟩) (by rw [h1]; omega)]
          rfl
        rw [List.filter_eq_self.mpr (fun _ _ => rfl)] at hlc
        have e3 : (List.map (fun u => T.str (strOf u ++ ⟨#[c]⟩)) (List.map T.str f)) = (f.map fun k => k ++ ⟨#[c]⟩).map .str := by
          simp [List.map_map]; intro a _; rfl
        have hx : (M ++ G ++ [C.lst ([] ++ List.map (fun u => T.str (strOf u ++ ⟨#[c]⟩)) (List.map T.str f))])[(M ++ G).length]? = some (.lst ((f.map fun k => k ++ ⟨#[c]⟩).map .str)) := by
          rw [List.getElem?_concat_length, e3]; rfl
        rw [List.nil_append] at hx hlc
        refine ⟨chk_str, [some (.str m), some (.ob n), some (.str ⟨#[c]⟩), b], M ++ G, rfl, .inl ⟨[some (.str m), some (.ob ((M ++ G ++ [C.lst (List.map (fun u => T.str (strOf u ++ ⟨#[c]⟩)) (List.map T.str f))]).length)), some (.str ⟨#[c]⟩), b], _, ?_, cs, dbl f c, _, some (.str ⟨#[c]⟩), b, G ++ ([.lst ((f.map T.str).map fun u => .str (strOf u ++ ⟨#[c]⟩))] ++ [.lst (f.map .str ++ (f.map fun k => k ++ ⟨#[c]⟩).map .str)]), rfl, rfl, rfl, ?_, ⟨?_, fun k hk' => ?_⟩, ?_, ?_⟩⟩
        · simp only [bind_ok, bind_ex, bind_no, toS_ok, toS_ex, toS_no, sb_nx, sb_rt, sb_bk, sb_ct, sb_ex, sb_no, tu_nx, tu_ct, tu_bk, tu_rt, tu_ex, on_nx, on_ex, dV_, dC_, dBin_, dUn_, dNilA_, dConsA_, dTup_, dLst_, asB_bl, dB_, dAndB_, dOrB_, dNotB_, dAnd_, dOr_, dNot_, dIf_, dCallB_, dCall_, dMeth_, dFld_, dSetF_, dMake_, dNoPart_, asI_int, dPart_, dSlice_, dDic_, dChain_, dSeq_, dNil_, dPass_, dBreak_, dCont_, dExpr_, dRet_, dRetN_, dSet_, dIfS_, gN_, gsN_, gsC_, gT_, gSub_, dAsg_, dRaise_, dRaiseA_, dFor_, wSeq_, wEn_, wRng_, dLc_, dYes_, wipeT_nil, wipeT_cons, endF_nx, endF_rt, endF_ex, chk_str, chk_tup, items_str, items_tup, items_ob, seq_tup, len_tup, add_int, sub_int, lt_int', le_int', gt_int', ge_int', lt_str', gt_str', eq_int', eq_str', ne_int', ne_str', neg_int, int_int, int_bl, isnot_non, is_non, dFn1, dFn2, dFn3, dFn4, dFn5, List.replicate_succ, List.replicate_zero, List.getElem?_cons_zero, List.getElem?_cons_succ, List.set_cons_zero, List.set_cons_succ, List.length_cons, List.length_nil, if_true_, if_false_, if_T_, if_F_, Bool.not_true, Bool.not_false, Nat.reduceAdd, Nat.reduceSub, Nat.reduceLeDiff, Int.reduceSub, Int.reduceAdd, ge_iff_le, List.map_cons, List.map_nil, List.cons_append, List.nil_append, seq_ob hn]
          rw [hlc]
          simp only [bind_ok, bind_ex, bind_no, toS_ok, toS_ex, toS_no, sb_nx, sb_rt, sb_bk, sb_ct, sb_ex, sb_no, tu_nx, tu_ct, tu_bk, tu_rt, tu_ex, on_nx, on_ex, dV_, dC_, dBin_, dUn_, dNilA_, dConsA_, dTup_, dLst_, asB_bl, dB_, dAndB_, dOrB_, dNotB_, dAnd_, dOr_, dNot_, dIf_, dCallB_, dCall_, dMeth_, dFld_, dSetF_, dMake_, dNoPart_, asI_int, dPart_, dSlice_, dDic_, dChain_, dSeq_, dNil_, dPass_, dBreak_, dCont_, dExpr_, dRet_, dRetN_, dSet_, dIfS_, gN_, gsN_, gsC_, gT_, gSub_, dAsg_, dRaise_, dRaiseA_, dFor_, wSeq_, wEn_, wRng_, dLc_, dYes_, wipeT_nil, wipeT_cons, endF_nx, endF_rt, endF_ex, chk_str, chk_tup, items_str, items_tup, items_ob, seq_tup, len_tup, add_int, sub_int, lt_int', le_int', gt_int', ge_int', lt_str', gt_str', eq_int', eq_str', ne_int', ne_str', neg_int, int_int, int_bl, isnot_non, is_non, dFn1, dFn2, dFn3, dFn4, dFn5, List.replicate_succ, List.replicate_zero, List.getElem?_cons_zero, List.getElem?_cons_succ, List.set_cons_zero, List.set_cons_succ, List.length_cons, List.length_nil, if_true_, if_false_, if_T_, if_F_, Bool.not_true, Bool.not_false, Nat.reduceAdd, Nat.reduceSub, Nat.reduceLeDiff, Int.reduceSub, Int.reduceAdd, ge_iff_le, List.map_cons, List.map_nil, List.cons_append, List.nil_append]
          rw [add_ob (hn1 _) hx (by simp; omega)]
          simp only [bind_ok, bind_ex, bind_no, toS_ok, toS_ex, toS_no, sb_nx, sb_rt, sb_bk, sb_ct, sb_ex, sb_no, tu_nx, tu_ct, tu_bk, tu_rt, tu_ex, on_nx, on_ex, dV_, dC_, dBin_, dUn_, dNilA_, dConsA_, dTup_, dLst_, asB_bl, dB_, dAndB_, dOrB_, dNotB_, dAnd_, dOr_, dNot_, dIf_, dCallB_, dCall_, dMeth_, dFld_, dSetF_, dMake_, dNoPart_, asI_int, dPart_, dSlice_, dDic_, dChain_, dSeq_, dNil_, dPass_, dBreak_, dCont_, dExpr_, dRet_, dRetN_, dSet_, dIfS_, gN_, gsN_, gsC_, gT_, gSub_, dAsg_, dRaise_, dRaiseA_, dFor_, wSeq_, wEn_, wRng_, dLc_, dYes_, wipeT_nil, wipeT_cons, endF_nx, endF_rt, endF_ex, chk_str, chk_tup, items_str, items_tup, items_ob, seq_tup, len_tup, add_int, sub_int, lt_int', le_int', gt_int', ge_int', lt_str', gt_str', eq_int', eq_str', ne_int', ne_str', neg_int, int_int, int_bl, isnot_non, is_non, dFn1, dFn2, dFn3, dFn4, dFn5, List.replicate_succ, List.replicate_zero, List.getElem?_cons_zero, List.getElem?_cons_succ, List.set_cons_zero, List.set_cons_succ, List.length_cons, List.length_nil, if_true_, if_false_, if_T_, if_F_, Bool.not_true, Bool.not_false, Nat.reduceAdd, Nat.reduceSub, Nat.reduceLeDiff, Int.reduceSub, Int.reduceAdd, ge_iff_le, List.map_cons, List.map_nil, List.cons_append, List.nil_append, List.append_assoc]
        · simp [dbl]
        · simp only [dbl, List.length_append, List.length_map, List.length_cons] at hz ⊢
          rw [Nat.pow_succ] at hz
          rw [← Nat.two_mul, Nat.mul_comm 2, Nat.mul_assoc, Nat.mul_comm 2]
          exact hz
        · simp only [dbl, List.mem_append, List.mem_map] at hk'
          rcases hk' with hk' | ⟨k', hk', rfl⟩
          · have := hk k hk'; simp at this; omega
          · have := hk k' hk'
            have h1 : (k' ++ (⟨#[c]⟩ : PySem.Str)).length = k'.length + 1 := by
              show (k'.cps ++ #[c]).size = k'.cps.size + 1
              simp
            simp at this; omega
        · simp <;> omega
        · exact hf
    · exact ⟨m.cps.toList, [⟨#[]⟩], M.length, none, none, [.lst [.str ⟨#[]⟩]], rfl, rfl, rfl, by simp, ⟨by simp; exact Nat.pow_le_pow_right (by decide) (show m.cps.size ≤ 5 from hm), fun k hk => by simp at hk; subst hk; simpa [Str.length] using hm⟩, Nat.le_refl _, rfl⟩
  obtain ⟨n, a, b, G, e1, e2, e3, e4⟩ := key _ rfl
  refine ⟨(M ++ G).length, G ++ [.lst ((kindsF m).map .str)], gcF_new ?_ (by simp), ?_, by simp⟩
  · have e0 : (T.str ("" : PySem.Str)) = T.str ⟨#[]⟩ := rfl
    simp only [b__law_kinds, bind_ok, bind_ex, bind_no, toS_ok, toS_ex, toS_no, sb_nx, sb_rt, sb_bk, sb_ct, sb_ex, sb_no, tu_nx, tu_ct, tu_bk, tu_rt, tu_ex, on_nx, on_ex, dV_, dC_, dBin_, dUn_, dNilA_, dConsA_, dTup_, dLst_, asB_bl, dB_, dAndB_, dOrB_, dNotB_, dAnd_, dOr_, dNot_, dIf_, dCallB_, dCall_, dMeth_, dFld_, dSetF_, dMake_, dNoPart_, asI_int, dPart_, dSlice_, dDic_, dChain_, dSeq_, dNil_, dPass_, dBreak_, dCont_, dExpr_, dRet_, dRetN_, dSet_, dIfS_, gN_, gsN_, gsC_, gT_, gSub_, dAsg_, dRaise_, dRaiseA_, dFor_, wSeq_, wEn_, wRng_, dLc_, dYes_, wipeT_nil, wipeT_cons, endF_nx, endF_rt, endF_ex, chk_str, chk_tup, items_str, items_tup, items_ob, seq_tup, len_tup, add_int, sub_int, lt_int', le_int', gt_int', ge_int', lt_str', gt_str', eq_int', eq_str', ne_int', ne_str', neg_int, int_int, int_bl, isnot_non, is_non, dFn1, dFn2, dFn3, dFn4, dFn5, List.replicate_succ, List.replicate_zero, List.getElem?_cons_zero, List.getElem?_cons_succ, List.set_cons_zero, List.set_cons_succ, List.length_cons, List.length_nil, if_true_, if_false_, if_T_, if_F_, Bool.not_true, Bool.not_false, Nat.reduceAdd, Nat.reduceSub, Nat.reduceLeDiff, Int.reduceSub, Int.reduceAdd, ge_iff_le, List.map_cons, List.map_nil, List.cons_append, List.nil_append, e0, if_pos (le_line' (n := 1) (by decide)), e1]
    simp only [sortT, e2, strs_map, if_pos (show (m.cps.toList.foldl dbl [⟨#[]⟩]).length < 64 by omega), bind_ok, bind_ex, bind_no, toS_ok, toS_ex, toS_no, sb_nx, sb_rt, sb_bk, sb_ct, sb_ex, sb_no, tu_nx, tu_ct, tu_bk, tu_rt, tu_ex, on_nx, on_ex, dV_, dC_, dBin_, dUn_, dNilA_, dConsA_, dTup_, dLst_, asB_bl, dB_, dAndB_, dOrB_, dNotB_, dAnd_, dOr_, dNot_, dIf_, dCallB_, dCall_, dMeth_, dFld_, dSetF_, dMake_, dNoPart_, asI_int, dPart_, dSlice_, dDic_, dChain_, dSeq_, dNil_, dPass_, dBreak_, dCont_, dExpr_, dRet_, dRetN_, dSet_, dIfS_, gN_, gsN_, gsC_, gT_, gSub_, dAsg_, dRaise_, dRaiseA_, dFor_, wSeq_, wEn_, wRng_, dLc_, dYes_, wipeT_nil, wipeT_cons, endF_nx, endF_rt, endF_ex, chk_str, chk_tup, items_str, items_tup, items_ob, seq_tup, len_tup, add_int, sub_int, lt_int', le_int', gt_int', ge_int', lt_str', gt_str', eq_int', eq_str', ne_int', ne_str', neg_int, int_int, int_bl, isnot_non, is_non, dFn1, dFn2, dFn3, dFn4, dFn5, List.replicate_succ, List.replicate_zero, List.getElem?_cons_zero, List.getElem?_cons_succ, List.set_cons_zero, List.set_cons_succ, List.length_cons, List.length_nil, if_true_, if_false_, if_T_, if_F_, Bool.not_true, Bool.not_false, Nat.reduceAdd, Nat.reduceSub, Nat.reduceLeDiff, Int.reduceSub, Int.reduceAdd, ge_iff_le, List.map_cons, List.map_nil, List.cons_append, List.nil_append, kindsF, List.append_assoc]
  · rw [← List.append_assoc, List.getElem?_concat_length]
end HB

set_option maxHeartbeats 1000000
namespace HB
open PySem DN
theorem good_marks : ∀ m, m ∈ marksL → goodE m = true := by
  have h : (marksL.all goodE) = true := by decide +kernel
  exact List.all_eq_true.mp h
theorem marks_len : ∀ m, m ∈ marksL → m.length ≤ 5 := by
  have h : (marksL.all fun m => decide (m.length ≤ 5)) = true := by decide +kernel
  exact fun m hm => of_decide_eq_true (List.all_eq_true.mp h m hm)
theorem in_strs {n : Nat} {F : List PySem.Str} {k : PySem.Str} {M : Mem} (h : M[n]? = some (.lst (F.map .str))) : inT false (.str k) (.ob n) M = .ok (.bl (F.any fun y => y == k)) M := by
  have hf : flatT (.str k) = true ∧ (F.map T.str).all flatT = true := ⟨rfl, by rw [List.all_map]; exact List.all_eq_true.mpr fun _ _ => rfl⟩
  simp only [inT, h]
  rw [if_pos hf, inL, if_pos hf, List.any_map]
  rfl
/-- one of a list, drawn -/
theorem pick_of {p e : Nat} {M : Mem} {L : List T} (h : Tape M p) (he : M[e]? = some (.lst L)) (hp : e ≠ p) (hl : 0 < L.length ∧ L.length < 1000000) :
    ∃ (u : T) (M' : Mem), (d__law_pick [.ob p, .int L.length] M).bind (fun y M2 => ixT (.ob e) y M2) = .ok u M' ∧ u ∈ L ∧ TStep M M' p ∧ M'.length = M.length := by
  obtain ⟨d, M1, e1, st, hl1, h0, h1⟩ := P__law_pick (m := L.length) h (by omega)
  obtain ⟨u, hu, _, ei⟩ := ix_pick (st.get he hp) ⟨h0, h1⟩
  exact ⟨u, M1, by rw [e1, bind_ok, ei], hu, st, hl1⟩
theorem lot_few {p e : Nat} {M : Mem} {E : List PySem.Str} {n : Nat} (h : Tape M p) (he : M[e]? = some (.lst (E.map .str))) (hp : e ≠ p) (h1 : 1 ≤ E.length) (h2 : E.length ≤ 32) (hn : n ≤ 100) (ρ : Ev) (hρ : ∃ a b c d, ρ = [some (.ob p), some (.ob e), a, b, c, d]) :
    ∃ (F : List PySem.Str) (M' : Mem), loopC (fun _ => true) (gN 5) dYes (dBin ixT (dV 1) (dCall d__law_pick (dConsA (dV 0) (dConsA (dCallB lenT (dConsA (dV 1) dNilA)) dNilA)))) ρ M.length (rngT 0 n) (M ++ [.lst []]) = .ok (.ob M.length) M' ∧
      M'[M.length]? = some (.lst (F.map .str)) ∧ TStep M M' p ∧ F.length = n ∧ ∀ f, f ∈ F → f ∈ E := by
  obtain ⟨a, b, c, d, rfl⟩ := hρ
  have hpl := h.lt
  have hel := lt_of_some he
  obtain ⟨acc, M', e1, e2, F, e3, e4, e5, e6⟩ := loopC_run (n := M.length) (chk := fun _ => true) (g := gN 5) (c := dYes) (e := dBin ixT (dV 1) (dCall d__law_pick (dConsA (dV 0) (dConsA (dCallB lenT (dConsA (dV 1) dNilA)) dNilA)))) (ρ := [some (.ob p), some (.ob e), a, b, c, d])
    (fun us acc M' => ∃ F : List PySem.Str, acc = F.map .str ∧ TStep M M' p ∧ F.length + us.length = n ∧ ∀ f, f ∈ F → f ∈ E) (fun _ _ _ => rfl)
    (fun u us acc M' ⟨F, ea, st, hl, hf⟩ hn' => by
      have he' := st.get he hp
      obtain ⟨x, M2, g1, g2, g3, g4⟩ := pick_of st.tape he' hp (by simp; omega)
      obtain ⟨f, hf', rfl⟩ := List.mem_map.mp g2
      refine ⟨rfl, [some (.ob p), some (.ob e), a, b, c, some u], true, M', rfl, rfl, (fun q => by cases q), fun _ => ⟨.str f, M2, ?_, ?_, ?_, F ++ [f], ?_, ?_, ?_, ?_⟩⟩
      · simp only [List.length_map] at g1
        simp only [bind_ok, bind_ex, bind_no, toS_ok, toS_ex, toS_no, sb_nx, sb_rt, sb_bk, sb_ct, sb_ex, sb_no, tu_nx, tu_ct, tu_bk, tu_rt, tu_ex, on_nx, on_ex, dV_, dC_, dBin_, dUn_, dNilA_, dConsA_, dTup_, dLst_, asB_bl, dB_, dAndB_, dOrB_, dNotB_, dAnd_, dOr_, dNot_, dIf_, dCallB_, dCall_, dMeth_, dFld_, dSetF_, dMake_, dNoPart_, asI_int, dPart_, dSlice_, dDic_, dChain_, dSeq_, dNil_, dPass_, dBreak_, dCont_, dExpr_, dRet_, dRetN_, dSet_, dIfS_, gN_, gsN_, gsC_, gT_, gSub_, dAsg_, dRaise_, dRaiseA_, dFor_, wSeq_, wEn_, wRng_, dLc_, dYes_, wipeT_nil, wipeT_cons, endF_nx, endF_rt, endF_ex, chk_str, chk_tup, items_str, items_tup, items_ob, seq_tup, len_tup, add_int, sub_int, lt_int', le_int', gt_int', ge_int', lt_str', gt_str', eq_int', eq_str', ne_int', ne_str', neg_int, int_int, int_bl, isnot_non, is_non, dFn1, dFn2, dFn3, dFn4, dFn5, List.replicate_succ, List.replicate_zero, List.getElem?_cons_zero, List.getElem?_cons_succ, List.set_cons_zero, List.set_cons_succ, List.length_cons, List.length_nil, if_true_, if_false_, if_T_, if_F_, Bool.not_true, Bool.not_false, Nat.reduceAdd, Nat.reduceSub, Nat.reduceLeDiff, Int.reduceSub, Int.reduceAdd, ge_iff_le, List.map_cons, List.map_nil, List.cons_append, List.nil_append, len_ob he', List.length_map]
        exact g1
      · exact g3.get hn' (by omega)
      · rw [ea, List.length_map, sizeLine_eq]; simp at hl; omega
      · rw [ea]; simp
      · exact (st.trans g3).setNew h (Nat.le_refl _)
      · simp at hl ⊢; omega
      · intro y hy
        rcases List.mem_append.mp hy with hy | hy
        · exact hf y hy
        · rw [List.mem_singleton.mp hy]; exact hf')
    (rngT 0 n) [] (M ++ [.lst []]) ⟨[], rfl, TStep.app h, by simp [rngT], fun f hf => by cases hf⟩ List.getElem?_concat_length
  subst e3
  exact ⟨F, M', e1, e2, e4, by simpa using e5, e6⟩
theorem lot_found {p e : Nat} {M : Mem} {E : List PySem.Str} (h : Tape M p) (he : M[e]? = some (.lst (E.map .str))) (hp : e ≠ p) (h2 : E.length ≤ 32) (ρ : Ev) (hρ : ∃ a b c d, ρ = [some (.ob p), some (.ob e), a, b, c, d]) :
    ∃ (F : List PySem.Str) (M' : Mem), loopC (seqChk (.ob e) (E.map .str)) (gN 4) (dB (dBin eqT (dCall d__law_pick (dConsA (dV 0) (dConsA (dC (.int 2)) dNilA))) (dC (.int 0)))) (dV 4) ρ M.length (E.map .str) (M ++ [.lst []]) = .ok (.ob M.length) M' ∧
      M'[M.length]? = some (.lst (F.map .str)) ∧ TStep M M' p ∧ List.Sublist F E := by
  obtain ⟨a, b, c, d, rfl⟩ := hρ
  have hpl := h.lt
  have hel := lt_of_some he
  obtain ⟨acc, M', e1, e2, F, cs, e3, e4, e5, e6⟩ := loopC_run (n := M.length) (chk := seqChk (.ob e) (E.map .str)) (g := gN 4) (c := dB (dBin eqT (dCall d__law_pick (dConsA (dV 0) (dConsA (dC (.int 2)) dNilA))) (dC (.int 0)))) (e := dV 4) (ρ := [some (.ob p), some (.ob e), a, b, c, d])
    (fun us acc M' => ∃ F cs : List PySem.Str, acc = F.map .str ∧ TStep M M' p ∧ us = cs.map .str ∧ (∃ D, E = D ++ cs ∧ List.Sublist F D)) (fun acc M' ⟨F, cs, _, st, _, _⟩ => chk_ob (st.get he hp))
    (fun u us acc M' ⟨F, cs, ea, st, eu, D, eD, hs⟩ hn' => by
      cases cs with
      | nil => cases eu
      | cons k cs =>
        simp only [List.map_cons, List.cons.injEq] at eu
        obtain ⟨rfl, rfl⟩ := eu
        have he' := st.get he hp
        obtain ⟨d', M2, g1, g2, g3, g4⟩ := P__law_pick (m := 2) st.tape (by omega)
        have hlen : F.length ≤ 32 := by
          have := hs.length_le
          have := congrArg List.length eD
          simp at this; omega
        refine ⟨chk_ob he', [some (.ob p), some (.ob e), a, b, some (.str k), d], decide (d' = 0), M2, rfl, ?_, fun _ => ⟨g2.get hn' (by omega), F, cs, ea, st.trans g2, rfl, D ++ [k], by rw [eD]; simp, hs.trans (List.sublist_append_left _ _)⟩, fun _ => ⟨.str k, M2, rfl, g2.get hn' (by omega), ?_, F ++ [k], cs, ?_, (st.trans g2).setNew h (Nat.le_refl _), rfl, D ++ [k], by rw [eD]; simp, hs.append (List.Sublist.refl _)⟩⟩
        · simp only [bind_ok, bind_ex, bind_no, toS_ok, toS_ex, toS_no, sb_nx, sb_rt, sb_bk, sb_ct, sb_ex, sb_no, tu_nx, tu_ct, tu_bk, tu_rt, tu_ex, on_nx, on_ex, dV_, dC_, dBin_, dUn_, dNilA_, dConsA_, dTup_, dLst_, asB_bl, dB_, dAndB_, dOrB_, dNotB_, dAnd_, dOr_, dNot_, dIf_, dCallB_, dCall_, dMeth_, dFld_, dSetF_, dMake_, dNoPart_, asI_int, dPart_, dSlice_, dDic_, dChain_, dSeq_, dNil_, dPass_, dBreak_, dCont_, dExpr_, dRet_, dRetN_, dSet_, dIfS_, gN_, gsN_, gsC_, gT_, gSub_, dAsg_, dRaise_, dRaiseA_, dFor_, wSeq_, wEn_, wRng_, dLc_, dYes_, wipeT_nil, wipeT_cons, endF_nx, endF_rt, endF_ex, chk_str, chk_tup, items_str, items_tup, items_ob, seq_tup, len_tup, add_int, sub_int, lt_int', le_int', gt_int', ge_int', lt_str', gt_str', eq_int', eq_str', ne_int', ne_str', neg_int, int_int, int_bl, isnot_non, is_non, dFn1, dFn2, dFn3, dFn4, dFn5, List.replicate_succ, List.replicate_zero, List.getElem?_cons_zero, List.getElem?_cons_succ, List.set_cons_zero, List.set_cons_succ, List.length_cons, List.length_nil, if_true_, if_false_, if_T_, if_F_, Bool.not_true, Bool.not_false, Nat.reduceAdd, Nat.reduceSub, Nat.reduceLeDiff, Int.reduceSub, Int.reduceAdd, ge_iff_le, List.map_cons, List.map_nil, List.cons_append, List.nil_append, g1]
        · rw [ea, List.length_map, sizeLine_eq]; omega
        · rw [ea]; simp)
    (E.map .str) [] (M ++ [.lst []]) ⟨[], E, rfl, TStep.app h, rfl, [], rfl, List.Sublist.refl _⟩ List.getElem?_concat_length
  subst e3
  obtain ⟨D, e8, e9⟩ := e6
  cases cs with
  | cons _ _ => cases e5
  | nil => exact ⟨F, M', e1, e2, e4, by rw [e8]; simpa using e9⟩
theorem P__law_lot {p e : Nat} {M : Mem} {m : PySem.Str} {E : List PySem.Str} (h : Tape M p) (he : M[e]? = some (.lst (E.map .str))) (hp : e ≠ p) (hE : Kinds m E) :
    ∃ (L : List PySem.Str) (M' : Mem), d__law_lot [.ob p, .ob e] M = .ok (.tup (L.map .str)) M' ∧ TStep M M' p ∧ M'.length = M.length ∧ isLot m (.tup (L.map .str)) = true ∧ okP (.tup (L.map .str)) = true := by
  have raw : ∃ (L : List PySem.Str) (M' : Mem), dFn 2 6 b__law_lot [.ob p, .ob e] M = .ok (.tup (L.map .str)) M' ∧ TStep M M' p ∧ List.Sublist L E ∧ L ≠ [] := by
    have tail : ∀ (M0 : Mem), TStep M M0 p → ∃ (L : List PySem.Str) (M' : Mem), endF ((dSeq (dSet 2 (dLc (wSeq (dV 1)) [4] (gN 4) (dB (dBin eqT (dCall d__law_pick (dConsA (dV 0) (dConsA (dC (.int 2)) dNilA))) (dC (.int 0)))) (dV 4)))
 (dSeq (dIfS (dB (dBin eqT (dCallB lenT (dConsA (dV 2) dNilA)) (dC (.int 0)))) (dSet 2 (dLst (dConsA (dBin ixT (dV 1) (dCall d__law_pick (dConsA (dV 0) (dConsA (dCallB lenT (dConsA (dV 1) dNilA)) dNilA)))) dNilA)))
 dNil)
 (dRet (dCallB tupleT (dConsA (dV 2) dNilA))))) [some (.ob p), some (.ob e), none, none, none, none] M0) = .ok (.tup (L.map .str)) M' ∧ TStep M M' p ∧ List.Sublist L E ∧ L ≠ [] := by
      intro M0 st0
      have he0 := st0.get he hp
      obtain ⟨F, M1, f1, f2, f3, f4⟩ := lot_found st0.tape he0 hp hE.few [some (.ob p), some (.ob e), none, none, none, none] ⟨none, none, none, none, rfl⟩
      have he1 := (st0.trans f3).get he hp
      cases F with
      | nil =>
        obtain ⟨x, M2, g1, g2, g3, g4⟩ := pick_of f3.tape he1 hp (by have := hE.pos; have := hE.few; simp; omega)
        obtain ⟨f, hf', rfl⟩ := List.mem_map.mp g2
        refine ⟨[f], M2 ++ [.lst [.str f]], ?_, (st0.trans (f3.trans g3)).appR, List.singleton_sublist.mpr hf', by simp⟩
        simp only [List.length_map] at g1
        simp only [bind_ok, bind_ex, bind_no, toS_ok, toS_ex, toS_no, sb_nx, sb_rt, sb_bk, sb_ct, sb_ex, sb_no, tu_nx, tu_ct, tu_bk, tu_rt, tu_ex, on_nx, on_ex, dV_, dC_, dBin_, dUn_, dNilA_, dConsA_, dTup_, dLst_, asB_bl, dB_, dAndB_, dOrB_, dNotB_, dAnd_, dOr_, dNot_, dIf_, dCallB_, dCall_, dMeth_, dFld_, dSetF_, dMake_, dNoPart_, asI_int, dPart_, dSlice_, dDic_, dChain_, dSeq_, dNil_, dPass_, dBreak_, dCont_, dExpr_, dRet_, dRetN_, dSet_, dIfS_, gN_, gsN_, gsC_, gT_, gSub_, dAsg_, dRaise_, dRaiseA_, dFor_, wSeq_, wEn_, wRng_, dLc_, dYes_, wipeT_nil, wipeT_cons, endF_nx, endF_rt, endF_ex, chk_str, chk_tup, items_str, items_tup, items_ob, seq_tup, len_tup, add_int, sub_int, lt_int', le_int', gt_int', ge_int', lt_str', gt_str', eq_int', eq_str', ne_int', ne_str', neg_int, int_int, int_bl, isnot_non, is_non, dFn1, dFn2, dFn3, dFn4, dFn5, List.replicate_succ, List.replicate_zero, List.getElem?_cons_zero, List.getElem?_cons_succ, List.set_cons_zero, List.set_cons_succ, List.length_cons, List.length_nil, if_true_, if_false_, if_T_, if_F_, Bool.not_true, Bool.not_false, Nat.reduceAdd, Nat.reduceSub, Nat.reduceLeDiff, Int.reduceSub, Int.reduceAdd, ge_iff_le, List.map_cons, List.map_nil, List.cons_append, List.nil_append, seq_ob he0, f1, len_ob f2, List.map_nil, len_ob he1, List.length_map, g1, if_pos (le_line' (n := 1) (by decide))]
        simp [tupleT, seqT]
      | cons a F =>
        have hne : decide (((a :: F).map T.str).length = (0 : Int)) = false := by simp; omega
        refine ⟨a :: F, M1, ?_, st0.trans f3, f4, by simp⟩
        have hne : decide ((((a :: F).map T.str).length : Int) = 0) = false := by simp; omega
        have ht : tupleT [.ob M0.length] M1 = .ok (.tup ((a :: F).map .str)) M1 := by simp [tupleT, seqT, f2]
        simp only [bind_ok, bind_ex, bind_no, toS_ok, toS_ex, toS_no, sb_nx, sb_rt, sb_bk, sb_ct, sb_ex, sb_no, tu_nx, tu_ct, tu_bk, tu_rt, tu_ex, on_nx, on_ex, dV_, dC_, dBin_, dUn_, dNilA_, dConsA_, dTup_, dLst_, asB_bl, dB_, dAndB_, dOrB_, dNotB_, dAnd_, dOr_, dNot_, dIf_, dCallB_, dCall_, dMeth_, dFld_, dSetF_, dMake_, dNoPart_, asI_int, dPart_, dSlice_, dDic_, dChain_, dSeq_, dNil_, dPass_, dBreak_, dCont_, dExpr_, dRet_, dRetN_, dSet_, dIfS_, gN_, gsN_, gsC_, gT_, gSub_, dAsg_, dRaise_, dRaiseA_, dFor_, wSeq_, wEn_, wRng_, dLc_, dYes_, wipeT_nil, wipeT_cons, endF_nx, endF_rt, endF_ex, chk_str, chk_tup, items_str, items_tup, items_ob, seq_tup, len_tup, add_int, sub_int, lt_int', le_int', gt_int', ge_int', lt_str', gt_str', eq_int', eq_str', ne_int', ne_str', neg_int, int_int, int_bl, isnot_non, is_non, dFn1, dFn2, dFn3, dFn4, dFn5, List.replicate_succ, List.replicate_zero, List.getElem?_cons_zero, List.getElem?_cons_succ, List.set_cons_zero, List.set_cons_succ, List.length_cons, List.length_nil, if_true_, if_false_, if_T_, if_F_, Bool.not_true, Bool.not_false, Nat.reduceAdd, Nat.reduceSub, Nat.reduceLeDiff, Int.reduceSub, Int.reduceAdd, ge_iff_le, List.map_cons, List.map_nil, List.cons_append, List.nil_append, seq_ob he0, f1, len_ob f2] at hne ⊢
        simp only [hne, bind_ok, bind_ex, bind_no, toS_ok, toS_ex, toS_no, sb_nx, sb_rt, sb_bk, sb_ct, sb_ex, sb_no, tu_nx, tu_ct, tu_bk, tu_rt, tu_ex, on_nx, on_ex, dV_, dC_, dBin_, dUn_, dNilA_, dConsA_, dTup_, dLst_, asB_bl, dB_, dAndB_, dOrB_, dNotB_, dAnd_, dOr_, dNot_, dIf_, dCallB_, dCall_, dMeth_, dFld_, dSetF_, dMake_, dNoPart_, asI_int, dPart_, dSlice_, dDic_, dChain_, dSeq_, dNil_, dPass_, dBreak_, dCont_, dExpr_, dRet_, dRetN_, dSet_, dIfS_, gN_, gsN_, gsC_, gT_, gSub_, dAsg_, dRaise_, dRaiseA_, dFor_, wSeq_, wEn_, wRng_, dLc_, dYes_, wipeT_nil, wipeT_cons, endF_nx, endF_rt, endF_ex, chk_str, chk_tup, items_str, items_tup, items_ob, seq_tup, len_tup, add_int, sub_int, lt_int', le_int', gt_int', ge_int', lt_str', gt_str', eq_int', eq_str', ne_int', ne_str', neg_int, int_int, int_bl, isnot_non, is_non, dFn1, dFn2, dFn3, dFn4, dFn5, List.replicate_succ, List.replicate_zero, List.getElem?_cons_zero, List.getElem?_cons_succ, List.set_cons_zero, List.set_cons_succ, List.length_cons, List.length_nil, if_true_, if_false_, if_T_, if_F_, Bool.not_true, Bool.not_false, Nat.reduceAdd, Nat.reduceSub, Nat.reduceLeDiff, Int.reduceSub, Int.reduceAdd, ge_iff_le, List.map_cons, List.map_nil, List.cons_append, List.nil_append] at ht ⊢
        rw [ht]; rfl
    by_cases h8 : (8 : Int) < E.length
    · obtain ⟨d1, M1, e1, s1, l1, a1, b1⟩ := P__law_pick (m := 2) h (by omega)
      by_cases hd : d1 = 0
      · subst hd
        obtain ⟨d2, M2, e2, s2, l2, a2, b2⟩ := P__law_pick (m := 4) s1.tape (by omega)
        have he2 := (s1.trans s2).get he hp
        obtain ⟨F, M3, f1, f2, f3, f4, f5⟩ := lot_few (n := (1 + d2).toNat) s2.tape he2 hp hE.pos hE.few (by omega) [some (.ob p), some (.ob e), none, none, none, none] ⟨none, none, none, none, rfl⟩
        have he3 := ((s1.trans s2).trans f3).get he hp
        have lc : loopC (seqChk (.ob e) (E.map .str)) (gN 4) (dB (dBin (inT false) (dV 4) (dV 3))) (dV 4) [some (.ob p), some (.ob e), none, some (.ob M2.length), none, none] M3.length (E.map .str) (M3 ++ [.lst []]) =
            .ok (.ob M3.length) (M3 ++ [.lst ([] ++ ((E.map T.str).filter fun u => F.any fun y => y == strOf u).map id)]) := by
          refine loopC_pure (fun u => [some (.ob p), some (.ob e), none, some (.ob M2.length), some u, none]) _ _ _ _ (fun acc => chk_ob (look_app he3)) (fun u hu acc => ?_) (le_line (by have := hE.few; simp; omega))
          obtain ⟨k, hk, rfl⟩ := List.mem_map.mp hu
          refine ⟨rfl, ?_, fun _ => rfl⟩
          simp only [bind_ok, bind_ex, bind_no, toS_ok, toS_ex, toS_no, sb_nx, sb_rt, sb_bk, sb_ct, sb_ex, sb_no, tu_nx, tu_ct, tu_bk, tu_rt, tu_ex, on_nx, on_ex, dV_, dC_, dBin_, dUn_, dNilA_, dConsA_, dTup_, dLst_, asB_bl, dB_, dAndB_, dOrB_, dNotB_, dAnd_, dOr_, dNot_, dIf_, dCallB_, dCall_, dMeth_, dFld_, dSetF_, dMake_, dNoPart_, asI_int, dPart_, dSlice_, dDic_, dChain_, dSeq_, dNil_, dPass_, dBreak_, dCont_, dExpr_, dRet_, dRetN_, dSet_, dIfS_, gN_, gsN_, gsC_, gT_, gSub_, dAsg_, dRaise_, dRaiseA_, dFor_, wSeq_, wEn_, wRng_, dLc_, dYes_, wipeT_nil, wipeT_cons, endF_nx, endF_rt, endF_ex, chk_str, chk_tup, items_str, items_tup, items_ob, seq_tup, len_tup, add_int, sub_int, lt_int', le_int', gt_int', ge_int', lt_str', gt_str', eq_int', eq_str', ne_int', ne_str', neg_int, int_int, int_bl, isnot_non, is_non, dFn1, dFn2, dFn3, dFn4, dFn5, List.replicate_succ, List.replicate_zero, List.getElem?_cons_zero, List.getElem?_cons_succ, List.set_cons_zero, List.set_cons_succ, List.length_cons, List.length_nil, if_true_, if_false_, if_T_, if_F_, Bool.not_true, Bool.not_false, Nat.reduceAdd, Nat.reduceSub, Nat.reduceLeDiff, Int.reduceSub, Int.reduceAdd, ge_iff_le, List.map_cons, List.map_nil, List.cons_append, List.nil_append, in_strs (look_app f2)]
          rfl
        have ef : (([] : List T) ++ ((E.map T.str).filter fun u => F.any fun y => y == strOf u).map id) = (E.filter fun k => F.any fun y => y == k).map .str := by
          rw [List.map_id, List.nil_append, List.filter_map]
          rfl
        rw [ef] at lc
        have hs : List.Sublist (E.filter fun k => F.any fun y => y == k) E := List.filter_sublist
        have hne : (E.filter fun k => F.any fun y => y == k) ≠ [] := by
          cases F with
          | nil => simp at f4; omega
          | cons f F =>
            intro q
            have : f ∈ (E.filter fun k => (f :: F).any fun y => y == k) := by
              rw [List.mem_filter]
              exact ⟨f5 f (List.mem_cons_self), by simp⟩
            rw [q] at this; cases this
        refine ⟨E.filter fun k => F.any fun y => y == k, M3 ++ [.lst ((E.filter fun k => F.any fun y => y == k).map .str)] ++ [.lst ((E.filter fun k => F.any fun y => y == k).map .str)], ?_, (((s1.trans s2).trans f3).appR).appR, hs, hne⟩
        have hso : sortT [.ob M3.length] (M3 ++ [.lst ((E.filter fun k => F.any fun y => y == k).map .str)]) = .ok (.ob (M3 ++ [C.lst ((E.filter fun k => F.any fun y => y == k).map .str)]).length) (M3 ++ [.lst ((E.filter fun k => F.any fun y => y == k).map .str)] ++ [.lst ((E.filter fun k => F.any fun y => y == k).map .str)]) := by
          simp only [sortT, List.getElem?_concat_length, strs_map]
          rw [if_pos (by have := hs.length_le; have := hE.few; omega), isort_id (hE.ord.sublist hs)]
        have htu : tupleT [.ob (M3 ++ [C.lst ((E.filter fun k => F.any fun y => y == k).map .str)]).length] (M3 ++ [.lst ((E.filter fun k => F.any fun y => y == k).map .str)] ++ [.lst ((E.filter fun k => F.any fun y => y == k).map .str)]) = .ok (.tup ((E.filter fun k => F.any fun y => y == k).map .str)) (M3 ++ [.lst ((E.filter fun k => F.any fun y => y == k).map .str)] ++ [.lst ((E.filter fun k => F.any fun y => y == k).map .str)]) := by
          unfold tupleT
          simp only [seqT, List.getElem?_concat_length]
        simp only [b__law_lot, bind_ok, bind_ex, bind_no, toS_ok, toS_ex, toS_no, sb_nx, sb_rt, sb_bk, sb_ct, sb_ex, sb_no, tu_nx, tu_ct, tu_bk, tu_rt, tu_ex, on_nx, on_ex, dV_, dC_, dBin_, dUn_, dNilA_, dConsA_, dTup_, dLst_, asB_bl, dB_, dAndB_, dOrB_, dNotB_, dAnd_, dOr_, dNot_, dIf_, dCallB_, dCall_, dMeth_, dFld_, dSetF_, dMake_, dNoPart_, asI_int, dPart_, dSlice_, dDic_, dChain_, dSeq_, dNil_, dPass_, dBreak_, dCont_, dExpr_, dRet_, dRetN_, dSet_, dIfS_, gN_, gsN_, gsC_, gT_, gSub_, dAsg_, dRaise_, dRaiseA_, dFor_, wSeq_, wEn_, wRng_, dLc_, dYes_, wipeT_nil, wipeT_cons, endF_nx, endF_rt, endF_ex, chk_str, chk_tup, items_str, items_tup, items_ob, seq_tup, len_tup, add_int, sub_int, lt_int', le_int', gt_int', ge_int', lt_str', gt_str', eq_int', eq_str', ne_int', ne_str', neg_int, int_int, int_bl, isnot_non, is_non, dFn1, dFn2, dFn3, dFn4, dFn5, List.replicate_succ, List.replicate_zero, List.getElem?_cons_zero, List.getElem?_cons_succ, List.set_cons_zero, List.set_cons_succ, List.length_cons, List.length_nil, if_true_, if_false_, if_T_, if_F_, Bool.not_true, Bool.not_false, Nat.reduceAdd, Nat.reduceSub, Nat.reduceLeDiff, Int.reduceSub, Int.reduceAdd, ge_iff_le, List.map_cons, List.map_nil, List.cons_append, List.nil_append, len_ob he, List.length_map, decide_eq_true h8, e1, decide_true, e2, rng_ok1 (show -1000000 ≤ 1 + d2 ∧ 1 + d2 ≤ 1000000 by omega), f1, seq_ob he3, lc, hso, htu]
      · obtain ⟨L, M', g1, g2, g3, g4⟩ := tail M1 s1
        refine ⟨L, M', ?_, g2, g3, g4⟩
        simp only [bind_ok, bind_ex, bind_no, toS_ok, toS_ex, toS_no, sb_nx, sb_rt, sb_bk, sb_ct, sb_ex, sb_no, tu_nx, tu_ct, tu_bk, tu_rt, tu_ex, on_nx, on_ex, dV_, dC_, dBin_, dUn_, dNilA_, dConsA_, dTup_, dLst_, asB_bl, dB_, dAndB_, dOrB_, dNotB_, dAnd_, dOr_, dNot_, dIf_, dCallB_, dCall_, dMeth_, dFld_, dSetF_, dMake_, dNoPart_, asI_int, dPart_, dSlice_, dDic_, dChain_, dSeq_, dNil_, dPass_, dBreak_, dCont_, dExpr_, dRet_, dRetN_, dSet_, dIfS_, gN_, gsN_, gsC_, gT_, gSub_, dAsg_, dRaise_, dRaiseA_, dFor_, wSeq_, wEn_, wRng_, dLc_, dYes_, wipeT_nil, wipeT_cons, endF_nx, endF_rt, endF_ex, chk_str, chk_tup, items_str, items_tup, items_ob, seq_tup, len_tup, add_int, sub_int, lt_int', le_int', gt_int', ge_int', lt_str', gt_str', eq_int', eq_str', ne_int', ne_str', neg_int, int_int, int_bl, isnot_non, is_non, dFn1, dFn2, dFn3, dFn4, dFn5, List.replicate_succ, List.replicate_zero, List.getElem?_cons_zero, List.getElem?_cons_succ, List.set_cons_zero, List.set_cons_succ, List.length_cons, List.length_nil, if_true_, if_false_, if_T_, if_F_, Bool.not_true, Bool.not_false, Nat.reduceAdd, Nat.reduceSub, Nat.reduceLeDiff, Int.reduceSub, Int.reduceAdd, ge_iff_le, List.map_cons, List.map_nil, List.cons_append, List.nil_append] at g1
        simp only [b__law_lot, bind_ok, bind_ex, bind_no, toS_ok, toS_ex, toS_no, sb_nx, sb_rt, sb_bk, sb_ct, sb_ex, sb_no, tu_nx, tu_ct, tu_bk, tu_rt, tu_ex, on_nx, on_ex, dV_, dC_, dBin_, dUn_, dNilA_, dConsA_, dTup_, dLst_, asB_bl, dB_, dAndB_, dOrB_, dNotB_, dAnd_, dOr_, dNot_, dIf_, dCallB_, dCall_, dMeth_, dFld_, dSetF_, dMake_, dNoPart_, asI_int, dPart_, dSlice_, dDic_, dChain_, dSeq_, dNil_, dPass_, dBreak_, dCont_, dExpr_, dRet_, dRetN_, dSet_, dIfS_, gN_, gsN_, gsC_, gT_, gSub_, dAsg_, dRaise_, dRaiseA_, dFor_, wSeq_, wEn_, wRng_, dLc_, dYes_, wipeT_nil, wipeT_cons, endF_nx, endF_rt, endF_ex, chk_str, chk_tup, items_str, items_tup, items_ob, seq_tup, len_tup, add_int, sub_int, lt_int', le_int', gt_int', ge_int', lt_str', gt_str', eq_int', eq_str', ne_int', ne_str', neg_int, int_int, int_bl, isnot_non, is_non, dFn1, dFn2, dFn3, dFn4, dFn5, List.replicate_succ, List.replicate_zero, List.getElem?_cons_zero, List.getElem?_cons_succ, List.set_cons_zero, List.set_cons_succ, List.length_cons, List.length_nil, if_true_, if_false_, if_T_, if_F_, Bool.not_true, Bool.not_false, Nat.reduceAdd, Nat.reduceSub, Nat.reduceLeDiff, Int.reduceSub, Int.reduceAdd, ge_iff_le, List.map_cons, List.map_nil, List.cons_append, List.nil_append, len_ob he, List.length_map, decide_eq_true h8, e1, decide_eq_false hd]
        exact g1
    · obtain ⟨L, M', g1, g2, g3, g4⟩ := tail M (TStep.refl h)
      refine ⟨L, M', ?_, g2, g3, g4⟩
      simp only [bind_ok, bind_ex, bind_no, toS_ok, toS_ex, toS_no, sb_nx, sb_rt, sb_bk, sb_ct, sb_ex, sb_no, tu_nx, tu_ct, tu_bk, tu_rt, tu_ex, on_nx, on_ex, dV_, dC_, dBin_, dUn_, dNilA_, dConsA_, dTup_, dLst_, asB_bl, dB_, dAndB_, dOrB_, dNotB_, dAnd_, dOr_, dNot_, dIf_, dCallB_, dCall_, dMeth_, dFld_, dSetF_, dMake_, dNoPart_, asI_int, dPart_, dSlice_, dDic_, dChain_, dSeq_, dNil_, dPass_, dBreak_, dCont_, dExpr_, dRet_, dRetN_, dSet_, dIfS_, gN_, gsN_, gsC_, gT_, gSub_, dAsg_, dRaise_, dRaiseA_, dFor_, wSeq_, wEn_, wRng_, dLc_, dYes_, wipeT_nil, wipeT_cons, endF_nx, endF_rt, endF_ex, chk_str, chk_tup, items_str, items_tup, items_ob, seq_tup, len_tup, add_int, sub_int, lt_int', le_int', gt_int', ge_int', lt_str', gt_str', eq_int', eq_str', ne_int', ne_str', neg_int, int_int, int_bl, isnot_non, is_non, dFn1, dFn2, dFn3, dFn4, dFn5, List.replicate_succ, List.replicate_zero, List.getElem?_cons_zero, List.getElem?_cons_succ, List.set_cons_zero, List.set_cons_succ, List.length_cons, List.length_nil, if_true_, if_false_, if_T_, if_F_, Bool.not_true, Bool.not_false, Nat.reduceAdd, Nat.reduceSub, Nat.reduceLeDiff, Int.reduceSub, Int.reduceAdd, ge_iff_le, List.map_cons, List.map_nil, List.cons_append, List.nil_append] at g1
      simp only [b__law_lot, bind_ok, bind_ex, bind_no, toS_ok, toS_ex, toS_no, sb_nx, sb_rt, sb_bk, sb_ct, sb_ex, sb_no, tu_nx, tu_ct, tu_bk, tu_rt, tu_ex, on_nx, on_ex, dV_, dC_, dBin_, dUn_, dNilA_, dConsA_, dTup_, dLst_, asB_bl, dB_, dAndB_, dOrB_, dNotB_, dAnd_, dOr_, dNot_, dIf_, dCallB_, dCall_, dMeth_, dFld_, dSetF_, dMake_, dNoPart_, asI_int, dPart_, dSlice_, dDic_, dChain_, dSeq_, dNil_, dPass_, dBreak_, dCont_, dExpr_, dRet_, dRetN_, dSet_, dIfS_, gN_, gsN_, gsC_, gT_, gSub_, dAsg_, dRaise_, dRaiseA_, dFor_, wSeq_, wEn_, wRng_, dLc_, dYes_, wipeT_nil, wipeT_cons, endF_nx, endF_rt, endF_ex, chk_str, chk_tup, items_str, items_tup, items_ob, seq_tup, len_tup, add_int, sub_int, lt_int', le_int', gt_int', ge_int', lt_str', gt_str', eq_int', eq_str', ne_int', ne_str', neg_int, int_int, int_bl, isnot_non, is_non, dFn1, dFn2, dFn3, dFn4, dFn5, List.replicate_succ, List.replicate_zero, List.getElem?_cons_zero, List.getElem?_cons_succ, List.set_cons_zero, List.set_cons_succ, List.length_cons, List.length_nil, if_true_, if_false_, if_T_, if_F_, Bool.not_true, Bool.not_false, Nat.reduceAdd, Nat.reduceSub, Nat.reduceLeDiff, Int.reduceSub, Int.reduceAdd, ge_iff_le, List.map_cons, List.map_nil, List.cons_append, List.nil_append, len_ob he, List.length_map, decide_eq_false h8]
      exact g1
  obtain ⟨L, M1, r1, r2, r3, r4⟩ := raw
  obtain ⟨M', g1, g2, g3⟩ := gc_t r1 h r2 (by
    rw [clT]
    have : ∀ (n : Nat) (L : List PySem.Str), clTs n (L.map .str) = true := by
      intro n L
      induction L with
      | nil => rfl
      | cons a r ih => simp [clTs, clT, ih]
    exact this _ _)
  exact ⟨L, M', g1, g2, g3, lot_sub hE r3 r4, by
    simp only [okP, Bool.and_eq_true, List.all_eq_true, decide_eq_true_eq]
    refine ⟨fun u hu => ?_, by have := r3.length_le; have := hE.few; simp; omega⟩
    obtain ⟨k, hk, rfl⟩ := List.mem_map.mp hu
    have := hE.short k (r3.subset hk)
    exact decide_eq_true (by omega)⟩
end HB

set_option maxHeartbeats 1000000
namespace HB
open PySem DN
theorem look_new {M G : Mem} {j : Nat} : (M ++ G)[M.length + j]? = G[j]? := by
  rw [List.getElem?_append_right (by omega)]
  simp
theorem add_new {M G : Mem} {i j : Nat} : addT (.ob (M.length + i)) (.ob (M.length + j)) (M ++ G) = (match G[i]?, G[j]? with
    | some (.lst x), some (.lst y) => if x.length + y.length ≤ sizeLine then .ok (.ob (M.length + G.length)) (M ++ (G ++ [.lst (x ++ y)])) else .no
    | _, _ => .no) := by
  simp only [addT, look_new, List.length_append, List.append_assoc]
  all_goals rfl
theorem len_new {M G : Mem} {i : Nat} : lenT [.ob (M.length + i)] (M ++ G) = (match G[i]? with
    | some (.lst x) => .ok (.int x.length) (M ++ G)
    | some (.ro x) => .ok (.int x.length) (M ++ G)
    | _ => .no) := by
  simp only [lenT, seqT, look_new]
  cases G[i]? with
  | none => rfl
  | some c => cases c <;> rfl
def oddL (n : Nat) : List T := [.non, .bl true, .bl false, .int 0, .int 1, .int (-1), .int 100000000000000000000, .str "", .str "a", .str "ab", .str "ba", .str "A", .str "aa", .str "abcdef", .tup [], .ob n, .ob (n + 1), .tup [.str ""],
  .tup [.str "a"], .ob (n + 3), .tup [.str "a", .str "a"], .tup [.str "b", .str "a"], .tup [.str "ab", .str "a"], .tup [.tup [.str "a"]], .tup [.tup [.str "a"], .tup []], .tup [.int 1], .tup [.str "a", .int 1],
  .tup [.bl true, .str "a"], .tup [.str "z"], .tup [.tup [.str "a"], .ob (n + 6)], .str "a,b", .tup [.int 0, .int 1], .tup [.str "has", .str "a"], .tup [.str "a", .str "b", .str ""]]
theorem odd_ok (n : Nat) : ∀ u, u ∈ oddL n → okP u = true ∨ u = .ob n ∨ u = .ob (n + 1) ∨ u = .ob (n + 3) ∨ u = .tup [.tup [.str "a"], .ob (n + 6)] := by
  intro u hu
  simp only [oddL, List.mem_cons, List.not_mem_nil, or_false] at hu
  rcases hu with rfl | rfl | rfl | rfl | rfl | rfl | rfl | rfl | rfl | rfl | rfl | rfl | rfl | rfl | rfl | rfl | rfl | rfl | rfl | rfl | rfl | rfl | rfl | rfl | rfl | rfl | rfl | rfl | rfl | rfl | rfl | rfl | rfl | rfl <;> first | exact .inl rfl | exact .inr (.inl rfl) | exact .inr (.inr (.inl rfl)) | exact .inr (.inr (.inr (.inl rfl))) | exact .inr (.inr (.inr (.inr rfl)))
theorem P__law_odd {p : Nat} {M : Mem} (h : Tape M p) : ∃ (u : T) (M' : Mem), d__law_odd [.ob p] M = .ok u M' ∧ TStep M M' p ∧ Things cs u M' := by
  have l0 : ∀ G : Mem, (M ++ G).length = M.length + G.length := fun G => by simp
  have raw : ∃ (G : Mem), (∀ r, (d__law_pick [.ob p, .int 34] (M ++ G)).bind (fun y M2 => ixT (.ob (M.length + 8)) y M2) = r → dFn 1 2 b__law_odd [.ob p] M = endF (r.toS [some (.ob p), some (.ob (M.length + 8))] fun t M1 => .rt t M1)) ∧ G[8]? = some (.lst (oddL M.length)) ∧ G[0]? = some (.lst []) ∧ G[1]? = some (.dic 0 []) ∧ G[3]? = some (.lst [.str "a"]) ∧ G[6]? = some (.lst [.str "a"]) := by
    refine ⟨[.lst [], .dic 0 [], .lst ((oddL M.length).take 18), .lst [.str "a"], .lst (((oddL M.length).drop 18).take 9), .lst ((oddL M.length).take 27), .lst [.str "a"], .lst ((oddL M.length).drop 27), .lst (oddL M.length)], fun r hr => ?_, rfl, rfl, rfl, rfl, rfl⟩
    simp only [b__law_odd, bind_ok, bind_ex, bind_no, toS_ok, toS_ex, toS_no, sb_nx, sb_rt, sb_bk, sb_ct, sb_ex, sb_no, tu_nx, tu_ct, tu_bk, tu_rt, tu_ex, on_nx, on_ex, dV_, dC_, dBin_, dUn_, dNilA_, dConsA_, dTup_, dLst_, asB_bl, dB_, dAndB_, dOrB_, dNotB_, dAnd_, dOr_, dNot_, dIf_, dCallB_, dCall_, dMeth_, dFld_, dSetF_, dMake_, dNoPart_, asI_int, dPart_, dSlice_, dDic_, dChain_, dSeq_, dNil_, dPass_, dBreak_, dCont_, dExpr_, dRet_, dRetN_, dSet_, dIfS_, gN_, gsN_, gsC_, gT_, gSub_, dAsg_, dRaise_, dRaiseA_, dFor_, wSeq_, wEn_, wRng_, dLc_, dYes_, wipeT_nil, wipeT_cons, endF_nx, endF_rt, endF_ex, chk_str, chk_tup, items_str, items_tup, items_ob, seq_tup, len_tup, add_int, sub_int, lt_int', le_int', gt_int', ge_int', lt_str', gt_str', eq_int', eq_str', ne_int', ne_str', neg_int, int_int, int_bl, isnot_non, is_non, dFn1, dFn2, dFn3, dFn4, dFn5, List.replicate_succ, List.replicate_zero, List.getElem?_cons_zero, List.getElem?_cons_succ, List.set_cons_zero, List.set_cons_succ, List.length_cons, List.length_nil, if_true_, if_false_, if_T_, if_F_, Bool.not_true, Bool.not_false, Nat.reduceAdd, Nat.reduceSub, Nat.reduceLeDiff, Int.reduceSub, Int.reduceAdd, ge_iff_le, List.map_cons, List.map_nil, List.cons_append, List.nil_append, pow_20, l0, List.append_assoc, if_pos (le_line' (n := 0) (by decide)), if_pos (le_line' (n := 1) (by decide)), if_pos (le_line' (n := 2) (by decide)), if_pos (le_line' (n := 3) (by decide)), if_pos (le_line' (n := 18) (by decide)), if_pos (le_line' (n := 9) (by decide)), if_pos (le_line' (n := 7) (by decide)), if_pos (le_line' (n := 27) (by decide)), if_pos (le_line' (n := 34) (by decide)), add_new, len_new]
    have hr' := congrArg (fun r : R T => endF (r.toS [some (.ob p), some (.ob (M.length + 8))] fun t M1 => .rt t M1)) hr
    exact hr'
  obtain ⟨G, hG, g8, g0, g1, g3, g6⟩ := raw
  obtain ⟨d, M1, e, st, hl, h0, h1⟩ := P__law_pick (m := 34) (M := M ++ G) h.app (by omega)
  have hp := h.lt
  have k : ∀ {j : Nat} {c : C}, G[j]? = some c → M1[M.length + j]? = some c := fun {j c} hj => st.get (by rw [look_new]; exact hj) (by omega)
  obtain ⟨u, hu, _, ei⟩ := ix_pick (k g8) ⟨h0, h1⟩
  have ef := hG (.ok u M1) (by rw [e, bind_ok, ei])
  rw [toS_ok, endF_rt] at ef
  have k0 := k g0
  have k1 := k g1
  have k3 := k g3
  have k6 := k g6
  rw [Nat.add_zero] at k0
  have st1 : TStep M M1 p := (TStep.app h).trans st
  by_cases hc : clT M.length u = true
  · obtain ⟨M', a1, a2, _⟩ := gc_t ef h st1 hc
    refine ⟨u, M', a1, a2, ?_⟩
    rcases odd_ok M.length u hu with q | rfl | rfl | rfl | rfl
    · exact okP_things q
    · simp [clT] at hc <;> omega
    · simp [clT] at hc <;> omega
    · simp [clT] at hc <;> omega
    · simp [clT, clTs] at hc <;> omega
  · refine ⟨u, M1, ?_, st1, ?_⟩
    · unfold d__law_odd gcF
      rw [ef]
      unfold gcR
      dsimp only
      rw [if_neg (by rw [Bool.and_eq_true]; exact fun z => hc z.2)]
    · rcases odd_ok M.length u hu with q | rfl | rfl | rfl | rfl
      · exact okP_things q
      · exact ob_things k0 trivial
      · exact ob_things k1 trivial
      · exact ob_things k3 trivial
      · refine tup_things (fun u hu => ?_) (show 2 ≤ 100000 by omega)
        simp only [List.mem_cons, List.not_mem_nil, or_false] at hu
        rcases hu with rfl | rfl
        · exact okQ_thing rfl
        · exact ob_thing k6 trivial
theorem gc_or {f : FD} {ts : List T} {M M1 : Mem} {t : T} {p : Nat} (e : f ts M = .ok t M1) (h : Tape M p) (st : TStep M M1 p) : ∃ M', gcF f ts M = .ok t M' ∧ TStep M M' p := by
  by_cases hc : clT M.length t = true
  · obtain ⟨M', a1, a2, _⟩ := gc_t e h st hc
    exact ⟨M', a1, a2⟩
  · refine ⟨M1, ?_, st⟩
    unfold gcF
    rw [e]
    unfold gcR
    dsimp only
    rw [if_neg (by rw [Bool.and_eq_true]; exact fun z => hc z.2)]
theorem P__law_deep {p : Nat} {M : Mem} (h : Tape M p) : ∃ (u : T) (M' : Mem), d__law_deep [.ob p] M = .ok u M' ∧ TStep M M' p ∧ ∀ M2, Things cs u M2 := by
  obtain ⟨d, M1, e, st, hl, h0, h1⟩ := P__law_pick (m := 4) (M := M ++ [.lst [.int 0, .tup [], .str "a", .non]]) h.app (by omega)
  have hk : M1[M.length]? = some (.lst [.int 0, .tup [], .str "a", .non]) := st.get List.getElem?_concat_length (by have := h.lt; omega)
  obtain ⟨u0, hu0, _, ei⟩ := ix_pick hk ⟨h0, h1⟩
  have st1 : TStep M M1 p := (TStep.app h).trans st
  have lp : ∀ us0 : List T, us0.length = 37 → (∀ (k : Nat) (h : k < us0.length), us0[k] = .int (k : Int)) → ∀ r, r = loopF (fun _ => true) (gN 2) (dSet 1 (dIf (dB (dBin eqT (dBin modT (dCallB intT (dConsA (dV 2) dNilA)) (dC (.int 3))) (dC (.int 1)))) (dLst (dConsA (dV 1) dNilA)) (dTup (dConsA (dV 1) dNilA)))) us0 [some (.ob p), some u0, none] M1 →
      ∃ w x M', r = .nx [some (.ob p), some (.tup [.tup w]), x] M' ∧ TStep M M' p := by
    intro us0 hlen hget r hr
    subst hr
    refine loopF_run (fun us ρ M' => ∃ (k : Nat) (v : T) (x : Option T), us = us0.drop k ∧ ρ = [some (.ob p), some v, x] ∧ TStep M M' p ∧ (k = 36 → ∃ w, v = .tup w) ∧ (37 ≤ k → ∃ w, v = .tup [.tup w]))
      (fun r => ∃ w x M', r = .nx [some (.ob p), some (.tup [.tup w]), x] M' ∧ TStep M M' p) ?_ ?_ _ _ _ ?_
    · rintro ρ M' ⟨k, v, x, e1, rfl, st, h2, h3⟩
      have hk : 37 ≤ k := by
        have := congrArg List.length e1
        simp [hlen] at this
        omega
      obtain ⟨w, rfl⟩ := h3 hk
      exact ⟨rfl, w, x, M', rfl, st⟩
    · rintro u us ρ M' ⟨k, v, x, e1, rfl, st, h2, h3⟩
      have hk : k < 37 := by
        have := congrArg List.length e1
        simp [hlen] at this
        omega
      have hl' : k < us0.length := by rw [hlen]; exact hk
      rw [List.drop_eq_getElem_cons hl'] at e1
      simp only [List.cons.injEq] at e1
      obtain ⟨rfl, rfl⟩ := e1
      have eu := hget k hl'
      rw [eu]
      refine ⟨rfl, [some (.ob p), some v, some (.int k)], M', rfl, .inl ?_⟩
      by_cases hm : ((k : Int) % 3) = 1
      · refine ⟨[some (.ob p), some (.ob M'.length), some (.int k)], M' ++ [.lst [v]], ?_, k + 1, _, _, rfl, rfl, st.appR, fun q => ?_, fun q => ?_⟩
        · simp only [bind_ok, bind_ex, bind_no, toS_ok, toS_ex, toS_no, sb_nx, sb_rt, sb_bk, sb_ct, sb_ex, sb_no, tu_nx, tu_ct, tu_bk, tu_rt, tu_ex, on_nx, on_ex, dV_, dC_, dBin_, dUn_, dNilA_, dConsA_, dTup_, dLst_, asB_bl, dB_, dAndB_, dOrB_, dNotB_, dAnd_, dOr_, dNot_, dIf_, dCallB_, dCall_, dMeth_, dFld_, dSetF_, dMake_, dNoPart_, asI_int, dPart_, dSlice_, dDic_, dChain_, dSeq_, dNil_, dPass_, dBreak_, dCont_, dExpr_, dRet_, dRetN_, dSet_, dIfS_, gN_, gsN_, gsC_, gT_, gSub_, dAsg_, dRaise_, dRaiseA_, dFor_, wSeq_, wEn_, wRng_, dLc_, dYes_, wipeT_nil, wipeT_cons, endF_nx, endF_rt, endF_ex, chk_str, chk_tup, items_str, items_tup, items_ob, seq_tup, len_tup, add_int, sub_int, lt_int', le_int', gt_int', ge_int', lt_str', gt_str', eq_int', eq_str', ne_int', ne_str', neg_int, int_int, int_bl, isnot_non, is_non, dFn1, dFn2, dFn3, dFn4, dFn5, List.replicate_succ, List.replicate_zero, List.getElem?_cons_zero, List.getElem?_cons_succ, List.set_cons_zero, List.set_cons_succ, List.length_cons, List.length_nil, if_true_, if_false_, if_T_, if_F_, Bool.not_true, Bool.not_false, Nat.reduceAdd, Nat.reduceSub, Nat.reduceLeDiff, Int.reduceSub, Int.reduceAdd, ge_iff_le, List.map_cons, List.map_nil, List.cons_append, List.nil_append, mod_ok (show (0 : Int) < 3 by omega), decide_eq_true hm, if_pos (le_line' (n := 1) (by decide))]
        · omega
        · omega
      · refine ⟨[some (.ob p), some (.tup [v]), some (.int k)], M', ?_, k + 1, _, _, rfl, rfl, st, fun q => ⟨_, rfl⟩, fun q => ?_⟩
        · simp only [bind_ok, bind_ex, bind_no, toS_ok, toS_ex, toS_no, sb_nx, sb_rt, sb_bk, sb_ct, sb_ex, sb_no, tu_nx, tu_ct, tu_bk, tu_rt, tu_ex, on_nx, on_ex, dV_, dC_, dBin_, dUn_, dNilA_, dConsA_, dTup_, dLst_, asB_bl, dB_, dAndB_, dOrB_, dNotB_, dAnd_, dOr_, dNot_, dIf_, dCallB_, dCall_, dMeth_, dFld_, dSetF_, dMake_, dNoPart_, asI_int, dPart_, dSlice_, dDic_, dChain_, dSeq_, dNil_, dPass_, dBreak_, dCont_, dExpr_, dRet_, dRetN_, dSet_, dIfS_, gN_, gsN_, gsC_, gT_, gSub_, dAsg_, dRaise_, dRaiseA_, dFor_, wSeq_, wEn_, wRng_, dLc_, dYes_, wipeT_nil, wipeT_cons, endF_nx, endF_rt, endF_ex, chk_str, chk_tup, items_str, items_tup, items_ob, seq_tup, len_tup, add_int, sub_int, lt_int', le_int', gt_int', ge_int', lt_str', gt_str', eq_int', eq_str', ne_int', ne_str', neg_int, int_int, int_bl, isnot_non, is_non, dFn1, dFn2, dFn3, dFn4, dFn5, List.replicate_succ, List.replicate_zero, List.getElem?_cons_zero, List.getElem?_cons_succ, List.set_cons_zero, List.set_cons_succ, List.length_cons, List.length_nil, if_true_, if_false_, if_T_, if_F_, Bool.not_true, Bool.not_false, Nat.reduceAdd, Nat.reduceSub, Nat.reduceLeDiff, Int.reduceSub, Int.reduceAdd, ge_iff_le, List.map_cons, List.map_nil, List.cons_append, List.nil_append, mod_ok (show (0 : Int) < 3 by omega), decide_eq_false hm, if_pos (le_line' (n := 1) (by decide))]
        · obtain ⟨w, rfl⟩ := h2 (by omega)
          exact ⟨w, rfl⟩
    · exact ⟨0, u0, none, rfl, rfl, st1, fun q => by omega, fun q => by omega⟩
  obtain ⟨w, x, M', e1, e2⟩ := lp (rngT 0 37) rngT_len (fun k h => by simp [rngT]) _ rfl
  have ef : dFn 1 3 b__law_deep [.ob p] M = .ok (.tup [.tup w]) M' := by
    simp only [b__law_deep, bind_ok, bind_ex, bind_no, toS_ok, toS_ex, toS_no, sb_nx, sb_rt, sb_bk, sb_ct, sb_ex, sb_no, tu_nx, tu_ct, tu_bk, tu_rt, tu_ex, on_nx, on_ex, dV_, dC_, dBin_, dUn_, dNilA_, dConsA_, dTup_, dLst_, asB_bl, dB_, dAndB_, dOrB_, dNotB_, dAnd_, dOr_, dNot_, dIf_, dCallB_, dCall_, dMeth_, dFld_, dSetF_, dMake_, dNoPart_, asI_int, dPart_, dSlice_, dDic_, dChain_, dSeq_, dNil_, dPass_, dBreak_, dCont_, dExpr_, dRet_, dRetN_, dSet_, dIfS_, gN_, gsN_, gsC_, gT_, gSub_, dAsg_, dRaise_, dRaiseA_, dFor_, wSeq_, wEn_, wRng_, dLc_, dYes_, wipeT_nil, wipeT_cons, endF_nx, endF_rt, endF_ex, chk_str, chk_tup, items_str, items_tup, items_ob, seq_tup, len_tup, add_int, sub_int, lt_int', le_int', gt_int', ge_int', lt_str', gt_str', eq_int', eq_str', ne_int', ne_str', neg_int, int_int, int_bl, isnot_non, is_non, dFn1, dFn2, dFn3, dFn4, dFn5, List.replicate_succ, List.replicate_zero, List.getElem?_cons_zero, List.getElem?_cons_succ, List.set_cons_zero, List.set_cons_succ, List.length_cons, List.length_nil, if_true_, if_false_, if_T_, if_F_, Bool.not_true, Bool.not_false, Nat.reduceAdd, Nat.reduceSub, Nat.reduceLeDiff, Int.reduceSub, Int.reduceAdd, ge_iff_le, List.map_cons, List.map_nil, List.cons_append, List.nil_append, if_pos (le_line' (n := 4) (by decide)), if_pos (le_line' (n := 0) (by decide)), e, ei, rng_ok1 (show -1000000 ≤ (37 : Int) ∧ (37 : Int) ≤ 1000000 by omega)]
    have e37 : Int.toNat 37 = 37 := rfl
    rw [e37, e1]
    rfl
  obtain ⟨M2, a1, a2⟩ := gc_or ef h e2
  exact ⟨_, M2, a1, a2, fun M2 => tup_things (fun u hu => by rw [List.mem_singleton.mp hu]; exact okQ_thing rfl) (show 1 ≤ 100000 by omega)⟩
end HB

set_option maxHeartbeats 1000000
namespace HB
open PySem DN
/-! ### marks -/
theorem P_is_marks {t : T} {M : Mem} (h : Thing cs t M) : d_is_marks [t] M = .ok (.bl (marksB t)) M := by
  cases t with
  | str k =>
    have hk := h.str k rfl
    by_cases h5 : (5 : Int) < k.length
    · refine gcF_same ?_
      simp only [b_is_marks, bind_ok, bind_ex, bind_no, toS_ok, toS_ex, toS_no, sb_nx, sb_rt, sb_bk, sb_ct, sb_ex, sb_no, tu_nx, tu_ct, tu_bk, tu_rt, tu_ex, on_nx, on_ex, dV_, dC_, dBin_, dUn_, dNilA_, dConsA_, dTup_, dLst_, asB_bl, dB_, dAndB_, dOrB_, dNotB_, dAnd_, dOr_, dNot_, dIf_, dCallB_, dCall_, dMeth_, dFld_, dSetF_, dMake_, dNoPart_, asI_int, dPart_, dSlice_, dDic_, dChain_, dSeq_, dNil_, dPass_, dBreak_, dCont_, dExpr_, dRet_, dRetN_, dSet_, dIfS_, gN_, gsN_, gsC_, gT_, gSub_, dAsg_, dRaise_, dRaiseA_, dFor_, wSeq_, wEn_, wRng_, dLc_, dYes_, wipeT_nil, wipeT_cons, endF_nx, endF_rt, endF_ex, chk_str, chk_tup, items_str, items_tup, items_ob, seq_tup, len_tup, add_int, sub_int, lt_int', le_int', gt_int', ge_int', lt_str', gt_str', eq_int', eq_str', ne_int', ne_str', neg_int, int_int, int_bl, isnot_non, is_non, dFn1, dFn2, dFn3, dFn4, dFn5, List.replicate_succ, List.replicate_zero, List.getElem?_cons_zero, List.getElem?_cons_succ, List.set_cons_zero, List.set_cons_succ, List.length_cons, List.length_nil, if_true_, if_false_, if_T_, if_F_, Bool.not_true, Bool.not_false, Nat.reduceAdd, Nat.reduceSub, Nat.reduceLeDiff, Int.reduceSub, Int.reduceAdd, ge_iff_le, List.map_cons, List.map_nil, List.cons_append, List.nil_append, isiB_str, len_str (le_line' hk), decide_eq_true h5, marksB]
      have : decide (k.length ≤ 5) = false := by simp; omega
      rw [this]; rfl
    · have h5' : decide (k.length ≤ 5) = true := by simp; omega
      refine gcF_app (G := [.lst ((signsT k).map fun u => .bl (inM "abcdefghijklmnopqrstuvwxyz" u))]) ?_ rfl
      have hl : loopC (seqChk (.str k) (signsT k)) (gN 1) dYes (dBin (inT false) (dV 1) (dC (.str "abcdefghijklmnopqrstuvwxyz"))) [some (.str k), none] M.length (signsT k) (M ++ [.lst []]) = .ok (.ob M.length) (M ++ [.lst ([] ++ ((signsT k).filter fun _ => true).map fun u => .bl (inM "abcdefghijklmnopqrstuvwxyz" u))]) := by
        refine loopC_pure (fun u => [some (.str k), some u]) _ _ _ _ (fun _ => chk_str) (fun u hu acc => ?_) (le_line (by rw [sgn_signs, List.length_map, sgn_len]; exact hk))
        obtain ⟨c, rfl⟩ := signs_mem hu
        refine ⟨rfl, rfl, fun _ => ?_⟩
        simp only [bind_ok, bind_ex, bind_no, toS_ok, toS_ex, toS_no, sb_nx, sb_rt, sb_bk, sb_ct, sb_ex, sb_no, tu_nx, tu_ct, tu_bk, tu_rt, tu_ex, on_nx, on_ex, dV_, dC_, dBin_, dUn_, dNilA_, dConsA_, dTup_, dLst_, asB_bl, dB_, dAndB_, dOrB_, dNotB_, dAnd_, dOr_, dNot_, dIf_, dCallB_, dCall_, dMeth_, dFld_, dSetF_, dMake_, dNoPart_, asI_int, dPart_, dSlice_, dDic_, dChain_, dSeq_, dNil_, dPass_, dBreak_, dCont_, dExpr_, dRet_, dRetN_, dSet_, dIfS_, gN_, gsN_, gsC_, gT_, gSub_, dAsg_, dRaise_, dRaiseA_, dFor_, wSeq_, wEn_, wRng_, dLc_, dYes_, wipeT_nil, wipeT_cons, endF_nx, endF_rt, endF_ex, chk_str, chk_tup, items_str, items_tup, items_ob, seq_tup, len_tup, add_int, sub_int, lt_int', le_int', gt_int', ge_int', lt_str', gt_str', eq_int', eq_str', ne_int', ne_str', neg_int, int_int, int_bl, isnot_non, is_non, dFn1, dFn2, dFn3, dFn4, dFn5, List.replicate_succ, List.replicate_zero, List.getElem?_cons_zero, List.getElem?_cons_succ, List.set_cons_zero, List.set_cons_succ, List.length_cons, List.length_nil, if_true_, if_false_, if_T_, if_F_, Bool.not_true, Bool.not_false, Nat.reduceAdd, Nat.reduceSub, Nat.reduceLeDiff, Int.reduceSub, Int.reduceAdd, ge_iff_le, List.map_cons, List.map_nil, List.cons_append, List.nil_append]
        exact in_sign
      rw [List.filter_eq_self.mpr (fun _ _ => rfl)] at hl
      simp only [b_is_marks, bind_ok, bind_ex, bind_no, toS_ok, toS_ex, toS_no, sb_nx, sb_rt, sb_bk, sb_ct, sb_ex, sb_no, tu_nx, tu_ct, tu_bk, tu_rt, tu_ex, on_nx, on_ex, dV_, dC_, dBin_, dUn_, dNilA_, dConsA_, dTup_, dLst_, asB_bl, dB_, dAndB_, dOrB_, dNotB_, dAnd_, dOr_, dNot_, dIf_, dCallB_, dCall_, dMeth_, dFld_, dSetF_, dMake_, dNoPart_, asI_int, dPart_, dSlice_, dDic_, dChain_, dSeq_, dNil_, dPass_, dBreak_, dCont_, dExpr_, dRet_, dRetN_, dSet_, dIfS_, gN_, gsN_, gsC_, gT_, gSub_, dAsg_, dRaise_, dRaiseA_, dFor_, wSeq_, wEn_, wRng_, dLc_, dYes_, wipeT_nil, wipeT_cons, endF_nx, endF_rt, endF_ex, chk_str, chk_tup, items_str, items_tup, items_ob, seq_tup, len_tup, add_int, sub_int, lt_int', le_int', gt_int', ge_int', lt_str', gt_str', eq_int', eq_str', ne_int', ne_str', neg_int, int_int, int_bl, isnot_non, is_non, dFn1, dFn2, dFn3, dFn4, dFn5, List.replicate_succ, List.replicate_zero, List.getElem?_cons_zero, List.getElem?_cons_succ, List.set_cons_zero, List.set_cons_succ, List.length_cons, List.length_nil, if_true_, if_false_, if_T_, if_F_, Bool.not_true, Bool.not_false, Nat.reduceAdd, Nat.reduceSub, Nat.reduceLeDiff, Int.reduceSub, Int.reduceAdd, ge_iff_le, List.map_cons, List.map_nil, List.cons_append, List.nil_append, isiB_str, len_str (le_line' hk), decide_eq_false h5, hl, allT, List.getElem?_concat_length, bls_of, P_is_ascending (row_str hk)]
      simp only [marksB, h5', List.all_map, Bool.true_and]
      cases e : (signsT k).all (id ∘ fun u => inM "abcdefghijklmnopqrstuvwxyz" u) with
      | true =>
        have e' : (signsT k).all (inM "abcdefghijklmnopqrstuvwxyz") = true := e
        rw [e']; rfl
      | false =>
        have e' : (signsT k).all (inM "abcdefghijklmnopqrstuvwxyz") = false := e
        rw [e']; rfl
  | _ =>
    refine gcF_same ?_
    simp only [b_is_marks, bind_ok, bind_ex, bind_no, toS_ok, toS_ex, toS_no, sb_nx, sb_rt, sb_bk, sb_ct, sb_ex, sb_no, tu_nx, tu_ct, tu_bk, tu_rt, tu_ex, on_nx, on_ex, dV_, dC_, dBin_, dUn_, dNilA_, dConsA_, dTup_, dLst_, asB_bl, dB_, dAndB_, dOrB_, dNotB_, dAnd_, dOr_, dNot_, dIf_, dCallB_, dCall_, dMeth_, dFld_, dSetF_, dMake_, dNoPart_, asI_int, dPart_, dSlice_, dDic_, dChain_, dSeq_, dNil_, dPass_, dBreak_, dCont_, dExpr_, dRet_, dRetN_, dSet_, dIfS_, gN_, gsN_, gsC_, gT_, gSub_, dAsg_, dRaise_, dRaiseA_, dFor_, wSeq_, wEn_, wRng_, dLc_, dYes_, wipeT_nil, wipeT_cons, endF_nx, endF_rt, endF_ex, chk_str, chk_tup, items_str, items_tup, items_ob, seq_tup, len_tup, add_int, sub_int, lt_int', le_int', gt_int', ge_int', lt_str', gt_str', eq_int', eq_str', ne_int', ne_str', neg_int, int_int, int_bl, isnot_non, is_non, dFn1, dFn2, dFn3, dFn4, dFn5, List.replicate_succ, List.replicate_zero, List.getElem?_cons_zero, List.getElem?_cons_succ, List.set_cons_zero, List.set_cons_succ, List.length_cons, List.length_nil, if_true_, if_false_, if_T_, if_F_, Bool.not_true, Bool.not_false, Nat.reduceAdd, Nat.reduceSub, Nat.reduceLeDiff, Int.reduceSub, Int.reduceAdd, ge_iff_le, List.map_cons, List.map_nil, List.cons_append, List.nil_append, isi_str h.ty]
    rfl
theorem P__law_is_marks {t : T} {M : Mem} (h : Thing cs t M) : d__law_is_marks [t] M = .ok (.bl (marksB t)) M := by
  cases t with
  | str k =>
    have hk := h.str k rfl
    by_cases h5 : (5 : Int) < k.length
    · refine gcF_same ?_
      simp only [b__law_is_marks, bind_ok, bind_ex, bind_no, toS_ok, toS_ex, toS_no, sb_nx, sb_rt, sb_bk, sb_ct, sb_ex, sb_no, tu_nx, tu_ct, tu_bk, tu_rt, tu_ex, on_nx, on_ex, dV_, dC_, dBin_, dUn_, dNilA_, dConsA_, dTup_, dLst_, asB_bl, dB_, dAndB_, dOrB_, dNotB_, dAnd_, dOr_, dNot_, dIf_, dCallB_, dCall_, dMeth_, dFld_, dSetF_, dMake_, dNoPart_, asI_int, dPart_, dSlice_, dDic_, dChain_, dSeq_, dNil_, dPass_, dBreak_, dCont_, dExpr_, dRet_, dRetN_, dSet_, dIfS_, gN_, gsN_, gsC_, gT_, gSub_, dAsg_, dRaise_, dRaiseA_, dFor_, wSeq_, wEn_, wRng_, dLc_, dYes_, wipeT_nil, wipeT_cons, endF_nx, endF_rt, endF_ex, chk_str, chk_tup, items_str, items_tup, items_ob, seq_tup, len_tup, add_int, sub_int, lt_int', le_int', gt_int', ge_int', lt_str', gt_str', eq_int', eq_str', ne_int', ne_str', neg_int, int_int, int_bl, isnot_non, is_non, dFn1, dFn2, dFn3, dFn4, dFn5, List.replicate_succ, List.replicate_zero, List.getElem?_cons_zero, List.getElem?_cons_succ, List.set_cons_zero, List.set_cons_succ, List.length_cons, List.length_nil, if_true_, if_false_, if_T_, if_F_, Bool.not_true, Bool.not_false, Nat.reduceAdd, Nat.reduceSub, Nat.reduceLeDiff, Int.reduceSub, Int.reduceAdd, ge_iff_le, List.map_cons, List.map_nil, List.cons_append, List.nil_append, isiB_str, len_str (le_line' hk), decide_eq_true h5, marksB]
      have : decide (k.length ≤ 5) = false := by simp; omega
      rw [this]; rfl
    · have h5' : decide (k.length ≤ 5) = true := by simp; omega
      cases hu : upS (sgn k) with
      | false =>
        refine gcF_same ?_
        simp only [b__law_is_marks, bind_ok, bind_ex, bind_no, toS_ok, toS_ex, toS_no, sb_nx, sb_rt, sb_bk, sb_ct, sb_ex, sb_no, tu_nx, tu_ct, tu_bk, tu_rt, tu_ex, on_nx, on_ex, dV_, dC_, dBin_, dUn_, dNilA_, dConsA_, dTup_, dLst_, asB_bl, dB_, dAndB_, dOrB_, dNotB_, dAnd_, dOr_, dNot_, dIf_, dCallB_, dCall_, dMeth_, dFld_, dSetF_, dMake_, dNoPart_, asI_int, dPart_, dSlice_, dDic_, dChain_, dSeq_, dNil_, dPass_, dBreak_, dCont_, dExpr_, dRet_, dRetN_, dSet_, dIfS_, gN_, gsN_, gsC_, gT_, gSub_, dAsg_, dRaise_, dRaiseA_, dFor_, wSeq_, wEn_, wRng_, dLc_, dYes_, wipeT_nil, wipeT_cons, endF_nx, endF_rt, endF_ex, chk_str, chk_tup, items_str, items_tup, items_ob, seq_tup, len_tup, add_int, sub_int, lt_int', le_int', gt_int', ge_int', lt_str', gt_str', eq_int', eq_str', ne_int', ne_str', neg_int, int_int, int_bl, isnot_non, is_non, dFn1, dFn2, dFn3, dFn4, dFn5, List.replicate_succ, List.replicate_zero, List.getElem?_cons_zero, List.getElem?_cons_succ, List.set_cons_zero, List.set_cons_succ, List.length_cons, List.length_nil, if_true_, if_false_, if_T_, if_F_, Bool.not_true, Bool.not_false, Nat.reduceAdd, Nat.reduceSub, Nat.reduceLeDiff, Int.reduceSub, Int.reduceAdd, ge_iff_le, List.map_cons, List.map_nil, List.cons_append, List.nil_append, isiB_str, len_str (le_line' hk), decide_eq_false h5, marksB, P__law_is_up (row_str hk), hu]
        simp
      | true =>
        refine gcF_app (G := [.lst ([] ++ ((signsT k).filter fun u => !inM "abcdefghijklmnopqrstuvwxyz" u).map id)]) ?_ rfl
        have hl : loopC (seqChk (.str k) (signsT k)) (gN 1) (dOrB (dB (dBin ltT (dV 1) (dC (.str "a")))) (dB (dBin gtT (dV 1) (dC (.str "z"))))) (dV 1) [some (.str k), none] M.length (signsT k) (M ++ [.lst []]) = .ok (.ob M.length) (M ++ [.lst ([] ++ ((signsT k).filter fun u => !inM "abcdefghijklmnopqrstuvwxyz" u).map id)]) := by
          refine loopC_pure (fun u => [some (.str k), some u]) _ _ _ _ (fun _ => chk_str) (fun u hu acc => ?_) (le_line (by rw [sgn_signs, List.length_map, sgn_len]; exact hk))
          obtain ⟨c, rfl⟩ := signs_mem hu
          refine ⟨rfl, ?_, fun _ => rfl⟩
          simp only [bind_ok, bind_ex, bind_no, toS_ok, toS_ex, toS_no, sb_nx, sb_rt, sb_bk, sb_ct, sb_ex, sb_no, tu_nx, tu_ct, tu_bk, tu_rt, tu_ex, on_nx, on_ex, dV_, dC_, dBin_, dUn_, dNilA_, dConsA_, dTup_, dLst_, asB_bl, dB_, dAndB_, dOrB_, dNotB_, dAnd_, dOr_, dNot_, dIf_, dCallB_, dCall_, dMeth_, dFld_, dSetF_, dMake_, dNoPart_, asI_int, dPart_, dSlice_, dDic_, dChain_, dSeq_, dNil_, dPass_, dBreak_, dCont_, dExpr_, dRet_, dRetN_, dSet_, dIfS_, gN_, gsN_, gsC_, gT_, gSub_, dAsg_, dRaise_, dRaiseA_, dFor_, wSeq_, wEn_, wRng_, dLc_, dYes_, wipeT_nil, wipeT_cons, endF_nx, endF_rt, endF_ex, chk_str, chk_tup, items_str, items_tup, items_ob, seq_tup, len_tup, add_int, sub_int, lt_int', le_int', gt_int', ge_int', lt_str', gt_str', eq_int', eq_str', ne_int', ne_str', neg_int, int_int, int_bl, isnot_non, is_non, dFn1, dFn2, dFn3, dFn4, dFn5, List.replicate_succ, List.replicate_zero, List.getElem?_cons_zero, List.getElem?_cons_succ, List.set_cons_zero, List.set_cons_succ, List.length_cons, List.length_nil, if_true_, if_false_, if_T_, if_F_, Bool.not_true, Bool.not_false, Nat.reduceAdd, Nat.reduceSub, Nat.reduceLeDiff, Int.reduceSub, Int.reduceAdd, ge_iff_le, List.map_cons, List.map_nil, List.cons_append, List.nil_append]
          rw [← small_sign]
          cases q : decide ([c] < ("a" : PySem.Str).cps.toList) with
          | true => simp [q]
          | false => simp [q]
        simp only [b__law_is_marks, bind_ok, bind_ex, bind_no, toS_ok, toS_ex, toS_no, sb_nx, sb_rt, sb_bk, sb_ct, sb_ex, sb_no, tu_nx, tu_ct, tu_bk, tu_rt, tu_ex, on_nx, on_ex, dV_, dC_, dBin_, dUn_, dNilA_, dConsA_, dTup_, dLst_, asB_bl, dB_, dAndB_, dOrB_, dNotB_, dAnd_, dOr_, dNot_, dIf_, dCallB_, dCall_, dMeth_, dFld_, dSetF_, dMake_, dNoPart_, asI_int, dPart_, dSlice_, dDic_, dChain_, dSeq_, dNil_, dPass_, dBreak_, dCont_, dExpr_, dRet_, dRetN_, dSet_, dIfS_, gN_, gsN_, gsC_, gT_, gSub_, dAsg_, dRaise_, dRaiseA_, dFor_, wSeq_, wEn_, wRng_, dLc_, dYes_, wipeT_nil, wipeT_cons, endF_nx, endF_rt, endF_ex, chk_str, chk_tup, items_str, items_tup, items_ob, seq_tup, len_tup, add_int, sub_int, lt_int', le_int', gt_int', ge_int', lt_str', gt_str', eq_int', eq_str', ne_int', ne_str', neg_int, int_int, int_bl, isnot_non, is_non, dFn1, dFn2, dFn3, dFn4, dFn5, List.replicate_succ, List.replicate_zero, List.getElem?_cons_zero, List.getElem?_cons_succ, List.set_cons_zero, List.set_cons_succ, List.length_cons, List.length_nil, if_true_, if_false_, if_T_, if_F_, Bool.not_true, Bool.not_false, Nat.reduceAdd, Nat.reduceSub, Nat.reduceLeDiff, Int.reduceSub, Int.reduceAdd, ge_iff_le, List.map_cons, List.map_nil, List.cons_append, List.nil_append, isiB_str, len_str (le_line' hk), decide_eq_false h5, hl, len_ob List.getElem?_concat_length, List.map_id, all_filter, P__law_is_up (row_str hk), marksB, h5', hu]
        simp
  | _ =>
    refine gcF_same ?_
    simp only [b__law_is_marks, bind_ok, bind_ex, bind_no, toS_ok, toS_ex, toS_no, sb_nx, sb_rt, sb_bk, sb_ct, sb_ex, sb_no, tu_nx, tu_ct, tu_bk, tu_rt, tu_ex, on_nx, on_ex, dV_, dC_, dBin_, dUn_, dNilA_, dConsA_, dTup_, dLst_, asB_bl, dB_, dAndB_, dOrB_, dNotB_, dAnd_, dOr_, dNot_, dIf_, dCallB_, dCall_, dMeth_, dFld_, dSetF_, dMake_, dNoPart_, asI_int, dPart_, dSlice_, dDic_, dChain_, dSeq_, dNil_, dPass_, dBreak_, dCont_, dExpr_, dRet_, dRetN_, dSet_, dIfS_, gN_, gsN_, gsC_, gT_, gSub_, dAsg_, dRaise_, dRaiseA_, dFor_, wSeq_, wEn_, wRng_, dLc_, dYes_, wipeT_nil, wipeT_cons, endF_nx, endF_rt, endF_ex, chk_str, chk_tup, items_str, items_tup, items_ob, seq_tup, len_tup, add_int, sub_int, lt_int', le_int', gt_int', ge_int', lt_str', gt_str', eq_int', eq_str', ne_int', ne_str', neg_int, int_int, int_bl, isnot_non, is_non, dFn1, dFn2, dFn3, dFn4, dFn5, List.replicate_succ, List.replicate_zero, List.getElem?_cons_zero, List.getElem?_cons_succ, List.set_cons_zero, List.set_cons_succ, List.length_cons, List.length_nil, if_true_, if_false_, if_T_, if_F_, Bool.not_true, Bool.not_false, Nat.reduceAdd, Nat.reduceSub, Nat.reduceLeDiff, Int.reduceSub, Int.reduceAdd, ge_iff_le, List.map_cons, List.map_nil, List.cons_append, List.nil_append, isi_str h.ty]
    rfl
theorem P_check_marks {t : T} {M : Mem} (h : Thing cs t M) : d_check_marks [t] M = if marksB t = true then .ok .non M else .ex ("NoMarks", []) M := by
  cases q : marksB t with
  | true =>
    rw [if_pos rfl]
    refine gcF_same ?_
    simp only [b_check_marks, bind_ok, bind_ex, bind_no, toS_ok, toS_ex, toS_no, sb_nx, sb_rt, sb_bk, sb_ct, sb_ex, sb_no, tu_nx, tu_ct, tu_bk, tu_rt, tu_ex, on_nx, on_ex, dV_, dC_, dBin_, dUn_, dNilA_, dConsA_, dTup_, dLst_, asB_bl, dB_, dAndB_, dOrB_, dNotB_, dAnd_, dOr_, dNot_, dIf_, dCallB_, dCall_, dMeth_, dFld_, dSetF_, dMake_, dNoPart_, asI_int, dPart_, dSlice_, dDic_, dChain_, dSeq_, dNil_, dPass_, dBreak_, dCont_, dExpr_, dRet_, dRetN_, dSet_, dIfS_, gN_, gsN_, gsC_, gT_, gSub_, dAsg_, dRaise_, dRaiseA_, dFor_, wSeq_, wEn_, wRng_, dLc_, dYes_, wipeT_nil, wipeT_cons, endF_nx, endF_rt, endF_ex, chk_str, chk_tup, items_str, items_tup, items_ob, seq_tup, len_tup, add_int, sub_int, lt_int', le_int', gt_int', ge_int', lt_str', gt_str', eq_int', eq_str', ne_int', ne_str', neg_int, int_int, int_bl, isnot_non, is_non, dFn1, dFn2, dFn3, dFn4, dFn5, List.replicate_succ, List.replicate_zero, List.getElem?_cons_zero, List.getElem?_cons_succ, List.set_cons_zero, List.set_cons_succ, List.length_cons, List.length_nil, if_true_, if_false_, if_T_, if_F_, Bool.not_true, Bool.not_false, Nat.reduceAdd, Nat.reduceSub, Nat.reduceLeDiff, Int.reduceSub, Int.reduceAdd, ge_iff_le, List.map_cons, List.map_nil, List.cons_append, List.nil_append, P_is_marks h, q]
  | false =>
    rw [if_neg (by simp)]
    refine gcF_exsame ?_
    simp only [b_check_marks, bind_ok, bind_ex, bind_no, toS_ok, toS_ex, toS_no, sb_nx, sb_rt, sb_bk, sb_ct, sb_ex, sb_no, tu_nx, tu_ct, tu_bk, tu_rt, tu_ex, on_nx, on_ex, dV_, dC_, dBin_, dUn_, dNilA_, dConsA_, dTup_, dLst_, asB_bl, dB_, dAndB_, dOrB_, dNotB_, dAnd_, dOr_, dNot_, dIf_, dCallB_, dCall_, dMeth_, dFld_, dSetF_, dMake_, dNoPart_, asI_int, dPart_, dSlice_, dDic_, dChain_, dSeq_, dNil_, dPass_, dBreak_, dCont_, dExpr_, dRet_, dRetN_, dSet_, dIfS_, gN_, gsN_, gsC_, gT_, gSub_, dAsg_, dRaise_, dRaiseA_, dFor_, wSeq_, wEn_, wRng_, dLc_, dYes_, wipeT_nil, wipeT_cons, endF_nx, endF_rt, endF_ex, chk_str, chk_tup, items_str, items_tup, items_ob, seq_tup, len_tup, add_int, sub_int, lt_int', le_int', gt_int', ge_int', lt_str', gt_str', eq_int', eq_str', ne_int', ne_str', neg_int, int_int, int_bl, isnot_non, is_non, dFn1, dFn2, dFn3, dFn4, dFn5, List.replicate_succ, List.replicate_zero, List.getElem?_cons_zero, List.getElem?_cons_succ, List.set_cons_zero, List.set_cons_succ, List.length_cons, List.length_nil, if_true_, if_false_, if_T_, if_F_, Bool.not_true, Bool.not_false, Nat.reduceAdd, Nat.reduceSub, Nat.reduceLeDiff, Int.reduceSub, Int.reduceAdd, ge_iff_le, List.map_cons, List.map_nil, List.cons_append, List.nil_append, P_is_marks h, q]
theorem P_check_lot {m : PySem.Str} {t : T} {M : Mem} (h : Things cs t M) : d_check_lot [.str m, t] M = if isLot m t = true then .ok .non M else .ex ("NoLot", []) M := by
  cases q : isLot m t with
  | true =>
    rw [if_pos rfl]
    refine gcF_same ?_
    simp only [b_check_lot, bind_ok, bind_ex, bind_no, toS_ok, toS_ex, toS_no, sb_nx, sb_rt, sb_bk, sb_ct, sb_ex, sb_no, tu_nx, tu_ct, tu_bk, tu_rt, tu_ex, on_nx, on_ex, dV_, dC_, dBin_, dUn_, dNilA_, dConsA_, dTup_, dLst_, asB_bl, dB_, dAndB_, dOrB_, dNotB_, dAnd_, dOr_, dNot_, dIf_, dCallB_, dCall_, dMeth_, dFld_, dSetF_, dMake_, dNoPart_, asI_int, dPart_, dSlice_, dDic_, dChain_, dSeq_, dNil_, dPass_, dBreak_, dCont_, dExpr_, dRet_, dRetN_, dSet_, dIfS_, gN_, gsN_, gsC_, gT_, gSub_, dAsg_, dRaise_, dRaiseA_, dFor_, wSeq_, wEn_, wRng_, dLc_, dYes_, wipeT_nil, wipeT_cons, endF_nx, endF_rt, endF_ex, chk_str, chk_tup, items_str, items_tup, items_ob, seq_tup, len_tup, add_int, sub_int, lt_int', le_int', gt_int', ge_int', lt_str', gt_str', eq_int', eq_str', ne_int', ne_str', neg_int, int_int, int_bl, isnot_non, is_non, dFn1, dFn2, dFn3, dFn4, dFn5, List.replicate_succ, List.replicate_zero, List.getElem?_cons_zero, List.getElem?_cons_succ, List.set_cons_zero, List.set_cons_succ, List.length_cons, List.length_nil, if_true_, if_false_, if_T_, if_F_, Bool.not_true, Bool.not_false, Nat.reduceAdd, Nat.reduceSub, Nat.reduceLeDiff, Int.reduceSub, Int.reduceAdd, ge_iff_le, List.map_cons, List.map_nil, List.cons_append, List.nil_append, P_is_lot h, q]
  | false =>
    rw [if_neg (by simp)]
    refine gcF_exsame ?_
    simp only [b_check_lot, bind_ok, bind_ex, bind_no, toS_ok, toS_ex, toS_no, sb_nx, sb_rt, sb_bk, sb_ct, sb_ex, sb_no, tu_nx, tu_ct, tu_bk, tu_rt, tu_ex, on_nx, on_ex, dV_, dC_, dBin_, dUn_, dNilA_, dConsA_, dTup_, dLst_, asB_bl, dB_, dAndB_, dOrB_, dNotB_, dAnd_, dOr_, dNot_, dIf_, dCallB_, dCall_, dMeth_, dFld_, dSetF_, dMake_, dNoPart_, asI_int, dPart_, dSlice_, dDic_, dChain_, dSeq_, dNil_, dPass_, dBreak_, dCont_, dExpr_, dRet_, dRetN_, dSet_, dIfS_, gN_, gsN_, gsC_, gT_, gSub_, dAsg_, dRaise_, dRaiseA_, dFor_, wSeq_, wEn_, wRng_, dLc_, dYes_, wipeT_nil, wipeT_cons, endF_nx, endF_rt, endF_ex, chk_str, chk_tup, items_str, items_tup, items_ob, seq_tup, len_tup, add_int, sub_int, lt_int', le_int', gt_int', ge_int', lt_str', gt_str', eq_int', eq_str', ne_int', ne_str', neg_int, int_int, int_bl, isnot_non, is_non, dFn1, dFn2, dFn3, dFn4, dFn5, List.replicate_succ, List.replicate_zero, List.getElem?_cons_zero, List.getElem?_cons_succ, List.set_cons_zero, List.set_cons_succ, List.length_cons, List.length_nil, if_true_, if_false_, if_T_, if_F_, Bool.not_true, Bool.not_false, Nat.reduceAdd, Nat.reduceSub, Nat.reduceLeDiff, Int.reduceSub, Int.reduceAdd, ge_iff_le, List.map_cons, List.map_nil, List.cons_append, List.nil_append, P_is_lot h, q]
theorem P_first_no_lot {m : PySem.Str} {ts : List T} {M : Mem} (h : ∀ t, t ∈ ts → isLot m t = true ∧ Things cs t M) : d_first_no_lot [.str m, .tup ts] M = .ok .non M := by
  refine gcF_same ?_
  have lp : ∀ (us : List T) (w x : Option T) (chk : Mem → Bool), chk M = true → (∀ u, u ∈ us → ∃ (i : Nat) (t : T), u = .tup [.int i, t] ∧ t ∈ ts) → ∃ a b, loopF chk (gT 2 (gsC (gN 2) (gsC (gN 3) gsN))) (dIfS (dNotB (dB (dCall d_is_lot (dConsA (dV 0) (dConsA (dV 3) dNilA))))) (dRet (dV 2)) dNil) us [some (.str m), some (.tup ts), w, x] M = .nx [some (.str m), some (.tup ts), a, b] M := by
    intro us w x chk hc hus
    refine loopF_run (fun us ρ M' => M' = M ∧ (∃ w x, ρ = [some (.str m), some (.tup ts), w, x]) ∧ (∀ u, u ∈ us → ∃ (i : Nat) (t : T), u = .tup [.int i, t] ∧ t ∈ ts)) (fun r => ∃ a b, r = .nx [some (.str m), some (.tup ts), a, b] M) ?_ ?_ _ _ _ ?_
    · rintro ρ M' ⟨rfl, ⟨w, x, rfl⟩, _⟩
      exact ⟨hc, w, x, rfl⟩
    · rintro u us ρ M' ⟨rfl, ⟨w, x, rfl⟩, hu⟩
      obtain ⟨i, t, rfl, ht⟩ := hu u List.mem_cons_self
      obtain ⟨h1, h2⟩ := h t ht
      refine ⟨hc, [some (.str m), some (.tup ts), some (.int i), some t], M', rfl, .inl ⟨[some (.str m), some (.tup ts), some (.int i), some t], M', ?_, rfl, ⟨_, _, rfl⟩, fun v hv => hu v (List.mem_cons_of_mem _ hv)⟩⟩
      simp only [bind_ok, bind_ex, bind_no, toS_ok, toS_ex, toS_no, sb_nx, sb_rt, sb_bk, sb_ct, sb_ex, sb_no, tu_nx, tu_ct, tu_bk, tu_rt, tu_ex, on_nx, on_ex, dV_, dC_, dBin_, dUn_, dNilA_, dConsA_, dTup_, dLst_, asB_bl, dB_, dAndB_, dOrB_, dNotB_, dAnd_, dOr_, dNot_, dIf_, dCallB_, dCall_, dMeth_, dFld_, dSetF_, dMake_, dNoPart_, asI_int, dPart_, dSlice_, dDic_, dChain_, dSeq_, dNil_, dPass_, dBreak_, dCont_, dExpr_, dRet_, dRetN_, dSet_, dIfS_, gN_, gsN_, gsC_, gT_, gSub_, dAsg_, dRaise_, dRaiseA_, dFor_, wSeq_, wEn_, wRng_, dLc_, dYes_, wipeT_nil, wipeT_cons, endF_nx, endF_rt, endF_ex, chk_str, chk_tup, items_str, items_tup, items_ob, seq_tup, len_tup, add_int, sub_int, lt_int', le_int', gt_int', ge_int', lt_str', gt_str', eq_int', eq_str', ne_int', ne_str', neg_int, int_int, int_bl, isnot_non, is_non, dFn1, dFn2, dFn3, dFn4, dFn5, List.replicate_succ, List.replicate_zero, List.getElem?_cons_zero, List.getElem?_cons_succ, List.set_cons_zero, List.set_cons_succ, List.length_cons, List.length_nil, if_true_, if_false_, if_T_, if_F_, Bool.not_true, Bool.not_false, Nat.reduceAdd, Nat.reduceSub, Nat.reduceLeDiff, Int.reduceSub, Int.reduceAdd, ge_iff_le, List.map_cons, List.map_nil, List.cons_append, List.nil_append, P_is_lot h2, h1]
    · exact ⟨rfl, ⟨w, x, rfl⟩, hus⟩
  obtain ⟨a, b, e⟩ := lp (enumT ts) none none (fun M => decide (seqT (.tup ts) M = some ts)) (by simp) (fun u hu => by
    obtain ⟨i, hi, e⟩ := List.getElem_of_mem hu
    obtain ⟨x, hx, e2⟩ := enumT_get (i := i) (us := ts) (u := u) (by rw [List.getElem?_eq_getElem hi, e])
    exact ⟨i, x, e2, List.mem_of_getElem? hx⟩)
  simp only [seq_tup] at e
  simp only [b_first_no_lot, bind_ok, bind_ex, bind_no, toS_ok, toS_ex, toS_no, sb_nx, sb_rt, sb_bk, sb_ct, sb_ex, sb_no, tu_nx, tu_ct, tu_bk, tu_rt, tu_ex, on_nx, on_ex, dV_, dC_, dBin_, dUn_, dNilA_, dConsA_, dTup_, dLst_, asB_bl, dB_, dAndB_, dOrB_, dNotB_, dAnd_, dOr_, dNot_, dIf_, dCallB_, dCall_, dMeth_, dFld_, dSetF_, dMake_, dNoPart_, asI_int, dPart_, dSlice_, dDic_, dChain_, dSeq_, dNil_, dPass_, dBreak_, dCont_, dExpr_, dRet_, dRetN_, dSet_, dIfS_, gN_, gsN_, gsC_, gT_, gSub_, dAsg_, dRaise_, dRaiseA_, dFor_, wSeq_, wEn_, wRng_, dLc_, dYes_, wipeT_nil, wipeT_cons, endF_nx, endF_rt, endF_ex, chk_str, chk_tup, items_str, items_tup, items_ob, seq_tup, len_tup, add_int, sub_int, lt_int', le_int', gt_int', ge_int', lt_str', gt_str', eq_int', eq_str', ne_int', ne_str', neg_int, int_int, int_bl, isnot_non, is_non, dFn1, dFn2, dFn3, dFn4, dFn5, List.replicate_succ, List.replicate_zero, List.getElem?_cons_zero, List.getElem?_cons_succ, List.set_cons_zero, List.set_cons_succ, List.length_cons, List.length_nil, if_true_, if_false_, if_T_, if_F_, Bool.not_true, Bool.not_false, Nat.reduceAdd, Nat.reduceSub, Nat.reduceLeDiff, Int.reduceSub, Int.reduceAdd, ge_iff_le, List.map_cons, List.map_nil, List.cons_append, List.nil_append, e]
end HB

set_option maxHeartbeats 1000000
namespace HB
open PySem DN
/-! ### benches -/
def benchC (m : PySem.Str) (rows : List T) (hp : Nat) : C := .ins "Bench" [("marks", .str m), ("rows", .tup rows), ("past", .ob hp)]
structure BenchAt (M : Mem) (b hp : Nat) (m : PySem.Str) (rows pasts : List T) : Prop where
  b : M[b]? = some (benchC m rows hp)
  h : M[hp]? = some (.lst pasts)
  few : rows.length ≤ 41
  fewp : pasts.length ≤ 1000
section
variable {M : Mem} {b hp : Nat} {m : PySem.Str} {rows pasts : List T} {v : T}
theorem BenchAt.ne (B : BenchAt M b hp m rows pasts) : b ≠ hp := fun e => by
  have h1 := B.b
  rw [e, B.h] at h1
  cases h1
theorem f_marks (h : M[b]? = some (benchC m rows hp)) : fldT ["Seats", "Bench"] "marks" (.ob b) M = .ok (.str m) M := by
  unfold fldT benchC at *
  simp only [h]
  rfl
theorem f_rows (h : M[b]? = some (benchC m rows hp)) : fldT ["Bench"] "rows" (.ob b) M = .ok (.tup rows) M := by
  unfold fldT benchC at *
  simp only [h]
  rfl
theorem f_past (h : M[b]? = some (benchC m rows hp)) : fldT ["Bench"] "past" (.ob b) M = .ok (.ob hp) M := by
  unfold fldT benchC at *
  simp only [h]
  rfl
theorem sf_rows {r : List T} (h : M[b]? = some (benchC m rows hp)) : setFldT ["Bench"] "rows" (.tup r) (.ob b) M = .ok .non (M.set b (benchC m r hp)) := by
  unfold setFldT benchC at *
  simp only [h]
  rfl
theorem isIns_b {n : PySem.Str} (h : M[b]? = some (benchC m rows hp)) (hn : List.lookup n [("marks", T.str m), ("rows", .tup rows), ("past", .ob hp)] = none) : isIns "Bench" n (.ob b) M = true := by
  unfold isIns benchC at *
  simp only [h, hn]
  rfl
theorem isL_ob {n : Nat} {ts : List T} (h : M[n]? = some (.lst ts)) : isL (.ob n) M = true := by
  unfold isL
  simp only [h]
theorem app_ob {n : Nat} {ts : List T} (h : M[n]? = some (.lst ts)) (hl : ts.length ≤ 100000) : appendT [.ob n, v] M = .ok .non (M.set n (.lst (ts ++ [v]))) := by
  unfold appendT
  simp only [h]
  rw [if_pos (lt_line hl)]
theorem pop_ob {n : Nat} {ts : List T} (h : M[n]? = some (.lst (ts ++ [v]))) : popT [.ob n] M = .ok v (M.set n (.lst ts)) := by
  unfold popT
  simp only [h]
  simp
/-- the bench behind a deed -/
def done (M : Mem) (b hp : Nat) (m : PySem.Str) (rows pasts r : List T) : Mem := (M.set hp (.lst (pasts ++ [.tup rows]))).set b (benchC m r hp)
theorem done_at (B : BenchAt M b hp m rows pasts) {r : List T} (hr : r.length ≤ 41) (hp' : pasts.length ≤ 900) : BenchAt (done M b hp m rows pasts r) b hp m r (pasts ++ [.tup rows]) := by
  have hb := lt_of_some B.b
  have hh := lt_of_some B.h
  refine ⟨look_self (by simpa using hb), look_set (look_self hh) B.ne, hr, by simp; omega⟩
theorem P_Bench_go (B : BenchAt M b hp m rows pasts) (r : List T) : d_Bench_go [.ob b, .tup r] M = .ok .non (done M b hp m rows pasts r) := by
  have hb := look_set B.b (m := hp) (d := .lst (pasts ++ [.tup rows])) (Ne.symm B.ne)
  refine gcF_len ?_ (by simp [done])
  have := B.fewp
  simp only [b_Bench_go, bind_ok, bind_ex, bind_no, toS_ok, toS_ex, toS_no, sb_nx, sb_rt, sb_bk, sb_ct, sb_ex, sb_no, tu_nx, tu_ct, tu_bk, tu_rt, tu_ex, on_nx, on_ex, dV_, dC_, dBin_, dUn_, dNilA_, dConsA_, dTup_, dLst_, asB_bl, dB_, dAndB_, dOrB_, dNotB_, dAnd_, dOr_, dNot_, dIf_, dCallB_, dCall_, dMeth_, dFld_, dSetF_, dMake_, dNoPart_, asI_int, dPart_, dSlice_, dDic_, dChain_, dSeq_, dNil_, dPass_, dBreak_, dCont_, dExpr_, dRet_, dRetN_, dSet_, dIfS_, gN_, gsN_, gsC_, gT_, gSub_, dAsg_, dRaise_, dRaiseA_, dFor_, wSeq_, wEn_, wRng_, dLc_, dYes_, wipeT_nil, wipeT_cons, endF_nx, endF_rt, endF_ex, chk_str, chk_tup, items_str, items_tup, items_ob, seq_tup, len_tup, add_int, sub_int, lt_int', le_int', gt_int', ge_int', lt_str', gt_str', eq_int', eq_str', ne_int', ne_str', neg_int, int_int, int_bl, isnot_non, is_non, dFn1, dFn2, dFn3, dFn4, dFn5, List.replicate_succ, List.replicate_zero, List.getElem?_cons_zero, List.getElem?_cons_succ, List.set_cons_zero, List.set_cons_succ, List.length_cons, List.length_nil, if_true_, if_false_, if_T_, if_F_, Bool.not_true, Bool.not_false, Nat.reduceAdd, Nat.reduceSub, Nat.reduceLeDiff, Int.reduceSub, Int.reduceAdd, ge_iff_le, List.map_cons, List.map_nil, List.cons_append, List.nil_append, f_past B.b, f_rows B.b, isL_ob B.h, app_ob B.h (v := .tup rows) (by omega), sf_rows hb]
  rfl
theorem P_Bench_put {at_ lot : T} (B : BenchAt M b hp m rows pasts) (h1 : Thing cs at_ M) (h2 : Things cs lot M) : d_Bench_put [.ob b, at_, lot] M =
    if isWithin 0 rows.length at_ = true then (if isLot m lot = true then (if rows.length = 40 then .ex ("TooMany", [("most", .int 40)]) M else
      .ok .non (done M b hp m rows pasts (match at_ with | .int i => rows.take i.toNat ++ [lot] ++ rows.drop i.toNat | _ => []))) else .ex ("NoLot", []) M) else .ex ("NoPlace", []) M := by
  have hi := isIns_b (n := "go") B.b rfl
  cases q1 : isWithin 0 rows.length at_ with
  | false =>
    rw [if_neg (by simp)]
    refine gcF_exsame ?_
    simp only [b_Bench_put, bind_ok, bind_ex, bind_no, toS_ok, toS_ex, toS_no, sb_nx, sb_rt, sb_bk, sb_ct, sb_ex, sb_no, tu_nx, tu_ct, tu_bk, tu_rt, tu_ex, on_nx, on_ex, dV_, dC_, dBin_, dUn_, dNilA_, dConsA_, dTup_, dLst_, asB_bl, dB_, dAndB_, dOrB_, dNotB_, dAnd_, dOr_, dNot_, dIf_, dCallB_, dCall_, dMeth_, dFld_, dSetF_, dMake_, dNoPart_, asI_int, dPart_, dSlice_, dDic_, dChain_, dSeq_, dNil_, dPass_, dBreak_, dCont_, dExpr_, dRet_, dRetN_, dSet_, dIfS_, gN_, gsN_, gsC_, gT_, gSub_, dAsg_, dRaise_, dRaiseA_, dFor_, wSeq_, wEn_, wRng_, dLc_, dYes_, wipeT_nil, wipeT_cons, endF_nx, endF_rt, endF_ex, chk_str, chk_tup, items_str, items_tup, items_ob, seq_tup, len_tup, add_int, sub_int, lt_int', le_int', gt_int', ge_int', lt_str', gt_str', eq_int', eq_str', ne_int', ne_str', neg_int, int_int, int_bl, isnot_non, is_non, dFn1, dFn2, dFn3, dFn4, dFn5, List.replicate_succ, List.replicate_zero, List.getElem?_cons_zero, List.getElem?_cons_succ, List.set_cons_zero, List.set_cons_succ, List.length_cons, List.length_nil, if_true_, if_false_, if_T_, if_F_, Bool.not_true, Bool.not_false, Nat.reduceAdd, Nat.reduceSub, Nat.reduceLeDiff, Int.reduceSub, Int.reduceAdd, ge_iff_le, List.map_cons, List.map_nil, List.cons_append, List.nil_append, f_rows B.b, P_is_within h1.ty, q1]
  | true =>
    rw [if_pos rfl]
    cases q2 : isLot m lot with
    | false =>
      rw [if_neg (by simp)]
      refine gcF_exsame ?_
      simp only [b_Bench_put, bind_ok, bind_ex, bind_no, toS_ok, toS_ex, toS_no, sb_nx, sb_rt, sb_bk, sb_ct, sb_ex, sb_no, tu_nx, tu_ct, tu_bk, tu_rt, tu_ex, on_nx, on_ex, dV_, dC_, dBin_, dUn_, dNilA_, dConsA_, dTup_, dLst_, asB_bl, dB_, dAndB_, dOrB_, dNotB_, dAnd_, dOr_, dNot_, dIf_, dCallB_, dCall_, dMeth_, dFld_, dSetF_, dMake_, dNoPart_, asI_int, dPart_, dSlice_, dDic_, dChain_, dSeq_, dNil_, dPass_, dBreak_, dCont_, dExpr_, dRet_, dRetN_, dSet_, dIfS_, gN_, gsN_, gsC_, gT_, gSub_, dAsg_, dRaise_, dRaiseA_, dFor_, wSeq_, wEn_, wRng_, dLc_, dYes_, wipeT_nil, wipeT_cons, endF_nx, endF_rt, endF_ex, chk_str, chk_tup, items_str, items_tup, items_ob, seq_tup, len_tup, add_int, sub_int, lt_int', le_int', gt_int', ge_int', lt_str', gt_str', eq_int', eq_str', ne_int', ne_str', neg_int, int_int, int_bl, isnot_non, is_non, dFn1, dFn2, dFn3, dFn4, dFn5, List.replicate_succ, List.replicate_zero, List.getElem?_cons_zero, List.getElem?_cons_succ, List.set_cons_zero, List.set_cons_succ, List.length_cons, List.length_nil, if_true_, if_false_, if_T_, if_F_, Bool.not_true, Bool.not_false, Nat.reduceAdd, Nat.reduceSub, Nat.reduceLeDiff, Int.reduceSub, Int.reduceAdd, ge_iff_le, List.map_cons, List.map_nil, List.cons_append, List.nil_append, f_rows B.b, P_is_within h1.ty, q1, f_marks B.b, P_check_lot h2, q2]
    | true =>
      rw [if_pos rfl]
      by_cases q3 : rows.length = 40
      · rw [if_pos q3]
        refine gcF_exsame ?_
        have q3' : decide ((rows.length : Int) = 40) = true := by simp; omega
        simp only [b_Bench_put, bind_ok, bind_ex, bind_no, toS_ok, toS_ex, toS_no, sb_nx, sb_rt, sb_bk, sb_ct, sb_ex, sb_no, tu_nx, tu_ct, tu_bk, tu_rt, tu_ex, on_nx, on_ex, dV_, dC_, dBin_, dUn_, dNilA_, dConsA_, dTup_, dLst_, asB_bl, dB_, dAndB_, dOrB_, dNotB_, dAnd_, dOr_, dNot_, dIf_, dCallB_, dCall_, dMeth_, dFld_, dSetF_, dMake_, dNoPart_, asI_int, dPart_, dSlice_, dDic_, dChain_, dSeq_, dNil_, dPass_, dBreak_, dCont_, dExpr_, dRet_, dRetN_, dSet_, dIfS_, gN_, gsN_, gsC_, gT_, gSub_, dAsg_, dRaise_, dRaiseA_, dFor_, wSeq_, wEn_, wRng_, dLc_, dYes_, wipeT_nil, wipeT_cons, endF_nx, endF_rt, endF_ex, chk_str, chk_tup, items_str, items_tup, items_ob, seq_tup, len_tup, add_int, sub_int, lt_int', le_int', gt_int', ge_int', lt_str', gt_str', eq_int', eq_str', ne_int', ne_str', neg_int, int_int, int_bl, isnot_non, is_non, dFn1, dFn2, dFn3, dFn4, dFn5, List.replicate_succ, List.replicate_zero, List.getElem?_cons_zero, List.getElem?_cons_succ, List.set_cons_zero, List.set_cons_succ, List.length_cons, List.length_nil, if_true_, if_false_, if_T_, if_F_, Bool.not_true, Bool.not_false, Nat.reduceAdd, Nat.reduceSub, Nat.reduceLeDiff, Int.reduceSub, Int.reduceAdd, ge_iff_le, List.map_cons, List.map_nil, List.cons_append, List.nil_append, f_rows B.b, P_is_within h1.ty, q1, f_marks B.b, P_check_lot h2, q2, q3']
        simp
      · rw [if_neg q3]
        have q3' : decide ((rows.length : Int) = 40) = false := by simp; omega
        cases at_ with
        | int i =>
          simp only [isWithin, Bool.and_eq_true, decide_eq_true_eq] at q1
          have hi2 : (i.toNat : Int) = i := by omega
          have hle : i.toNat ≤ rows.length := by omega
          have q1' : isWithin 0 rows.length (.int i) = true := by simp [isWithin]; omega
          have c1 := cut_take (ts := rows) hle
          have c2 := cut_drop (ts := rows) hle
          rw [hi2] at c1 c2
          have hf := B.few
          refine gcF_len ?_ (by simp [done])
          simp only [b_Bench_put, bind_ok, bind_ex, bind_no, toS_ok, toS_ex, toS_no, sb_nx, sb_rt, sb_bk, sb_ct, sb_ex, sb_no, tu_nx, tu_ct, tu_bk, tu_rt, tu_ex, on_nx, on_ex, dV_, dC_, dBin_, dUn_, dNilA_, dConsA_, dTup_, dLst_, asB_bl, dB_, dAndB_, dOrB_, dNotB_, dAnd_, dOr_, dNot_, dIf_, dCallB_, dCall_, dMeth_, dFld_, dSetF_, dMake_, dNoPart_, asI_int, dPart_, dSlice_, dDic_, dChain_, dSeq_, dNil_, dPass_, dBreak_, dCont_, dExpr_, dRet_, dRetN_, dSet_, dIfS_, gN_, gsN_, gsC_, gT_, gSub_, dAsg_, dRaise_, dRaiseA_, dFor_, wSeq_, wEn_, wRng_, dLc_, dYes_, wipeT_nil, wipeT_cons, endF_nx, endF_rt, endF_ex, chk_str, chk_tup, items_str, items_tup, items_ob, seq_tup, len_tup, add_int, sub_int, lt_int', le_int', gt_int', ge_int', lt_str', gt_str', eq_int', eq_str', ne_int', ne_str', neg_int, int_int, int_bl, isnot_non, is_non, dFn1, dFn2, dFn3, dFn4, dFn5, List.replicate_succ, List.replicate_zero, List.getElem?_cons_zero, List.getElem?_cons_succ, List.set_cons_zero, List.set_cons_succ, List.length_cons, List.length_nil, if_true_, if_false_, if_T_, if_F_, Bool.not_true, Bool.not_false, Nat.reduceAdd, Nat.reduceSub, Nat.reduceLeDiff, Int.reduceSub, Int.reduceAdd, ge_iff_le, List.map_cons, List.map_nil, List.cons_append, List.nil_append, f_rows B.b, P_is_within h1.ty, q1', f_marks B.b, P_check_lot h2, q2, q3', hi, slice_tup, c1, c2, if_pos (le_line' (n := 1) (by decide)),
            add_tup (x := rows.take i.toNat) (y := [lot]) (by simp; omega), add_tup (x := rows.take i.toNat ++ [lot]) (y := rows.drop i.toNat) (by simp; omega), P_Bench_go B]
        | _ => simp [isWithin] at q1
theorem P_Bench_strike {at_ : T} (B : BenchAt M b hp m rows pasts) (h1 : Thing cs at_ M) : ∃ r : List T, r.length ≤ 41 ∧ d_Bench_strike [.ob b, at_] M =
    if isWithin 0 ((rows.length : Int) - 1) at_ = true then .ok .non (done M b hp m rows pasts r) else .ex ("NoSeat", []) M := by
  have hi := isIns_b (n := "go") B.b rfl
  cases q1 : isWithin 0 ((rows.length : Int) - 1) at_ with
  | false =>
    refine ⟨[], by simp, ?_⟩
    rw [if_neg (by simp)]
    refine gcF_exsame ?_
    simp only [b_Bench_strike, bind_ok, bind_ex, bind_no, toS_ok, toS_ex, toS_no, sb_nx, sb_rt, sb_bk, sb_ct, sb_ex, sb_no, tu_nx, tu_ct, tu_bk, tu_rt, tu_ex, on_nx, on_ex, dV_, dC_, dBin_, dUn_, dNilA_, dConsA_, dTup_, dLst_, asB_bl, dB_, dAndB_, dOrB_, dNotB_, dAnd_, dOr_, dNot_, dIf_, dCallB_, dCall_, dMeth_, dFld_, dSetF_, dMake_, dNoPart_, asI_int, dPart_, dSlice_, dDic_, dChain_, dSeq_, dNil_, dPass_, dBreak_, dCont_, dExpr_, dRet_, dRetN_, dSet_, dIfS_, gN_, gsN_, gsC_, gT_, gSub_, dAsg_, dRaise_, dRaiseA_, dFor_, wSeq_, wEn_, wRng_, dLc_, dYes_, wipeT_nil, wipeT_cons, endF_nx, endF_rt, endF_ex, chk_str, chk_tup, items_str, items_tup, items_ob, seq_tup, len_tup, add_int, sub_int, lt_int', le_int', gt_int', ge_int', lt_str', gt_str', eq_int', eq_str', ne_int', ne_str', neg_int, int_int, int_bl, isnot_non, is_non, dFn1, dFn2, dFn3, dFn4, dFn5, List.replicate_succ, List.replicate_zero, List.getElem?_cons_zero, List.getElem?_cons_succ, List.set_cons_zero, List.set_cons_succ, List.length_cons, List.length_nil, if_true_, if_false_, if_T_, if_F_, Bool.not_true, Bool.not_false, Nat.reduceAdd, Nat.reduceSub, Nat.reduceLeDiff, Int.reduceSub, Int.reduceAdd, ge_iff_le, List.map_cons, List.map_nil, List.cons_append, List.nil_append, f_rows B.b, P_is_within h1.ty, q1]
  | true =>
    cases at_ with
    | int i =>
      simp only [isWithin, Bool.and_eq_true, decide_eq_true_eq] at q1
      have hi2 : (i.toNat : Int) = i := by omega
      have hi3 : ((i.toNat + 1 : Nat) : Int) = i + 1 := by omega
      have q1' : isWithin 0 ((rows.length : Int) - 1) (.int i) = true := by simp [isWithin]; omega
      have c1 := cut_take (ts := rows) (i := i.toNat) (by omega)
      have c2 := cut_drop (ts := rows) (i := i.toNat + 1) (by omega)
      rw [hi2] at c1
      rw [hi3] at c2
      have hf := B.few
      refine ⟨rows.take i.toNat ++ rows.drop (i.toNat + 1), by simp; omega, ?_⟩
      rw [if_pos rfl]
      refine gcF_len ?_ (by simp [done])
      simp only [b_Bench_strike, bind_ok, bind_ex, bind_no, toS_ok, toS_ex, toS_no, sb_nx, sb_rt, sb_bk, sb_ct, sb_ex, sb_no, tu_nx, tu_ct, tu_bk, tu_rt, tu_ex, on_nx, on_ex, dV_, dC_, dBin_, dUn_, dNilA_, dConsA_, dTup_, dLst_, asB_bl, dB_, dAndB_, dOrB_, dNotB_, dAnd_, dOr_, dNot_, dIf_, dCallB_, dCall_, dMeth_, dFld_, dSetF_, dMake_, dNoPart_, asI_int, dPart_, dSlice_, dDic_, dChain_, dSeq_, dNil_, dPass_, dBreak_, dCont_, dExpr_, dRet_, dRetN_, dSet_, dIfS_, gN_, gsN_, gsC_, gT_, gSub_, dAsg_, dRaise_, dRaiseA_, dFor_, wSeq_, wEn_, wRng_, dLc_, dYes_, wipeT_nil, wipeT_cons, endF_nx, endF_rt, endF_ex, chk_str, chk_tup, items_str, items_tup, items_ob, seq_tup, len_tup, add_int, sub_int, lt_int', le_int', gt_int', ge_int', lt_str', gt_str', eq_int', eq_str', ne_int', ne_str', neg_int, int_int, int_bl, isnot_non, is_non, dFn1, dFn2, dFn3, dFn4, dFn5, List.replicate_succ, List.replicate_zero, List.getElem?_cons_zero, List.getElem?_cons_succ, List.set_cons_zero, List.set_cons_succ, List.length_cons, List.length_nil, if_true_, if_false_, if_T_, if_F_, Bool.not_true, Bool.not_false, Nat.reduceAdd, Nat.reduceSub, Nat.reduceLeDiff, Int.reduceSub, Int.reduceAdd, ge_iff_le, List.map_cons, List.map_nil, List.cons_append, List.nil_append, f_rows B.b, P_is_within h1.ty, q1', hi, slice_tup, c1, c2, add_tup (x := rows.take i.toNat) (y := rows.drop (i.toNat + 1)) (by simp; omega), P_Bench_go B]
    | _ => simp [isWithin] at q1
theorem P_Bench_shift {at_ : T} (B : BenchAt M b hp m rows pasts) (h1 : Thing cs at_ M) : ∃ r : List T, r.length ≤ 41 ∧ d_Bench_shift [.ob b, at_] M =
    if isWithin 0 ((rows.length : Int) - 2) at_ = true then .ok .non (done M b hp m rows pasts r) else .ex ("NoSeat", []) M := by
  have hi := isIns_b (n := "go") B.b rfl
  cases q1 : isWithin 0 ((rows.length : Int) - 2) at_ with
  | false =>
    refine ⟨[], by simp, ?_⟩
    rw [if_neg (by simp)]
    refine gcF_exsame ?_
    simp only [b_Bench_shift, bind_ok, bind_ex, bind_no, toS_ok, toS_ex, toS_no, sb_nx, sb_rt, sb_bk, sb_ct, sb_ex, sb_no, tu_nx, tu_ct, tu_bk, tu_rt, tu_ex, on_nx, on_ex, dV_, dC_, dBin_, dUn_, dNilA_, dConsA_, dTup_, dLst_, asB_bl, dB_, dAndB_, dOrB_, dNotB_, dAnd_, dOr_, dNot_, dIf_, dCallB_, dCall_, dMeth_, dFld_, dSetF_, dMake_, dNoPart_, asI_int, dPart_, dSlice_, dDic_, dChain_, dSeq_, dNil_, dPass_, dBreak_, dCont_, dExpr_, dRet_, dRetN_, dSet_, dIfS_, gN_, gsN_, gsC_, gT_, gSub_, dAsg_, dRaise_, dRaiseA_, dFor_, wSeq_, wEn_, wRng_, dLc_, dYes_, wipeT_nil, wipeT_cons, endF_nx, endF_rt, endF_ex, chk_str, chk_tup, items_str, items_tup, items_ob, seq_tup, len_tup, add_int, sub_int, lt_int', le_int', gt_int', ge_int', lt_str', gt_str', eq_int', eq_str', ne_int', ne_str', neg_int, int_int, int_bl, isnot_non, is_non, dFn1, dFn2, dFn3, dFn4, dFn5, List.replicate_succ, List.replicate_zero, List.getElem?_cons_zero, List.getElem?_cons_succ, List.set_cons_zero, List.set_cons_succ, List.length_cons, List.length_nil, if_true_, if_false_, if_T_, if_F_, Bool.not_true, Bool.not_false, Nat.reduceAdd, Nat.reduceSub, Nat.reduceLeDiff, Int.reduceSub, Int.reduceAdd, ge_iff_le, List.map_cons, List.map_nil, List.cons_append, List.nil_append, f_rows B.b, P_is_within h1.ty, q1]
  | true =>
    cases at_ with
    | int i =>
      simp only [isWithin, Bool.and_eq_true, decide_eq_true_eq] at q1
      have hi2 : (i.toNat : Int) = i := by omega
      have hi3 : ((i.toNat + 2 : Nat) : Int) = i + 2 := by omega
      have q1' : isWithin 0 ((rows.length : Int) - 2) (.int i) = true := by simp [isWithin]; omega
      have c1 := cut_take (ts := rows) (i := i.toNat) (by omega)
      have c2 := cut_drop (ts := rows) (i := i.toNat + 2) (by omega)
      rw [hi2] at c1
      rw [hi3] at c2
      have hf := B.few
      have l0 : i.toNat < rows.length := by omega
      have l1 : i.toNat + 1 < rows.length := by omega
      have x0 : ∀ M : Mem, ixT (.tup rows) (.int i) M = .ok rows[i.toNat] M := fun M => ix_tup' (j := i.toNat) (by omega) (List.getElem?_eq_getElem l0)
      have x1 : ∀ M : Mem, ixT (.tup rows) (.int (i + 1)) M = .ok rows[i.toNat + 1] M := fun M => ix_tup' (j := i.toNat + 1) (by omega) (List.getElem?_eq_getElem l1)
      refine ⟨rows.take i.toNat ++ [rows[i.toNat + 1], rows[i.toNat]] ++ rows.drop (i.toNat + 2), by simp; omega, ?_⟩
      rw [if_pos rfl]
      refine gcF_len ?_ (by simp [done])
      have hs : d_swapped [.tup rows, .int i] M = .ok (.tup (rows.take i.toNat ++ [rows[i.toNat + 1], rows[i.toNat]] ++ rows.drop (i.toNat + 2))) M := by
        refine gcF_same ?_
        simp only [b_swapped, bind_ok, bind_ex, bind_no, toS_ok, toS_ex, toS_no, sb_nx, sb_rt, sb_bk, sb_ct, sb_ex, sb_no, tu_nx, tu_ct, tu_bk, tu_rt, tu_ex, on_nx, on_ex, dV_, dC_, dBin_, dUn_, dNilA_, dConsA_, dTup_, dLst_, asB_bl, dB_, dAndB_, dOrB_, dNotB_, dAnd_, dOr_, dNot_, dIf_, dCallB_, dCall_, dMeth_, dFld_, dSetF_, dMake_, dNoPart_, asI_int, dPart_, dSlice_, dDic_, dChain_, dSeq_, dNil_, dPass_, dBreak_, dCont_, dExpr_, dRet_, dRetN_, dSet_, dIfS_, gN_, gsN_, gsC_, gT_, gSub_, dAsg_, dRaise_, dRaiseA_, dFor_, wSeq_, wEn_, wRng_, dLc_, dYes_, wipeT_nil, wipeT_cons, endF_nx, endF_rt, endF_ex, chk_str, chk_tup, items_str, items_tup, items_ob, seq_tup, len_tup, add_int, sub_int, lt_int', le_int', gt_int', ge_int', lt_str', gt_str', eq_int', eq_str', ne_int', ne_str', neg_int, int_int, int_bl, isnot_non, is_non, dFn1, dFn2, dFn3, dFn4, dFn5, List.replicate_succ, List.replicate_zero, List.getElem?_cons_zero, List.getElem?_cons_succ, List.set_cons_zero, List.set_cons_succ, List.length_cons, List.length_nil, if_true_, if_false_, if_T_, if_F_, Bool.not_true, Bool.not_false, Nat.reduceAdd, Nat.reduceSub, Nat.reduceLeDiff, Int.reduceSub, Int.reduceAdd, ge_iff_le, List.map_cons, List.map_nil, List.cons_append, List.nil_append, x0, x1, slice_tup, c1, c2, if_pos (le_line' (n := 2) (by decide)), add_tup (x := rows.take i.toNat) (y := [rows[i.toNat + 1], rows[i.toNat]]) (by simp; omega),
          add_tup (x := rows.take i.toNat ++ [rows[i.toNat + 1], rows[i.toNat]]) (y := rows.drop (i.toNat + 2)) (by simp; omega)]
      simp only [b_Bench_shift, bind_ok, bind_ex, bind_no, toS_ok, toS_ex, toS_no, sb_nx, sb_rt, sb_bk, sb_ct, sb_ex, sb_no, tu_nx, tu_ct, tu_bk, tu_rt, tu_ex, on_nx, on_ex, dV_, dC_, dBin_, dUn_, dNilA_, dConsA_, dTup_, dLst_, asB_bl, dB_, dAndB_, dOrB_, dNotB_, dAnd_, dOr_, dNot_, dIf_, dCallB_, dCall_, dMeth_, dFld_, dSetF_, dMake_, dNoPart_, asI_int, dPart_, dSlice_, dDic_, dChain_, dSeq_, dNil_, dPass_, dBreak_, dCont_, dExpr_, dRet_, dRetN_, dSet_, dIfS_, gN_, gsN_, gsC_, gT_, gSub_, dAsg_, dRaise_, dRaiseA_, dFor_, wSeq_, wEn_, wRng_, dLc_, dYes_, wipeT_nil, wipeT_cons, endF_nx, endF_rt, endF_ex, chk_str, chk_tup, items_str, items_tup, items_ob, seq_tup, len_tup, add_int, sub_int, lt_int', le_int', gt_int', ge_int', lt_str', gt_str', eq_int', eq_str', ne_int', ne_str', neg_int, int_int, int_bl, isnot_non, is_non, dFn1, dFn2, dFn3, dFn4, dFn5, List.replicate_succ, List.replicate_zero, List.getElem?_cons_zero, List.getElem?_cons_succ, List.set_cons_zero, List.set_cons_succ, List.length_cons, List.length_nil, if_true_, if_false_, if_T_, if_F_, Bool.not_true, Bool.not_false, Nat.reduceAdd, Nat.reduceSub, Nat.reduceLeDiff, Int.reduceSub, Int.reduceAdd, ge_iff_le, List.map_cons, List.map_nil, List.cons_append, List.nil_append, f_rows B.b, P_is_within h1.ty, q1', hi, hs, P_Bench_go B]
    | _ => simp [isWithin] at q1
theorem P_Bench_back0 (B : BenchAt M b hp m rows []) : d_Bench_back [.ob b] M = .ex ("NothingDone", []) M := by
  refine gcF_exsame ?_
  simp only [b_Bench_back, bind_ok, bind_ex, bind_no, toS_ok, toS_ex, toS_no, sb_nx, sb_rt, sb_bk, sb_ct, sb_ex, sb_no, tu_nx, tu_ct, tu_bk, tu_rt, tu_ex, on_nx, on_ex, dV_, dC_, dBin_, dUn_, dNilA_, dConsA_, dTup_, dLst_, asB_bl, dB_, dAndB_, dOrB_, dNotB_, dAnd_, dOr_, dNot_, dIf_, dCallB_, dCall_, dMeth_, dFld_, dSetF_, dMake_, dNoPart_, asI_int, dPart_, dSlice_, dDic_, dChain_, dSeq_, dNil_, dPass_, dBreak_, dCont_, dExpr_, dRet_, dRetN_, dSet_, dIfS_, gN_, gsN_, gsC_, gT_, gSub_, dAsg_, dRaise_, dRaiseA_, dFor_, wSeq_, wEn_, wRng_, dLc_, dYes_, wipeT_nil, wipeT_cons, endF_nx, endF_rt, endF_ex, chk_str, chk_tup, items_str, items_tup, items_ob, seq_tup, len_tup, add_int, sub_int, lt_int', le_int', gt_int', ge_int', lt_str', gt_str', eq_int', eq_str', ne_int', ne_str', neg_int, int_int, int_bl, isnot_non, is_non, dFn1, dFn2, dFn3, dFn4, dFn5, List.replicate_succ, List.replicate_zero, List.getElem?_cons_zero, List.getElem?_cons_succ, List.set_cons_zero, List.set_cons_succ, List.length_cons, List.length_nil, if_true_, if_false_, if_T_, if_F_, Bool.not_true, Bool.not_false, Nat.reduceAdd, Nat.reduceSub, Nat.reduceLeDiff, Int.reduceSub, Int.reduceAdd, ge_iff_le, List.map_cons, List.map_nil, List.cons_append, List.nil_append, f_past B.b, len_ob B.h]
  rfl
theorem P_Bench_back {r : List T} (B : BenchAt M b hp m rows (pasts ++ [.tup r])) : d_Bench_back [.ob b] M = .ok .non ((M.set hp (.lst pasts)).set b (benchC m r hp)) := by
  have hb := look_set B.b (m := hp) (d := .lst pasts) (Ne.symm B.ne)
  have hl : decide (((pasts ++ [T.tup r]).length : Int) = 0) = false := by simp; omega
  refine gcF_len ?_ (by simp)
  simp only [b_Bench_back, bind_ok, bind_ex, bind_no, toS_ok, toS_ex, toS_no, sb_nx, sb_rt, sb_bk, sb_ct, sb_ex, sb_no, tu_nx, tu_ct, tu_bk, tu_rt, tu_ex, on_nx, on_ex, dV_, dC_, dBin_, dUn_, dNilA_, dConsA_, dTup_, dLst_, asB_bl, dB_, dAndB_, dOrB_, dNotB_, dAnd_, dOr_, dNot_, dIf_, dCallB_, dCall_, dMeth_, dFld_, dSetF_, dMake_, dNoPart_, asI_int, dPart_, dSlice_, dDic_, dChain_, dSeq_, dNil_, dPass_, dBreak_, dCont_, dExpr_, dRet_, dRetN_, dSet_, dIfS_, gN_, gsN_, gsC_, gT_, gSub_, dAsg_, dRaise_, dRaiseA_, dFor_, wSeq_, wEn_, wRng_, dLc_, dYes_, wipeT_nil, wipeT_cons, endF_nx, endF_rt, endF_ex, chk_str, chk_tup, items_str, items_tup, items_ob, seq_tup, len_tup, add_int, sub_int, lt_int', le_int', gt_int', ge_int', lt_str', gt_str', eq_int', eq_str', ne_int', ne_str', neg_int, int_int, int_bl, isnot_non, is_non, dFn1, dFn2, dFn3, dFn4, dFn5, List.replicate_succ, List.replicate_zero, List.getElem?_cons_zero, List.getElem?_cons_succ, List.set_cons_zero, List.set_cons_succ, List.length_cons, List.length_nil, if_true_, if_false_, if_T_, if_F_, Bool.not_true, Bool.not_false, Nat.reduceAdd, Nat.reduceSub, Nat.reduceLeDiff, Int.reduceSub, Int.reduceAdd, ge_iff_le, List.map_cons, List.map_nil, List.cons_append, List.nil_append, f_past B.b, len_ob B.h, hl, isL_ob B.h, pop_ob B.h, sf_rows hb]
theorem P_Bench_deeds (B : BenchAt M b hp m rows pasts) : d_Bench_deeds [.ob b] M = .ok (.int pasts.length) M := by
  refine gcF_same ?_
  simp only [b_Bench_deeds, bind_ok, bind_ex, bind_no, toS_ok, toS_ex, toS_no, sb_nx, sb_rt, sb_bk, sb_ct, sb_ex, sb_no, tu_nx, tu_ct, tu_bk, tu_rt, tu_ex, on_nx, on_ex, dV_, dC_, dBin_, dUn_, dNilA_, dConsA_, dTup_, dLst_, asB_bl, dB_, dAndB_, dOrB_, dNotB_, dAnd_, dOr_, dNot_, dIf_, dCallB_, dCall_, dMeth_, dFld_, dSetF_, dMake_, dNoPart_, asI_int, dPart_, dSlice_, dDic_, dChain_, dSeq_, dNil_, dPass_, dBreak_, dCont_, dExpr_, dRet_, dRetN_, dSet_, dIfS_, gN_, gsN_, gsC_, gT_, gSub_, dAsg_, dRaise_, dRaiseA_, dFor_, wSeq_, wEn_, wRng_, dLc_, dYes_, wipeT_nil, wipeT_cons, endF_nx, endF_rt, endF_ex, chk_str, chk_tup, items_str, items_tup, items_ob, seq_tup, len_tup, add_int, sub_int, lt_int', le_int', gt_int', ge_int', lt_str', gt_str', eq_int', eq_str', ne_int', ne_str', neg_int, int_int, int_bl, isnot_non, is_non, dFn1, dFn2, dFn3, dFn4, dFn5, List.replicate_succ, List.replicate_zero, List.getElem?_cons_zero, List.getElem?_cons_succ, List.set_cons_zero, List.set_cons_succ, List.length_cons, List.length_nil, if_true_, if_false_, if_T_, if_F_, Bool.not_true, Bool.not_false, Nat.reduceAdd, Nat.reduceSub, Nat.reduceLeDiff, Int.reduceSub, Int.reduceAdd, ge_iff_le, List.map_cons, List.map_nil, List.cons_append, List.nil_append, f_past B.b, len_ob B.h]
/-- a deed and its undoing -/
theorem back_done (B : BenchAt M b hp m rows pasts) {r : List T} (hr : r.length ≤ 41) (hp' : pasts.length ≤ 900) : d_Bench_back [.ob b] (done M b hp m rows pasts r) = .ok .non M := by
  rw [P_Bench_back (done_at B hr hp')]
  congr 1
  apply List.ext_getElem?
  intro j
  have hb := lt_of_some B.b
  have hh := lt_of_some B.h
  by_cases q1 : j = b
  · subst q1
    rw [look_self (by simpa [done] using hb), B.b]
  · rw [List.getElem?_set_ne (Ne.symm q1)]
    by_cases q2 : j = hp
    · subst q2
      rw [look_self (by simpa [done] using hh), B.h]
    · rw [List.getElem?_set_ne (Ne.symm q2), done, List.getElem?_set_ne (Ne.symm q1), List.getElem?_set_ne (Ne.symm q2)]
end
end HB

set_option maxHeartbeats 1000000
namespace HB
open PySem DN
section
variable {M : Mem} {b hp : Nat} {m : PySem.Str} {rows pasts : List T} {v : T}
/-! ### what a bench has made -/
theorem sf_new {cs : List PySem.Str} {c f : PySem.Str} {fs : List (PySem.Str × T)} (hc : c ∈ cs) (hl : fs.length < 1000) : setFldT cs f v (.ob M.length) (M ++ [.ins c fs]) = .ok .non (M ++ [.ins c (putT f v fs)]) := by
  unfold setFldT
  simp only [List.getElem?_concat_length]
  rw [if_pos ⟨hc, hl⟩]
  simp
def seatsC (m : PySem.Str) (rows : List T) : C := .ins "Seats" [("marks", .str m), ("lots", .tup rows)]
structure Rows (m : PySem.Str) (rows : List T) : Prop where
  lot : ∀ t, t ∈ rows → isLot m t = true ∧ okP t = true
  few : rows.length ≤ 40
theorem P_Seats_init (hm : marksB (.str m) = true) (R : Rows m rows) : d_Seats___init__ [.ob M.length, .str m, .tup rows] (M ++ [.ins "Seats" []]) = .ok .non (M ++ [seatsC m rows]) := by
  have hm5 : m.length ≤ 5 := by
    simp only [marksB, Bool.and_eq_true, decide_eq_true_eq] at hm
    exact hm.1
  have t1 : ∀ M, Thing cs (.str m) M := fun M => okQ_thing (decide_eq_true (by omega))
  have t2 : ∀ M, Thing cs (.tup rows) M := fun M => okQ_thing (t := .tup rows) rfl
  have hf := R.few
  have h40 : decide ((40 : Int) < rows.length) = false := by simp; omega
  refine gcF_len ?_ (by simp)
  simp only [b_Seats___init__, bind_ok, bind_ex, bind_no, toS_ok, toS_ex, toS_no, sb_nx, sb_rt, sb_bk, sb_ct, sb_ex, sb_no, tu_nx, tu_ct, tu_bk, tu_rt, tu_ex, on_nx, on_ex, dV_, dC_, dBin_, dUn_, dNilA_, dConsA_, dTup_, dLst_, asB_bl, dB_, dAndB_, dOrB_, dNotB_, dAnd_, dOr_, dNot_, dIf_, dCallB_, dCall_, dMeth_, dFld_, dSetF_, dMake_, dNoPart_, asI_int, dPart_, dSlice_, dDic_, dChain_, dSeq_, dNil_, dPass_, dBreak_, dCont_, dExpr_, dRet_, dRetN_, dSet_, dIfS_, gN_, gsN_, gsC_, gT_, gSub_, dAsg_, dRaise_, dRaiseA_, dFor_, wSeq_, wEn_, wRng_, dLc_, dYes_, wipeT_nil, wipeT_cons, endF_nx, endF_rt, endF_ex, chk_str, chk_tup, items_str, items_tup, items_ob, seq_tup, len_tup, add_int, sub_int, lt_int', le_int', gt_int', ge_int', lt_str', gt_str', eq_int', eq_str', ne_int', ne_str', neg_int, int_int, int_bl, isnot_non, is_non, dFn1, dFn2, dFn3, dFn4, dFn5, List.replicate_succ, List.replicate_zero, List.getElem?_cons_zero, List.getElem?_cons_succ, List.set_cons_zero, List.set_cons_succ, List.length_cons, List.length_nil, if_true_, if_false_, if_T_, if_F_, Bool.not_true, Bool.not_false, Nat.reduceAdd, Nat.reduceSub, Nat.reduceLeDiff, Int.reduceSub, Int.reduceAdd, ge_iff_le, List.map_cons, List.map_nil, List.cons_append, List.nil_append, P_is_marks (t1 _), hm, isi_tup (t2 _).ty, h40, P_first_no_lot (fun t ht => ⟨(R.lot t ht).1, okP_things (R.lot t ht).2⟩), decide_true,
    sf_new (M := M) (cs := ["Seats", "Bench"]) (c := "Seats") (fs := []) (by decide) (by decide), sf_new (M := M) (cs := ["Seats"]) (c := "Seats") (f := "lots") (fs := putT "marks" (.str m) []) (by decide) (show 1 < 1000 by omega)]
  rfl
theorem P_Bench_made (B : BenchAt M b hp m rows pasts) (hm : marksB (.str m) = true) (R : Rows m rows) : d_Bench_made [.ob b] M = .ok (.ob M.length) (M ++ [seatsC m rows]) := by
  refine gcF_new ?_ (Nat.le_refl _)
  simp only [b_Bench_made, bind_ok, bind_ex, bind_no, toS_ok, toS_ex, toS_no, sb_nx, sb_rt, sb_bk, sb_ct, sb_ex, sb_no, tu_nx, tu_ct, tu_bk, tu_rt, tu_ex, on_nx, on_ex, dV_, dC_, dBin_, dUn_, dNilA_, dConsA_, dTup_, dLst_, asB_bl, dB_, dAndB_, dOrB_, dNotB_, dAnd_, dOr_, dNot_, dIf_, dCallB_, dCall_, dMeth_, dFld_, dSetF_, dMake_, dNoPart_, asI_int, dPart_, dSlice_, dDic_, dChain_, dSeq_, dNil_, dPass_, dBreak_, dCont_, dExpr_, dRet_, dRetN_, dSet_, dIfS_, gN_, gsN_, gsC_, gT_, gSub_, dAsg_, dRaise_, dRaiseA_, dFor_, wSeq_, wEn_, wRng_, dLc_, dYes_, wipeT_nil, wipeT_cons, endF_nx, endF_rt, endF_ex, chk_str, chk_tup, items_str, items_tup, items_ob, seq_tup, len_tup, add_int, sub_int, lt_int', le_int', gt_int', ge_int', lt_str', gt_str', eq_int', eq_str', ne_int', ne_str', neg_int, int_int, int_bl, isnot_non, is_non, dFn1, dFn2, dFn3, dFn4, dFn5, List.replicate_succ, List.replicate_zero, List.getElem?_cons_zero, List.getElem?_cons_succ, List.set_cons_zero, List.set_cons_succ, List.length_cons, List.length_nil, if_true_, if_false_, if_T_, if_F_, Bool.not_true, Bool.not_false, Nat.reduceAdd, Nat.reduceSub, Nat.reduceLeDiff, Int.reduceSub, Int.reduceAdd, ge_iff_le, List.map_cons, List.map_nil, List.cons_append, List.nil_append, f_marks B.b, f_rows B.b, P_Seats_init hm R, if_T_]
theorem sf1 (h : M[b]? = some (seatsC m rows)) : fldT ["Seats", "Bench"] "marks" (.ob b) M = .ok (.str m) M := by
  unfold fldT seatsC at *
  simp only [h]
  rfl
theorem sf2 (h : M[b]? = some (seatsC m rows)) : fldT ["Seats"] "lots" (.ob b) M = .ok (.tup rows) M := by
  unfold fldT seatsC at *
  simp only [h]
  rfl
theorem si (h : M[b]? = some (seatsC m rows)) : isiC ["Seats", "Bench"] "Seats" (.ob b) M = .ok (.bl true) M := by
  unfold isiC tyN seatsC at *
  simp only [h]
  rfl
theorem BenchAt.app {G : Mem} (B : BenchAt M b hp m rows pasts) : BenchAt (M ++ G) b hp m rows pasts := ⟨look_app B.b, look_app B.h, B.few, B.fewp⟩
theorem P__law_stands (B : BenchAt M b hp m rows pasts) (hm : marksB (.str m) = true) (hm2 : mOk m = true) (R : Rows m rows) : d__law_stands [.ob b, .str m, .tup rows, .int pasts.length] M = .ok (.bl true) M := by
  refine gcF_app (G := [seatsC m rows]) ?_ rfl
  have hs : (M ++ [seatsC m rows])[M.length]? = some (seatsC m rows) := List.getElem?_concat_length
  obtain ⟨d, e1, e2, e3⟩ := lots_dat (g := datG 4 (M ++ [seatsC m rows])) hm2 (fun t ht => (R.lot t ht).1)
  have he : eqT (.tup rows) (.tup rows) (M ++ [seatsC m rows]) = .ok (.bl true) (M ++ [seatsC m rows]) := eq_same rfl e1 e2 (by omega)
  have B' := B.app (G := [seatsC m rows])
  simp only [b__law_stands, bind_ok, bind_ex, bind_no, toS_ok, toS_ex, toS_no, sb_nx, sb_rt, sb_bk, sb_ct, sb_ex, sb_no, tu_nx, tu_ct, tu_bk, tu_rt, tu_ex, on_nx, on_ex, dV_, dC_, dBin_, dUn_, dNilA_, dConsA_, dTup_, dLst_, asB_bl, dB_, dAndB_, dOrB_, dNotB_, dAnd_, dOr_, dNot_, dIf_, dCallB_, dCall_, dMeth_, dFld_, dSetF_, dMake_, dNoPart_, asI_int, dPart_, dSlice_, dDic_, dChain_, dSeq_, dNil_, dPass_, dBreak_, dCont_, dExpr_, dRet_, dRetN_, dSet_, dIfS_, gN_, gsN_, gsC_, gT_, gSub_, dAsg_, dRaise_, dRaiseA_, dFor_, wSeq_, wEn_, wRng_, dLc_, dYes_, wipeT_nil, wipeT_cons, endF_nx, endF_rt, endF_ex, chk_str, chk_tup, items_str, items_tup, items_ob, seq_tup, len_tup, add_int, sub_int, lt_int', le_int', gt_int', ge_int', lt_str', gt_str', eq_int', eq_str', ne_int', ne_str', neg_int, int_int, int_bl, isnot_non, is_non, dFn1, dFn2, dFn3, dFn4, dFn5, List.replicate_succ, List.replicate_zero, List.getElem?_cons_zero, List.getElem?_cons_succ, List.set_cons_zero, List.set_cons_succ, List.length_cons, List.length_nil, if_true_, if_false_, if_T_, if_F_, Bool.not_true, Bool.not_false, Nat.reduceAdd, Nat.reduceSub, Nat.reduceLeDiff, Int.reduceSub, Int.reduceAdd, ge_iff_le, List.map_cons, List.map_nil, List.cons_append, List.nil_append, isIns_b (n := "made") B.b rfl, P_Bench_made B hm R, si hs, sf1 hs, decide_true, sf2 hs, he, isIns_b (n := "deeds") B'.b rfl, P_Bench_deeds B']
/-! ### a word for what is raised -/
theorem dIsE_ {c : PySem.Str} {tab : List (PySem.Str × Bool)} {x : Bool} {ρ : Ev} (h : tab.lookup c = some x) : dIsE (c, []) tab ρ M = .ok (.bl x) M := by
  unfold dIsE
  simp only [h]
theorem catch_A {c : PySem.Str} {told : PySem.Str} {b1 b2 b3 b4 b5 : Bool} {w0 w1 w2 w3 w4 : Option T} {k : Nat}
    (hA : List.lookup c [(("NoMarks" : PySem.Str), false), ("NoLot", false), ("NoSeat", false), ("NoPlace", false), ("NothingDone", false), ("BadSeats", false), ("TooMany", true)] = some false)
    (hB : List.lookup c [(("NoMarks" : PySem.Str), true), ("NoLot", true), ("NoSeat", true), ("NoPlace", true), ("NothingDone", true), ("BadSeats", true), ("TooMany", true)] = some true)
    (h1 : List.lookup c [(("NoMarks" : PySem.Str), false), ("NoLot", false), ("NoSeat", false), ("NoPlace", true), ("NothingDone", false)] = some b1)
    (h2 : List.lookup c [(("NoMarks" : PySem.Str), false), ("NoLot", true), ("NoSeat", false), ("NoPlace", false), ("NothingDone", false)] = some b2)
    (h3 : List.lookup c [(("NoMarks" : PySem.Str), false), ("NoLot", false), ("NoSeat", true), ("NoPlace", false), ("NothingDone", false)] = some b3)
    (h4 : List.lookup c [(("NoMarks" : PySem.Str), false), ("NoLot", false), ("NoSeat", false), ("NoPlace", false), ("NothingDone", true)] = some b4)
    (h5 : List.lookup c [(("NoMarks" : PySem.Str), true), ("NoLot", false), ("NoSeat", false), ("NoPlace", false), ("NothingDone", false)] = some b5)
    (hc : [T.bl b1, .bl b2, .bl b3, .bl b4, .bl b5].countP (fun z => eqS z (.bl true)) = 1) (hi : idxOf (.bl true) [T.bl b1, .bl b2, .bl b3, .bl b4, .bl b5] 0 = some k)
    (hk : [T.str "place", .str "lot", .str "seat", .str "nothing", .str "marks"][k]? = some (.str told)) :
    ∃ G x, catchD [⟨[("NoMarks", false), ("NoLot", false), ("NoSeat", false), ("NoPlace", false), ("NothingDone", false), ("BadSeats", false), ("TooMany", true)], some 5, fun er => (dSet 4 (dBin ixT (dLst (dConsA (dC (.str "other")) (dConsA (dC (.str "many")) dNilA))) (dCallB intT (dConsA (dBin eqT (dEf er ["TooMany"] "most") (dC (.int 40))) dNilA))))⟩, ⟨[("NoMarks", true), ("NoLot", true), ("NoSeat", true), ("NoPlace", true), ("NothingDone", true), ("BadSeats", true), ("TooMany", true)], some 5, fun er => (dSeq (dSet 6 (dLst (dConsA (dIsE er [("NoMarks", false), ("NoLot", false), ("NoSeat", false), ("NoPlace", true), ("NothingDone", false)]) (dConsA (dIsE er [("NoMarks", false), ("NoLot", true), ("NoSeat", false), ("NoPlace", false), ("NothingDone", false)]) (dConsA (dIsE er [("NoMarks", false), ("NoLot", false), ("NoSeat", true), ("NoPlace", false), ("NothingDone", false)]) (dConsA (dIsE er [("NoMarks", false), ("NoLot", false), ("NoSeat", false), ("NoPlace", false), ("NothingDone", true)]) dNilA))))))
 (dSeq (dExpr (dMeth isL appendT (dV 6) (dConsA (dIsE er [("NoMarks", true), ("NoLot", false), ("NoSeat", false), ("NoPlace", false), ("NothingDone", false)]) dNilA)))
 (dSeq (dSet 4 (dC (.str "odd")))
 (dIfS (dB (dBin eqT (dMeth isL countT (dV 6) (dConsA (dC (.bl true)) dNilA)) (dC (.int 1)))) (dSet 4 (dBin ixT (dLst (dConsA (dC (.str "place")) (dConsA (dC (.str "lot")) (dConsA (dC (.str "seat")) (dConsA (dC (.str "nothing")) (dConsA (dC (.str "marks")) dNilA)))))) (dMeth isL indexT (dV 6) (dConsA (dC (.bl true)) dNilA))))
 dNil))))⟩] (c, []) [w0, w1, w2, w3, w4, none, none] M = .nx [w0, w1, w2, w3, some (.str told), none, x] (M ++ G) := by
  have hf : ∀ (M : Mem) (n : Nat), M[n]? = some (.lst [T.bl b1, .bl b2, .bl b3, .bl b4, .bl b5]) → countT [.ob n, .bl true] M = .ok (.int 1) M ∧ indexT [.ob n, .bl true] M = .ok (.int k) M := fun M n h => by
    refine ⟨?_, ?_⟩
    · unfold countT
      simp only [h]
      rw [if_pos ⟨rfl, rfl⟩, hc]
      rfl
    · unfold indexT
      simp only [h]
      rw [if_pos ⟨rfl, rfl⟩, hi]
  have hg : (M ++ [C.lst [T.bl b1, .bl b2, .bl b3, .bl b4, .bl b5]])[M.length]? = some (.lst [T.bl b1, .bl b2, .bl b3, .bl b4, .bl b5]) := List.getElem?_concat_length
  have hap : appendT [.ob M.length, .bl b5] (M ++ [.lst [.bl b1, .bl b2, .bl b3, .bl b4]]) = .ok .non (M ++ [.lst [.bl b1, .bl b2, .bl b3, .bl b4, .bl b5]]) := by
    rw [app_ob (ts := [.bl b1, .bl b2, .bl b3, .bl b4]) List.getElem?_concat_length (Nat.le_of_ble_eq_true rfl)]
    simp
  have hw : ∀ M : Mem, ixT (.ob M.length) (.int k) (M ++ [.lst [T.str "place", .str "lot", .str "seat", .str "nothing", .str "marks"]]) = .ok (.str told) (M ++ [.lst [T.str "place", .str "lot", .str "seat", .str "nothing", .str "marks"]]) := fun M => ix_ob List.getElem?_concat_length hk
  refine ⟨[.lst [.bl b1, .bl b2, .bl b3, .bl b4, .bl b5]] ++ [.lst [T.str "place", .str "lot", .str "seat", .str "nothing", .str "marks"]], some (.ob M.length), ?_⟩
  unfold catchD
  simp only [hA]
  unfold catchD
  simp only [hB]
  simp only [bind_ok, bind_ex, bind_no, toS_ok, toS_ex, toS_no, sb_nx, sb_rt, sb_bk, sb_ct, sb_ex, sb_no, tu_nx, tu_ct, tu_bk, tu_rt, tu_ex, on_nx, on_ex, dV_, dC_, dBin_, dUn_, dNilA_, dConsA_, dTup_, dLst_, asB_bl, dB_, dAndB_, dOrB_, dNotB_, dAnd_, dOr_, dNot_, dIf_, dCallB_, dCall_, dMeth_, dFld_, dSetF_, dMake_, dNoPart_, asI_int, dPart_, dSlice_, dDic_, dChain_, dSeq_, dNil_, dPass_, dBreak_, dCont_, dExpr_, dRet_, dRetN_, dSet_, dIfS_, gN_, gsN_, gsC_, gT_, gSub_, dAsg_, dRaise_, dRaiseA_, dFor_, wSeq_, wEn_, wRng_, dLc_, dYes_, wipeT_nil, wipeT_cons, endF_nx, endF_rt, endF_ex, chk_str, chk_tup, items_str, items_tup, items_ob, seq_tup, len_tup, add_int, sub_int, lt_int', le_int', gt_int', ge_int', lt_str', gt_str', eq_int', eq_str', ne_int', ne_str', neg_int, int_int, int_bl, isnot_non, is_non, dFn1, dFn2, dFn3, dFn4, dFn5, List.replicate_succ, List.replicate_zero, List.getElem?_cons_zero, List.getElem?_cons_succ, List.set_cons_zero, List.set_cons_succ, List.length_cons, List.length_nil, if_true_, if_false_, if_T_, if_F_, Bool.not_true, Bool.not_false, Nat.reduceAdd, Nat.reduceSub, Nat.reduceLeDiff, Int.reduceSub, Int.reduceAdd, ge_iff_le, List.map_cons, List.map_nil, List.cons_append, List.nil_append, dIsE_ h1, dIsE_ h2, dIsE_ h3, dIsE_ h4, if_pos (le_line' (n := 4) (by decide)), isL_ob List.getElem?_concat_length, dIsE_ h5, hap, (hf _ _ hg).1, decide_true, if_pos (le_line' (n := 5) (by decide))]
  simp only [isL_ob (look_app hg), bind_ok, bind_ex, bind_no, toS_ok, toS_ex, toS_no, sb_nx, sb_rt, sb_bk, sb_ct, sb_ex, sb_no, tu_nx, tu_ct, tu_bk, tu_rt, tu_ex, on_nx, on_ex, dV_, dC_, dBin_, dUn_, dNilA_, dConsA_, dTup_, dLst_, asB_bl, dB_, dAndB_, dOrB_, dNotB_, dAnd_, dOr_, dNot_, dIf_, dCallB_, dCall_, dMeth_, dFld_, dSetF_, dMake_, dNoPart_, asI_int, dPart_, dSlice_, dDic_, dChain_, dSeq_, dNil_, dPass_, dBreak_, dCont_, dExpr_, dRet_, dRetN_, dSet_, dIfS_, gN_, gsN_, gsC_, gT_, gSub_, dAsg_, dRaise_, dRaiseA_, dFor_, wSeq_, wEn_, wRng_, dLc_, dYes_, wipeT_nil, wipeT_cons, endF_nx, endF_rt, endF_ex, chk_str, chk_tup, items_str, items_tup, items_ob, seq_tup, len_tup, add_int, sub_int, lt_int', le_int', gt_int', ge_int', lt_str', gt_str', eq_int', eq_str', ne_int', ne_str', neg_int, int_int, int_bl, isnot_non, is_non, dFn1, dFn2, dFn3, dFn4, dFn5, List.replicate_succ, List.replicate_zero, List.getElem?_cons_zero, List.getElem?_cons_succ, List.set_cons_zero, List.set_cons_succ, List.length_cons, List.length_nil, if_true_, if_false_, if_T_, if_F_, Bool.not_true, Bool.not_false, Nat.reduceAdd, Nat.reduceSub, Nat.reduceLeDiff, Int.reduceSub, Int.reduceAdd, ge_iff_le, List.map_cons, List.map_nil, List.cons_append, List.nil_append, (hf _ _ (look_app hg)).2, hw]
  rw [List.append_assoc]
  rfl
theorem catch_many {w0 w1 w2 w3 w4 : Option T} : ∃ G, catchD [⟨[("NoMarks", false), ("NoLot", false), ("NoSeat", false), ("NoPlace", false), ("NothingDone", false), ("BadSeats", false), ("TooMany", true)], some 5, fun er => (dSet 4 (dBin ixT (dLst (dConsA (dC (.str "other")) (dConsA (dC (.str "many")) dNilA))) (dCallB intT (dConsA (dBin eqT (dEf er ["TooMany"] "most") (dC (.int 40))) dNilA))))⟩, ⟨[("NoMarks", true), ("NoLot", true), ("NoSeat", true), ("NoPlace", true), ("NothingDone", true), ("BadSeats", true), ("TooMany", true)], some 5, fun er => (dSeq (dSet 6 (dLst (dConsA (dIsE er [("NoMarks", false), ("NoLot", false), ("NoSeat", false), ("NoPlace", true), ("NothingDone", false)]) (dConsA (dIsE er [("NoMarks", false), ("NoLot", true), ("NoSeat", false), ("NoPlace", false), ("NothingDone", false)]) (dConsA (dIsE er [("NoMarks", false), ("NoLot", false), ("NoSeat", true), ("NoPlace", false), ("NothingDone", false)]) (dConsA (dIsE er [("NoMarks", false), ("NoLot", false), ("NoSeat", false), ("NoPlace", false), ("NothingDone", true)]) dNilA))))))
 (dSeq (dExpr (dMeth isL appendT (dV 6) (dConsA (dIsE er [("NoMarks", true), ("NoLot", false), ("NoSeat", false), ("NoPlace", false), ("NothingDone", false)]) dNilA)))
 (dSeq (dSet 4 (dC (.str "odd")))
 (dIfS (dB (dBin eqT (dMeth isL countT (dV 6) (dConsA (dC (.bl true)) dNilA)) (dC (.int 1)))) (dSet 4 (dBin ixT (dLst (dConsA (dC (.str "place")) (dConsA (dC (.str "lot")) (dConsA (dC (.str "seat")) (dConsA (dC (.str "nothing")) (dConsA (dC (.str "marks")) dNilA)))))) (dMeth isL indexT (dV 6) (dConsA (dC (.bl true)) dNilA))))
 dNil))))⟩] ("TooMany", [("most", .int 40)]) [w0, w1, w2, w3, w4, none, none] M = .nx [w0, w1, w2, w3, some (.str "many"), none, none] (M ++ G) := by
  have hA : List.lookup ("TooMany" : PySem.Str) [(("NoMarks" : PySem.Str), false), ("NoLot", false), ("NoSeat", false), ("NoPlace", false), ("NothingDone", false), ("BadSeats", false), ("TooMany", true)] = some true := by decide +kernel
  have hE : ∀ ρ M, dEf ("TooMany", [("most", .int 40)]) ["TooMany"] "most" ρ M = .ok (.int 40) M := fun ρ M => rfl
  have hw : ∀ M : Mem, ixT (.ob M.length) (.int 1) (M ++ [.lst [T.str "other", .str "many"]]) = .ok (.str "many") (M ++ [.lst [T.str "other", .str "many"]]) := fun M => ix_ob' (j := 1) rfl List.getElem?_concat_length rfl
  refine ⟨[.lst [T.str "other", .str "many"]], ?_⟩
  unfold catchD
  simp only [hA]
  simp only [bind_ok, bind_ex, bind_no, toS_ok, toS_ex, toS_no, sb_nx, sb_rt, sb_bk, sb_ct, sb_ex, sb_no, tu_nx, tu_ct, tu_bk, tu_rt, tu_ex, on_nx, on_ex, dV_, dC_, dBin_, dUn_, dNilA_, dConsA_, dTup_, dLst_, asB_bl, dB_, dAndB_, dOrB_, dNotB_, dAnd_, dOr_, dNot_, dIf_, dCallB_, dCall_, dMeth_, dFld_, dSetF_, dMake_, dNoPart_, asI_int, dPart_, dSlice_, dDic_, dChain_, dSeq_, dNil_, dPass_, dBreak_, dCont_, dExpr_, dRet_, dRetN_, dSet_, dIfS_, gN_, gsN_, gsC_, gT_, gSub_, dAsg_, dRaise_, dRaiseA_, dFor_, wSeq_, wEn_, wRng_, dLc_, dYes_, wipeT_nil, wipeT_cons, endF_nx, endF_rt, endF_ex, chk_str, chk_tup, items_str, items_tup, items_ob, seq_tup, len_tup, add_int, sub_int, lt_int', le_int', gt_int', ge_int', lt_str', gt_str', eq_int', eq_str', ne_int', ne_str', neg_int, int_int, int_bl, isnot_non, is_non, dFn1, dFn2, dFn3, dFn4, dFn5, List.replicate_succ, List.replicate_zero, List.getElem?_cons_zero, List.getElem?_cons_succ, List.set_cons_zero, List.set_cons_succ, List.length_cons, List.length_nil, if_true_, if_false_, if_T_, if_F_, Bool.not_true, Bool.not_false, Nat.reduceAdd, Nat.reduceSub, Nat.reduceLeDiff, Int.reduceSub, Int.reduceAdd, ge_iff_le, List.map_cons, List.map_nil, List.cons_append, List.nil_append, hE, decide_true, if_pos (le_line' (n := 2) (by decide)), if_true, hw]
  rfl
end
end HB

set_option maxHeartbeats 1000000
namespace HB
open PySem DN
section
variable {M : Mem} {b hp : Nat} {m : PySem.Str} {rows pasts : List T} {w0 w1 w2 w3 w4 : Option T}
theorem catch_NoPlace : ∃ G x, catchD [⟨[("NoMarks", false), ("NoLot", false), ("NoSeat", false), ("NoPlace", false), ("NothingDone", false), ("BadSeats", false), ("TooMany", true)], some 5, fun er => (dSet 4 (dBin ixT (dLst (dConsA (dC (.str "other")) (dConsA (dC (.str "many")) dNilA))) (dCallB intT (dConsA (dBin eqT (dEf er ["TooMany"] "most") (dC (.int 40))) dNilA))))⟩, ⟨[("NoMarks", true), ("NoLot", true), ("NoSeat", true), ("NoPlace", true), ("NothingDone", true), ("BadSeats", true), ("TooMany", true)], some 5, fun er => (dSeq (dSet 6 (dLst (dConsA (dIsE er [("NoMarks", false), ("NoLot", false), ("NoSeat", false), ("NoPlace", true), ("NothingDone", false)]) (dConsA (dIsE er [("NoMarks", false), ("NoLot", true), ("NoSeat", false), ("NoPlace", false), ("NothingDone", false)]) (dConsA (dIsE er [("NoMarks", false), ("NoLot", false), ("NoSeat", true), ("NoPlace", false), ("NothingDone", false)]) (dConsA (dIsE er [("NoMarks", false), ("NoLot", false), ("NoSeat", false), ("NoPlace", false), ("NothingDone", true)]) dNilA))))))
 (dSeq (dExpr (dMeth isL appendT (dV 6) (dConsA (dIsE er [("NoMarks", true), ("NoLot", false), ("NoSeat", false), ("NoPlace", false), ("NothingDone", false)]) dNilA)))
 (dSeq (dSet 4 (dC (.str "odd")))
 (dIfS (dB (dBin eqT (dMeth isL countT (dV 6) (dConsA (dC (.bl true)) dNilA)) (dC (.int 1)))) (dSet 4 (dBin ixT (dLst (dConsA (dC (.str "place")) (dConsA (dC (.str "lot")) (dConsA (dC (.str "seat")) (dConsA (dC (.str "nothing")) (dConsA (dC (.str "marks")) dNilA)))))) (dMeth isL indexT (dV 6) (dConsA (dC (.bl true)) dNilA))))
 dNil))))⟩] ("NoPlace", []) [w0, w1, w2, w3, w4, none, none] M = .nx [w0, w1, w2, w3, some (.str "place"), none, x] (M ++ G) :=
  catch_A (k := 0) (b1 := true) (b2 := false) (b3 := false) (b4 := false) (b5 := false) (by decide +kernel) (by decide +kernel) (by decide +kernel) (by decide +kernel) (by decide +kernel) (by decide +kernel) (by decide +kernel) (by decide +kernel) (by decide +kernel) rfl
theorem catch_NoLot : ∃ G x, catchD [⟨[("NoMarks", false), ("NoLot", false), ("NoSeat", false), ("NoPlace", false), ("NothingDone", false), ("BadSeats", false), ("TooMany", true)], some 5, fun er => (dSet 4 (dBin ixT (dLst (dConsA (dC (.str "other")) (dConsA (dC (.str "many")) dNilA))) (dCallB intT (dConsA (dBin eqT (dEf er ["TooMany"] "most") (dC (.int 40))) dNilA))))⟩, ⟨[("NoMarks", true), ("NoLot", true), ("NoSeat", true), ("NoPlace", true), ("NothingDone", true), ("BadSeats", true), ("TooMany", true)], some 5, fun er => (dSeq (dSet 6 (dLst (dConsA (dIsE er [("NoMarks", false), ("NoLot", false), ("NoSeat", false), ("NoPlace", true), ("NothingDone", false)]) (dConsA (dIsE er [("NoMarks", false), ("NoLot", true), ("NoSeat", false), ("NoPlace", false), ("NothingDone", false)]) (dConsA (dIsE er [("NoMarks", false), ("NoLot", false), ("NoSeat", true), ("NoPlace", false), ("NothingDone", false)]) (dConsA (dIsE er [("NoMarks", false), ("NoLot", false), ("NoSeat", false), ("NoPlace", false), ("NothingDone", true)]) dNilA))))))
 (dSeq (dExpr (dMeth isL appendT (dV 6) (dConsA (dIsE er [("NoMarks", true), ("NoLot", false), ("NoSeat", false), ("NoPlace", false), ("NothingDone", false)]) dNilA)))
 (dSeq (dSet 4 (dC (.str "odd")))
 (dIfS (dB (dBin eqT (dMeth isL countT (dV 6) (dConsA (dC (.bl true)) dNilA)) (dC (.int 1)))) (dSet 4 (dBin ixT (dLst (dConsA (dC (.str "place")) (dConsA (dC (.str "lot")) (dConsA (dC (.str "seat")) (dConsA (dC (.str "nothing")) (dConsA (dC (.str "marks")) dNilA)))))) (dMeth isL indexT (dV 6) (dConsA (dC (.bl true)) dNilA))))
 dNil))))⟩] ("NoLot", []) [w0, w1, w2, w3, w4, none, none] M = .nx [w0, w1, w2, w3, some (.str "lot"), none, x] (M ++ G) :=
  catch_A (k := 1) (b1 := false) (b2 := true) (b3 := false) (b4 := false) (b5 := false) (by decide +kernel) (by decide +kernel) (by decide +kernel) (by decide +kernel) (by decide +kernel) (by decide +kernel) (by decide +kernel) (by decide +kernel) (by decide +kernel) rfl
theorem catch_NoSeat : ∃ G x, catchD [⟨[("NoMarks", false), ("NoLot", false), ("NoSeat", false), ("NoPlace", false), ("NothingDone", false), ("BadSeats", false), ("TooMany", true)], some 5, fun er => (dSet 4 (dBin ixT (dLst (dConsA (dC (.str "other")) (dConsA (dC (.str "many")) dNilA))) (dCallB intT (dConsA (dBin eqT (dEf er ["TooMany"] "most") (dC (.int 40))) dNilA))))⟩, ⟨[("NoMarks", true), ("NoLot", true), ("NoSeat", true), ("NoPlace", true), ("NothingDone", true), ("BadSeats", true), ("TooMany", true)], some 5, fun er => (dSeq (dSet 6 (dLst (dConsA (dIsE er [("NoMarks", false), ("NoLot", false), ("NoSeat", false), ("NoPlace", true), ("NothingDone", false)]) (dConsA (dIsE er [("NoMarks", false), ("NoLot", true), ("NoSeat", false), ("NoPlace", false), ("NothingDone", false)]) (dConsA (dIsE er [("NoMarks", false), ("NoLot", false), ("NoSeat", true), ("NoPlace", false), ("NothingDone", false)]) (dConsA (dIsE er [("NoMarks", false), ("NoLot", false), ("NoSeat", false), ("NoPlace", false), ("NothingDone", true)]) dNilA))))))
 (dSeq (dExpr (dMeth isL appendT (dV 6) (dConsA (dIsE er [("NoMarks", true), ("NoLot", false), ("NoSeat", false), ("NoPlace", false), ("NothingDone", false)]) dNilA)))
 (dSeq (dSet 4 (dC (.str "odd")))
 (dIfS (dB (dBin eqT (dMeth isL countT (dV 6) (dConsA (dC (.bl true)) dNilA)) (dC (.int 1)))) (dSet 4 (dBin ixT (dLst (dConsA (dC (.str "place")) (dConsA (dC (.str "lot")) (dConsA (dC (.str "seat")) (dConsA (dC (.str "nothing")) (dConsA (dC (.str "marks")) dNilA)))))) (dMeth isL indexT (dV 6) (dConsA (dC (.bl true)) dNilA))))
 dNil))))⟩] ("NoSeat", []) [w0, w1, w2, w3, w4, none, none] M = .nx [w0, w1, w2, w3, some (.str "seat"), none, x] (M ++ G) :=
  catch_A (k := 2) (b1 := false) (b2 := false) (b3 := true) (b4 := false) (b5 := false) (by decide +kernel) (by decide +kernel) (by decide +kernel) (by decide +kernel) (by decide +kernel) (by decide +kernel) (by decide +kernel) (by decide +kernel) (by decide +kernel) rfl
theorem catch_NothingDone : ∃ G x, catchD [⟨[("NoMarks", false), ("NoLot", false), ("NoSeat", false), ("NoPlace", false), ("NothingDone", false), ("BadSeats", false), ("TooMany", true)], some 5, fun er => (dSet 4 (dBin ixT (dLst (dConsA (dC (.str "other")) (dConsA (dC (.str "many")) dNilA))) (dCallB intT (dConsA (dBin eqT (dEf er ["TooMany"] "most") (dC (.int 40))) dNilA))))⟩, ⟨[("NoMarks", true), ("NoLot", true), ("NoSeat", true), ("NoPlace", true), ("NothingDone", true), ("BadSeats", true), ("TooMany", true)], some 5, fun er => (dSeq (dSet 6 (dLst (dConsA (dIsE er [("NoMarks", false), ("NoLot", false), ("NoSeat", false), ("NoPlace", true), ("NothingDone", false)]) (dConsA (dIsE er [("NoMarks", false), ("NoLot", true), ("NoSeat", false), ("NoPlace", false), ("NothingDone", false)]) (dConsA (dIsE er [("NoMarks", false), ("NoLot", false), ("NoSeat", true), ("NoPlace", false), ("NothingDone", false)]) (dConsA (dIsE er [("NoMarks", false), ("NoLot", false), ("NoSeat", false), ("NoPlace", false), ("NothingDone", true)]) dNilA))))))
 (dSeq (dExpr (dMeth isL appendT (dV 6) (dConsA (dIsE er [("NoMarks", true), ("NoLot", false), ("NoSeat", false), ("NoPlace", false), ("NothingDone", false)]) dNilA)))
 (dSeq (dSet 4 (dC (.str "odd")))
 (dIfS (dB (dBin eqT (dMeth isL countT (dV 6) (dConsA (dC (.bl true)) dNilA)) (dC (.int 1)))) (dSet 4 (dBin ixT (dLst (dConsA (dC (.str "place")) (dConsA (dC (.str "lot")) (dConsA (dC (.str "seat")) (dConsA (dC (.str "nothing")) (dConsA (dC (.str "marks")) dNilA)))))) (dMeth isL indexT (dV 6) (dConsA (dC (.bl true)) dNilA))))
 dNil))))⟩] ("NothingDone", []) [w0, w1, w2, w3, w4, none, none] M = .nx [w0, w1, w2, w3, some (.str "nothing"), none, x] (M ++ G) :=
  catch_A (k := 3) (b1 := false) (b2 := false) (b3 := false) (b4 := true) (b5 := false) (by decide +kernel) (by decide +kernel) (by decide +kernel) (by decide +kernel) (by decide +kernel) (by decide +kernel) (by decide +kernel) (by decide +kernel) (by decide +kernel) rfl
theorem catch_NoMarks : ∃ G x, catchD [⟨[("NoMarks", false), ("NoLot", false), ("NoSeat", false), ("NoPlace", false), ("NothingDone", false), ("BadSeats", false), ("TooMany", true)], some 5, fun er => (dSet 4 (dBin ixT (dLst (dConsA (dC (.str "other")) (dConsA (dC (.str "many")) dNilA))) (dCallB intT (dConsA (dBin eqT (dEf er ["TooMany"] "most") (dC (.int 40))) dNilA))))⟩, ⟨[("NoMarks", true), ("NoLot", true), ("NoSeat", true), ("NoPlace", true), ("NothingDone", true), ("BadSeats", true), ("TooMany", true)], some 5, fun er => (dSeq (dSet 6 (dLst (dConsA (dIsE er [("NoMarks", false), ("NoLot", false), ("NoSeat", false), ("NoPlace", true), ("NothingDone", false)]) (dConsA (dIsE er [("NoMarks", false), ("NoLot", true), ("NoSeat", false), ("NoPlace", false), ("NothingDone", false)]) (dConsA (dIsE er [("NoMarks", false), ("NoLot", false), ("NoSeat", true), ("NoPlace", false), ("NothingDone", false)]) (dConsA (dIsE er [("NoMarks", false), ("NoLot", false), ("NoSeat", false), ("NoPlace", false), ("NothingDone", true)]) dNilA))))))
 (dSeq (dExpr (dMeth isL appendT (dV 6) (dConsA (dIsE er [("NoMarks", true), ("NoLot", false), ("NoSeat", false), ("NoPlace", false), ("NothingDone", false)]) dNilA)))
 (dSeq (dSet 4 (dC (.str "odd")))
 (dIfS (dB (dBin eqT (dMeth isL countT (dV 6) (dConsA (dC (.bl true)) dNilA)) (dC (.int 1)))) (dSet 4 (dBin ixT (dLst (dConsA (dC (.str "place")) (dConsA (dC (.str "lot")) (dConsA (dC (.str "seat")) (dConsA (dC (.str "nothing")) (dConsA (dC (.str "marks")) dNilA)))))) (dMeth isL indexT (dV 6) (dConsA (dC (.bl true)) dNilA))))
 dNil))))⟩] ("NoMarks", []) [w0, w1, w2, w3, w4, none, none] M = .nx [w0, w1, w2, w3, some (.str "marks"), none, x] (M ++ G) :=
  catch_A (k := 4) (b1 := false) (b2 := false) (b3 := false) (b4 := false) (b5 := true) (by decide +kernel) (by decide +kernel) (by decide +kernel) (by decide +kernel) (by decide +kernel) (by decide +kernel) (by decide +kernel) (by decide +kernel) (by decide +kernel) rfl
theorem d00 : decide ((0 : Int) = 0) = true := rfl
theorem d10 : decide ((1 : Int) = 0) = false := rfl
theorem d11 : decide ((1 : Int) = 1) = true := rfl
theorem d20 : decide ((2 : Int) = 0) = false := rfl
theorem d21 : decide ((2 : Int) = 1) = false := rfl
theorem d22 : decide ((2 : Int) = 2) = true := rfl
theorem d30 : decide ((3 : Int) = 0) = false := rfl
theorem d31 : decide ((3 : Int) = 1) = false := rfl
theorem d32 : decide ((3 : Int) = 2) = false := rfl
theorem d33 : decide ((3 : Int) = 3) = true := rfl
theorem d40 : decide ((4 : Int) = 0) = false := rfl
theorem d41 : decide ((4 : Int) = 1) = false := rfl
theorem d42 : decide ((4 : Int) = 2) = false := rfl
theorem d43 : decide ((4 : Int) = 3) = false := rfl
end
end HB

set_option maxHeartbeats 1000000
namespace HB
open PySem DN
section
variable {M : Mem} {b hp : Nat} {m : PySem.Str} {rows pasts : List T} {w0 w1 w2 w3 w4 : Option T}
theorem asked0_ok {at_ lot : T} {M' : Mem} (B : BenchAt M b hp m rows pasts) (e : d_Bench_put [.ob b, at_, lot] M = .ok .non M') (hl : M'.length = M.length) : d__law_asked [.ob b, .int 0, at_, lot] M = .ok (.str "done") M' := by
  refine gcF_len ?_ hl
  simp only [b__law_asked, bind_ok, bind_ex, bind_no, toS_ok, toS_ex, toS_no, sb_nx, sb_rt, sb_bk, sb_ct, sb_ex, sb_no, tu_nx, tu_ct, tu_bk, tu_rt, tu_ex, on_nx, on_ex, dV_, dC_, dBin_, dUn_, dNilA_, dConsA_, dTup_, dLst_, asB_bl, dB_, dAndB_, dOrB_, dNotB_, dAnd_, dOr_, dNot_, dIf_, dCallB_, dCall_, dMeth_, dFld_, dSetF_, dMake_, dNoPart_, asI_int, dPart_, dSlice_, dDic_, dChain_, dSeq_, dNil_, dPass_, dBreak_, dCont_, dExpr_, dRet_, dRetN_, dSet_, dIfS_, gN_, gsN_, gsC_, gT_, gSub_, dAsg_, dRaise_, dRaiseA_, dFor_, wSeq_, wEn_, wRng_, dLc_, dYes_, wipeT_nil, wipeT_cons, endF_nx, endF_rt, endF_ex, chk_str, chk_tup, items_str, items_tup, items_ob, seq_tup, len_tup, add_int, sub_int, lt_int', le_int', gt_int', ge_int', lt_str', gt_str', eq_int', eq_str', ne_int', ne_str', neg_int, int_int, int_bl, isnot_non, is_non, dFn1, dFn2, dFn3, dFn4, dFn5, List.replicate_succ, List.replicate_zero, List.getElem?_cons_zero, List.getElem?_cons_succ, List.set_cons_zero, List.set_cons_succ, List.length_cons, List.length_nil, if_true_, if_false_, if_T_, if_F_, Bool.not_true, Bool.not_false, Nat.reduceAdd, Nat.reduceSub, Nat.reduceLeDiff, Int.reduceSub, Int.reduceAdd, ge_iff_le, List.map_cons, List.map_nil, List.cons_append, List.nil_append, dTry_, d00, decide_true, isIns_b (n := "put") B.b rfl, e, tryR_nx]
theorem asked0_ex {at_ lot : T} {c told : PySem.Str} (B : BenchAt M b hp m rows pasts) (e : d_Bench_put [.ob b, at_, lot] M = .ex (c, []) M) (hc : ∀ w0 w1 w2 w3 w4, ∃ G x, catchD [⟨[("NoMarks", false), ("NoLot", false), ("NoSeat", false), ("NoPlace", false), ("NothingDone", false), ("BadSeats", false), ("TooMany", true)], some 5, fun er => (dSet 4 (dBin ixT (dLst (dConsA (dC (.str "other")) (dConsA (dC (.str "many")) dNilA))) (dCallB intT (dConsA (dBin eqT (dEf er ["TooMany"] "most") (dC (.int 40))) dNilA))))⟩, ⟨[("NoMarks", true), ("NoLot", true), ("NoSeat", true), ("NoPlace", true), ("NothingDone", true), ("BadSeats", true), ("TooMany", true)], some 5, fun er => (dSeq (dSet 6 (dLst (dConsA (dIsE er [("NoMarks", false), ("NoLot", false), ("NoSeat", false), ("NoPlace", true), ("NothingDone", false)]) (dConsA (dIsE er [("NoMarks", false), ("NoLot", true), ("NoSeat", false), ("NoPlace", false), ("NothingDone", false)]) (dConsA (dIsE er [("NoMarks", false), ("NoLot", false), ("NoSeat", true), ("NoPlace", false), ("NothingDone", false)]) (dConsA (dIsE er [("NoMarks", false), ("NoLot", false), ("NoSeat", false), ("NoPlace", false), ("NothingDone", true)]) dNilA))))))
 (dSeq (dExpr (dMeth isL appendT (dV 6) (dConsA (dIsE er [("NoMarks", true), ("NoLot", false), ("NoSeat", false), ("NoPlace", false), ("NothingDone", false)]) dNilA)))
 (dSeq (dSet 4 (dC (.str "odd")))
 (dIfS (dB (dBin eqT (dMeth isL countT (dV 6) (dConsA (dC (.bl true)) dNilA)) (dC (.int 1)))) (dSet 4 (dBin ixT (dLst (dConsA (dC (.str "place")) (dConsA (dC (.str "lot")) (dConsA (dC (.str "seat")) (dConsA (dC (.str "nothing")) (dConsA (dC (.str "marks")) dNilA)))))) (dMeth isL indexT (dV 6) (dConsA (dC (.bl true)) dNilA))))
 dNil))))⟩] (c, []) [w0, w1, w2, w3, w4, none, none] M = .nx [w0, w1, w2, w3, some (.str told), none, x] (M ++ G)) : d__law_asked [.ob b, .int 0, at_, lot] M = .ok (.str told) M := by
  obtain ⟨G, x, hG⟩ := hc (some (.ob b)) (some (.int 0)) (some at_) (some lot) (some (.str "none"))
  refine gcF_app (G := G) ?_ rfl
  simp only [b__law_asked, bind_ok, bind_ex, bind_no, toS_ok, toS_ex, toS_no, sb_nx, sb_rt, sb_bk, sb_ct, sb_ex, sb_no, tu_nx, tu_ct, tu_bk, tu_rt, tu_ex, on_nx, on_ex, dV_, dC_, dBin_, dUn_, dNilA_, dConsA_, dTup_, dLst_, asB_bl, dB_, dAndB_, dOrB_, dNotB_, dAnd_, dOr_, dNot_, dIf_, dCallB_, dCall_, dMeth_, dFld_, dSetF_, dMake_, dNoPart_, asI_int, dPart_, dSlice_, dDic_, dChain_, dSeq_, dNil_, dPass_, dBreak_, dCont_, dExpr_, dRet_, dRetN_, dSet_, dIfS_, gN_, gsN_, gsC_, gT_, gSub_, dAsg_, dRaise_, dRaiseA_, dFor_, wSeq_, wEn_, wRng_, dLc_, dYes_, wipeT_nil, wipeT_cons, endF_nx, endF_rt, endF_ex, chk_str, chk_tup, items_str, items_tup, items_ob, seq_tup, len_tup, add_int, sub_int, lt_int', le_int', gt_int', ge_int', lt_str', gt_str', eq_int', eq_str', ne_int', ne_str', neg_int, int_int, int_bl, isnot_non, is_non, dFn1, dFn2, dFn3, dFn4, dFn5, List.replicate_succ, List.replicate_zero, List.getElem?_cons_zero, List.getElem?_cons_succ, List.set_cons_zero, List.set_cons_succ, List.length_cons, List.length_nil, if_true_, if_false_, if_T_, if_F_, Bool.not_true, Bool.not_false, Nat.reduceAdd, Nat.reduceSub, Nat.reduceLeDiff, Int.reduceSub, Int.reduceAdd, ge_iff_le, List.map_cons, List.map_nil, List.cons_append, List.nil_append, dTry_, d00, decide_true, isIns_b (n := "put") B.b rfl, e, tryR_ex, hG]
theorem asked1_ok {at_ lot : T} {M' : Mem} (B : BenchAt M b hp m rows pasts) (e : d_Bench_strike [.ob b, at_] M = .ok .non M') (hl : M'.length = M.length) : d__law_asked [.ob b, .int 1, at_, lot] M = .ok (.str "done") M' := by
  refine gcF_len ?_ hl
  simp only [b__law_asked, bind_ok, bind_ex, bind_no, toS_ok, toS_ex, toS_no, sb_nx, sb_rt, sb_bk, sb_ct, sb_ex, sb_no, tu_nx, tu_ct, tu_bk, tu_rt, tu_ex, on_nx, on_ex, dV_, dC_, dBin_, dUn_, dNilA_, dConsA_, dTup_, dLst_, asB_bl, dB_, dAndB_, dOrB_, dNotB_, dAnd_, dOr_, dNot_, dIf_, dCallB_, dCall_, dMeth_, dFld_, dSetF_, dMake_, dNoPart_, asI_int, dPart_, dSlice_, dDic_, dChain_, dSeq_, dNil_, dPass_, dBreak_, dCont_, dExpr_, dRet_, dRetN_, dSet_, dIfS_, gN_, gsN_, gsC_, gT_, gSub_, dAsg_, dRaise_, dRaiseA_, dFor_, wSeq_, wEn_, wRng_, dLc_, dYes_, wipeT_nil, wipeT_cons, endF_nx, endF_rt, endF_ex, chk_str, chk_tup, items_str, items_tup, items_ob, seq_tup, len_tup, add_int, sub_int, lt_int', le_int', gt_int', ge_int', lt_str', gt_str', eq_int', eq_str', ne_int', ne_str', neg_int, int_int, int_bl, isnot_non, is_non, dFn1, dFn2, dFn3, dFn4, dFn5, List.replicate_succ, List.replicate_zero, List.getElem?_cons_zero, List.getElem?_cons_succ, List.set_cons_zero, List.set_cons_succ, List.length_cons, List.length_nil, if_true_, if_false_, if_T_, if_F_, Bool.not_true, Bool.not_false, Nat.reduceAdd, Nat.reduceSub, Nat.reduceLeDiff, Int.reduceSub, Int.reduceAdd, ge_iff_le, List.map_cons, List.map_nil, List.cons_append, List.nil_append, dTry_, d10, d11, decide_true, isIns_b (n := "strike") B.b rfl, e, tryR_nx]
theorem asked1_ex {at_ lot : T} {c told : PySem.Str} (B : BenchAt M b hp m rows pasts) (e : d_Bench_strike [.ob b, at_] M = .ex (c, []) M) (hc : ∀ w0 w1 w2 w3 w4, ∃ G x, catchD [⟨[("NoMarks", false), ("NoLot", false), ("NoSeat", false), ("NoPlace", false), ("NothingDone", false), ("BadSeats", false), ("TooMany", true)], some 5, fun er => (dSet 4 (dBin ixT (dLst (dConsA (dC (.str "other")) (dConsA (dC (.str "many")) dNilA))) (dCallB intT (dConsA (dBin eqT (dEf er ["TooMany"] "most") (dC (.int 40))) dNilA))))⟩, ⟨[("NoMarks", true), ("NoLot", true), ("NoSeat", true), ("NoPlace", true), ("NothingDone", true), ("BadSeats", true), ("TooMany", true)], some 5, fun er => (dSeq (dSet 6 (dLst (dConsA (dIsE er [("NoMarks", false), ("NoLot", false), ("NoSeat", false), ("NoPlace", true), ("NothingDone", false)]) (dConsA (dIsE er [("NoMarks", false), ("NoLot", true), ("NoSeat", false), ("NoPlace", false), ("NothingDone", false)]) (dConsA (dIsE er [("NoMarks", false), ("NoLot", false), ("NoSeat", true), ("NoPlace", false), ("NothingDone", false)]) (dConsA (dIsE er [("NoMarks", false), ("NoLot", false), ("NoSeat", false), ("NoPlace", false), ("NothingDone", true)]) dNilA))))))
 (dSeq (dExpr (dMeth isL appendT (dV 6) (dConsA (dIsE er [("NoMarks", true), ("NoLot", false), ("NoSeat", false), ("NoPlace", false), ("NothingDone", false)]) dNilA)))
 (dSeq (dSet 4 (dC (.str "odd")))
 (dIfS (dB (dBin eqT (dMeth isL countT (dV 6) (dConsA (dC (.bl true)) dNilA)) (dC (.int 1)))) (dSet 4 (dBin ixT (dLst (dConsA (dC (.str "place")) (dConsA (dC (.str "lot")) (dConsA (dC (.str "seat")) (dConsA (dC (.str "nothing")) (dConsA (dC (.str "marks")) dNilA)))))) (dMeth isL indexT (dV 6) (dConsA (dC (.bl true)) dNilA))))
 dNil))))⟩] (c, []) [w0, w1, w2, w3, w4, none, none] M = .nx [w0, w1, w2, w3, some (.str told), none, x] (M ++ G)) : d__law_asked [.ob b, .int 1, at_, lot] M = .ok (.str told) M := by
  obtain ⟨G, x, hG⟩ := hc (some (.ob b)) (some (.int 1)) (some at_) (some lot) (some (.str "none"))
  refine gcF_app (G := G) ?_ rfl
  simp only [b__law_asked, bind_ok, bind_ex, bind_no, toS_ok, toS_ex, toS_no, sb_nx, sb_rt, sb_bk, sb_ct, sb_ex, sb_no, tu_nx, tu_ct, tu_bk, tu_rt, tu_ex, on_nx, on_ex, dV_, dC_, dBin_, dUn_, dNilA_, dConsA_, dTup_, dLst_, asB_bl, dB_, dAndB_, dOrB_, dNotB_, dAnd_, dOr_, dNot_, dIf_, dCallB_, dCall_, dMeth_, dFld_, dSetF_, dMake_, dNoPart_, asI_int, dPart_, dSlice_, dDic_, dChain_, dSeq_, dNil_, dPass_, dBreak_, dCont_, dExpr_, dRet_, dRetN_, dSet_, dIfS_, gN_, gsN_, gsC_, gT_, gSub_, dAsg_, dRaise_, dRaiseA_, dFor_, wSeq_, wEn_, wRng_, dLc_, dYes_, wipeT_nil, wipeT_cons, endF_nx, endF_rt, endF_ex, chk_str, chk_tup, items_str, items_tup, items_ob, seq_tup, len_tup, add_int, sub_int, lt_int', le_int', gt_int', ge_int', lt_str', gt_str', eq_int', eq_str', ne_int', ne_str', neg_int, int_int, int_bl, isnot_non, is_non, dFn1, dFn2, dFn3, dFn4, dFn5, List.replicate_succ, List.replicate_zero, List.getElem?_cons_zero, List.getElem?_cons_succ, List.set_cons_zero, List.set_cons_succ, List.length_cons, List.length_nil, if_true_, if_false_, if_T_, if_F_, Bool.not_true, Bool.not_false, Nat.reduceAdd, Nat.reduceSub, Nat.reduceLeDiff, Int.reduceSub, Int.reduceAdd, ge_iff_le, List.map_cons, List.map_nil, List.cons_append, List.nil_append, dTry_, d10, d11, decide_true, isIns_b (n := "strike") B.b rfl, e, tryR_ex, hG]
theorem asked2_ok {at_ lot : T} {M' : Mem} (B : BenchAt M b hp m rows pasts) (e : d_Bench_shift [.ob b, at_] M = .ok .non M') (hl : M'.length = M.length) : d__law_asked [.ob b, .int 2, at_, lot] M = .ok (.str "done") M' := by
  refine gcF_len ?_ hl
  simp only [b__law_asked, bind_ok, bind_ex, bind_no, toS_ok, toS_ex, toS_no, sb_nx, sb_rt, sb_bk, sb_ct, sb_ex, sb_no, tu_nx, tu_ct, tu_bk, tu_rt, tu_ex, on_nx, on_ex, dV_, dC_, dBin_, dUn_, dNilA_, dConsA_, dTup_, dLst_, asB_bl, dB_, dAndB_, dOrB_, dNotB_, dAnd_, dOr_, dNot_, dIf_, dCallB_, dCall_, dMeth_, dFld_, dSetF_, dMake_, dNoPart_, asI_int, dPart_, dSlice_, dDic_, dChain_, dSeq_, dNil_, dPass_, dBreak_, dCont_, dExpr_, dRet_, dRetN_, dSet_, dIfS_, gN_, gsN_, gsC_, gT_, gSub_, dAsg_, dRaise_, dRaiseA_, dFor_, wSeq_, wEn_, wRng_, dLc_, dYes_, wipeT_nil, wipeT_cons, endF_nx, endF_rt, endF_ex, chk_str, chk_tup, items_str, items_tup, items_ob, seq_tup, len_tup, add_int, sub_int, lt_int', le_int', gt_int', ge_int', lt_str', gt_str', eq_int', eq_str', ne_int', ne_str', neg_int, int_int, int_bl, isnot_non, is_non, dFn1, dFn2, dFn3, dFn4, dFn5, List.replicate_succ, List.replicate_zero, List.getElem?_cons_zero, List.getElem?_cons_succ, List.set_cons_zero, List.set_cons_succ, List.length_cons, List.length_nil, if_true_, if_false_, if_T_, if_F_, Bool.not_true, Bool.not_false, Nat.reduceAdd, Nat.reduceSub, Nat.reduceLeDiff, Int.reduceSub, Int.reduceAdd, ge_iff_le, List.map_cons, List.map_nil, List.cons_append, List.nil_append, dTry_, d20, d21, d22, decide_true, isIns_b (n := "shift") B.b rfl, e, tryR_nx]
theorem asked2_ex {at_ lot : T} {c told : PySem.Str} (B : BenchAt M b hp m rows pasts) (e : d_Bench_shift [.ob b, at_] M = .ex (c, []) M) (hc : ∀ w0 w1 w2 w3 w4, ∃ G x, catchD [⟨[("NoMarks", false), ("NoLot", false), ("NoSeat", false), ("NoPlace", false), ("NothingDone", false), ("BadSeats", false), ("TooMany", true)], some 5, fun er => (dSet 4 (dBin ixT (dLst (dConsA (dC (.str "other")) (dConsA (dC (.str "many")) dNilA))) (dCallB intT (dConsA (dBin eqT (dEf er ["TooMany"] "most") (dC (.int 40))) dNilA))))⟩, ⟨[("NoMarks", true), ("NoLot", true), ("NoSeat", true), ("NoPlace", true), ("NothingDone", true), ("BadSeats", true), ("TooMany", true)], some 5, fun er => (dSeq (dSet 6 (dLst (dConsA (dIsE er [("NoMarks", false), ("NoLot", false), ("NoSeat", false), ("NoPlace", true), ("NothingDone", false)]) (dConsA (dIsE er [("NoMarks", false), ("NoLot", true), ("NoSeat", false), ("NoPlace", false), ("NothingDone", false)]) (dConsA (dIsE er [("NoMarks", false), ("NoLot", false), ("NoSeat", true), ("NoPlace", false), ("NothingDone", false)]) (dConsA (dIsE er [("NoMarks", false), ("NoLot", false), ("NoSeat", false), ("NoPlace", false), ("NothingDone", true)]) dNilA))))))
 (dSeq (dExpr (dMeth isL appendT (dV 6) (dConsA (dIsE er [("NoMarks", true), ("NoLot", false), ("NoSeat", false), ("NoPlace", false), ("NothingDone", false)]) dNilA)))
 (dSeq (dSet 4 (dC (.str "odd")))
 (dIfS (dB (dBin eqT (dMeth isL countT (dV 6) (dConsA (dC (.bl true)) dNilA)) (dC (.int 1)))) (dSet 4 (dBin ixT (dLst (dConsA (dC (.str "place")) (dConsA (dC (.str "lot")) (dConsA (dC (.str "seat")) (dConsA (dC (.str "nothing")) (dConsA (dC (.str "marks")) dNilA)))))) (dMeth isL indexT (dV 6) (dConsA (dC (.bl true)) dNilA))))
 dNil))))⟩] (c, []) [w0, w1, w2, w3, w4, none, none] M = .nx [w0, w1, w2, w3, some (.str told), none, x] (M ++ G)) : d__law_asked [.ob b, .int 2, at_, lot] M = .ok (.str told) M := by
  obtain ⟨G, x, hG⟩ := hc (some (.ob b)) (some (.int 2)) (some at_) (some lot) (some (.str "none"))
  refine gcF_app (G := G) ?_ rfl
  simp only [b__law_asked, bind_ok, bind_ex, bind_no, toS_ok, toS_ex, toS_no, sb_nx, sb_rt, sb_bk, sb_ct, sb_ex, sb_no, tu_nx, tu_ct, tu_bk, tu_rt, tu_ex, on_nx, on_ex, dV_, dC_, dBin_, dUn_, dNilA_, dConsA_, dTup_, dLst_, asB_bl, dB_, dAndB_, dOrB_, dNotB_, dAnd_, dOr_, dNot_, dIf_, dCallB_, dCall_, dMeth_, dFld_, dSetF_, dMake_, dNoPart_, asI_int, dPart_, dSlice_, dDic_, dChain_, dSeq_, dNil_, dPass_, dBreak_, dCont_, dExpr_, dRet_, dRetN_, dSet_, dIfS_, gN_, gsN_, gsC_, gT_, gSub_, dAsg_, dRaise_, dRaiseA_, dFor_, wSeq_, wEn_, wRng_, dLc_, dYes_, wipeT_nil, wipeT_cons, endF_nx, endF_rt, endF_ex, chk_str, chk_tup, items_str, items_tup, items_ob, seq_tup, len_tup, add_int, sub_int, lt_int', le_int', gt_int', ge_int', lt_str', gt_str', eq_int', eq_str', ne_int', ne_str', neg_int, int_int, int_bl, isnot_non, is_non, dFn1, dFn2, dFn3, dFn4, dFn5, List.replicate_succ, List.replicate_zero, List.getElem?_cons_zero, List.getElem?_cons_succ, List.set_cons_zero, List.set_cons_succ, List.length_cons, List.length_nil, if_true_, if_false_, if_T_, if_F_, Bool.not_true, Bool.not_false, Nat.reduceAdd, Nat.reduceSub, Nat.reduceLeDiff, Int.reduceSub, Int.reduceAdd, ge_iff_le, List.map_cons, List.map_nil, List.cons_append, List.nil_append, dTry_, d20, d21, d22, decide_true, isIns_b (n := "shift") B.b rfl, e, tryR_ex, hG]
theorem asked3_ok {at_ lot : T} {M' : Mem} (B : BenchAt M b hp m rows pasts) (e : d_Bench_back [.ob b] M = .ok .non M') (hl : M'.length = M.length) : d__law_asked [.ob b, .int 3, at_, lot] M = .ok (.str "done") M' := by
  refine gcF_len ?_ hl
  simp only [b__law_asked, bind_ok, bind_ex, bind_no, toS_ok, toS_ex, toS_no, sb_nx, sb_rt, sb_bk, sb_ct, sb_ex, sb_no, tu_nx, tu_ct, tu_bk, tu_rt, tu_ex, on_nx, on_ex, dV_, dC_, dBin_, dUn_, dNilA_, dConsA_, dTup_, dLst_, asB_bl, dB_, dAndB_, dOrB_, dNotB_, dAnd_, dOr_, dNot_, dIf_, dCallB_, dCall_, dMeth_, dFld_, dSetF_, dMake_, dNoPart_, asI_int, dPart_, dSlice_, dDic_, dChain_, dSeq_, dNil_, dPass_, dBreak_, dCont_, dExpr_, dRet_, dRetN_, dSet_, dIfS_, gN_, gsN_, gsC_, gT_, gSub_, dAsg_, dRaise_, dRaiseA_, dFor_, wSeq_, wEn_, wRng_, dLc_, dYes_, wipeT_nil, wipeT_cons, endF_nx, endF_rt, endF_ex, chk_str, chk_tup, items_str, items_tup, items_ob, seq_tup, len_tup, add_int, sub_int, lt_int', le_int', gt_int', ge_int', lt_str', gt_str', eq_int', eq_str', ne_int', ne_str', neg_int, int_int, int_bl, isnot_non, is_non, dFn1, dFn2, dFn3, dFn4, dFn5, List.replicate_succ, List.replicate_zero, List.getElem?_cons_zero, List.getElem?_cons_succ, List.set_cons_zero, List.set_cons_succ, List.length_cons, List.length_nil, if_true_, if_false_, if_T_, if_F_, Bool.not_true, Bool.not_false, Nat.reduceAdd, Nat.reduceSub, Nat.reduceLeDiff, Int.reduceSub, Int.reduceAdd, ge_iff_le, List.map_cons, List.map_nil, List.cons_append, List.nil_append, dTry_, d30, d31, d32, d33, decide_true, isIns_b (n := "back") B.b rfl, e, tryR_nx]
theorem asked3_ex {at_ lot : T} {c told : PySem.Str} (B : BenchAt M b hp m rows pasts) (e : d_Bench_back [.ob b] M = .ex (c, []) M) (hc : ∀ w0 w1 w2 w3 w4, ∃ G x, catchD [⟨[("NoMarks", false), ("NoLot", false), ("NoSeat", false), ("NoPlace", false), ("NothingDone", false), ("BadSeats", false), ("TooMany", true)], some 5, fun er => (dSet 4 (dBin ixT (dLst (dConsA (dC (.str "other")) (dConsA (dC (.str "many")) dNilA))) (dCallB intT (dConsA (dBin eqT (dEf er ["TooMany"] "most") (dC (.int 40))) dNilA))))⟩, ⟨[("NoMarks", true), ("NoLot", true), ("NoSeat", true), ("NoPlace", true), ("NothingDone", true), ("BadSeats", true), ("TooMany", true)], some 5, fun er => (dSeq (dSet 6 (dLst (dConsA (dIsE er [("NoMarks", false), ("NoLot", false), ("NoSeat", false), ("NoPlace", true), ("NothingDone", false)]) (dConsA (dIsE er [("NoMarks", false), ("NoLot", true), ("NoSeat", false), ("NoPlace", false), ("NothingDone", false)]) (dConsA (dIsE er [("NoMarks", false), ("NoLot", false), ("NoSeat", true), ("NoPlace", false), ("NothingDone", false)]) (dConsA (dIsE er [("NoMarks", false), ("NoLot", false), ("NoSeat", false), ("NoPlace", false), ("NothingDone", true)]) dNilA))))))
 (dSeq (dExpr (dMeth isL appendT (dV 6) (dConsA (dIsE er [("NoMarks", true), ("NoLot", false), ("NoSeat", false), ("NoPlace", false), ("NothingDone", false)]) dNilA)))
 (dSeq (dSet 4 (dC (.str "odd")))
 (dIfS (dB (dBin eqT (dMeth isL countT (dV 6) (dConsA (dC (.bl true)) dNilA)) (dC (.int 1)))) (dSet 4 (dBin ixT (dLst (dConsA (dC (.str "place")) (dConsA (dC (.str "lot")) (dConsA (dC (.str "seat")) (dConsA (dC (.str "nothing")) (dConsA (dC (.str "marks")) dNilA)))))) (dMeth isL indexT (dV 6) (dConsA (dC (.bl true)) dNilA))))
 dNil))))⟩] (c, []) [w0, w1, w2, w3, w4, none, none] M = .nx [w0, w1, w2, w3, some (.str told), none, x] (M ++ G)) : d__law_asked [.ob b, .int 3, at_, lot] M = .ok (.str told) M := by
  obtain ⟨G, x, hG⟩ := hc (some (.ob b)) (some (.int 3)) (some at_) (some lot) (some (.str "none"))
  refine gcF_app (G := G) ?_ rfl
  simp only [b__law_asked, bind_ok, bind_ex, bind_no, toS_ok, toS_ex, toS_no, sb_nx, sb_rt, sb_bk, sb_ct, sb_ex, sb_no, tu_nx, tu_ct, tu_bk, tu_rt, tu_ex, on_nx, on_ex, dV_, dC_, dBin_, dUn_, dNilA_, dConsA_, dTup_, dLst_, asB_bl, dB_, dAndB_, dOrB_, dNotB_, dAnd_, dOr_, dNot_, dIf_, dCallB_, dCall_, dMeth_, dFld_, dSetF_, dMake_, dNoPart_, asI_int, dPart_, dSlice_, dDic_, dChain_, dSeq_, dNil_, dPass_, dBreak_, dCont_, dExpr_, dRet_, dRetN_, dSet_, dIfS_, gN_, gsN_, gsC_, gT_, gSub_, dAsg_, dRaise_, dRaiseA_, dFor_, wSeq_, wEn_, wRng_, dLc_, dYes_, wipeT_nil, wipeT_cons, endF_nx, endF_rt, endF_ex, chk_str, chk_tup, items_str, items_tup, items_ob, seq_tup, len_tup, add_int, sub_int, lt_int', le_int', gt_int', ge_int', lt_str', gt_str', eq_int', eq_str', ne_int', ne_str', neg_int, int_int, int_bl, isnot_non, is_non, dFn1, dFn2, dFn3, dFn4, dFn5, List.replicate_succ, List.replicate_zero, List.getElem?_cons_zero, List.getElem?_cons_succ, List.set_cons_zero, List.set_cons_succ, List.length_cons, List.length_nil, if_true_, if_false_, if_T_, if_F_, Bool.not_true, Bool.not_false, Nat.reduceAdd, Nat.reduceSub, Nat.reduceLeDiff, Int.reduceSub, Int.reduceAdd, ge_iff_le, List.map_cons, List.map_nil, List.cons_append, List.nil_append, dTry_, d30, d31, d32, d33, decide_true, isIns_b (n := "back") B.b rfl, e, tryR_ex, hG]
theorem asked0_many {at_ lot : T} (B : BenchAt M b hp m rows pasts) (e : d_Bench_put [.ob b, at_, lot] M = .ex ("TooMany", [("most", .int 40)]) M) : d__law_asked [.ob b, .int 0, at_, lot] M = .ok (.str "many") M := by
  obtain ⟨G, hG⟩ := catch_many (M := M) (w0 := some (.ob b)) (w1 := some (.int 0)) (w2 := some at_) (w3 := some lot) (w4 := some (.str "none"))
  refine gcF_app (G := G) ?_ rfl
  simp only [b__law_asked, bind_ok, bind_ex, bind_no, toS_ok, toS_ex, toS_no, sb_nx, sb_rt, sb_bk, sb_ct, sb_ex, sb_no, tu_nx, tu_ct, tu_bk, tu_rt, tu_ex, on_nx, on_ex, dV_, dC_, dBin_, dUn_, dNilA_, dConsA_, dTup_, dLst_, asB_bl, dB_, dAndB_, dOrB_, dNotB_, dAnd_, dOr_, dNot_, dIf_, dCallB_, dCall_, dMeth_, dFld_, dSetF_, dMake_, dNoPart_, asI_int, dPart_, dSlice_, dDic_, dChain_, dSeq_, dNil_, dPass_, dBreak_, dCont_, dExpr_, dRet_, dRetN_, dSet_, dIfS_, gN_, gsN_, gsC_, gT_, gSub_, dAsg_, dRaise_, dRaiseA_, dFor_, wSeq_, wEn_, wRng_, dLc_, dYes_, wipeT_nil, wipeT_cons, endF_nx, endF_rt, endF_ex, chk_str, chk_tup, items_str, items_tup, items_ob, seq_tup, len_tup, add_int, sub_int, lt_int', le_int', gt_int', ge_int', lt_str', gt_str', eq_int', eq_str', ne_int', ne_str', neg_int, int_int, int_bl, isnot_non, is_non, dFn1, dFn2, dFn3, dFn4, dFn5, List.replicate_succ, List.replicate_zero, List.getElem?_cons_zero, List.getElem?_cons_succ, List.set_cons_zero, List.set_cons_succ, List.length_cons, List.length_nil, if_true_, if_false_, if_T_, if_F_, Bool.not_true, Bool.not_false, Nat.reduceAdd, Nat.reduceSub, Nat.reduceLeDiff, Int.reduceSub, Int.reduceAdd, ge_iff_le, List.map_cons, List.map_nil, List.cons_append, List.nil_append, dTry_, d00, decide_true, isIns_b (n := "put") B.b rfl, e, tryR_ex, hG]
end
end HB

set_option maxHeartbeats 1000000
namespace HB
open PySem DN
section
variable {M : Mem} {b hp : Nat} {m : PySem.Str} {rows pasts : List T} {w0 w1 w2 w3 w4 : Option T}
/-! ### what a bench tells, what is due -/
theorem asked_put {at_ lot : T} (B : BenchAt M b hp m rows pasts) (h1 : Thing cs at_ M) (h2 : Things cs lot M) : d__law_asked [.ob b, .int 0, at_, lot] M =
    if isWithin 0 rows.length at_ = true then (if isLot m lot = true then (if rows.length = 40 then .ok (.str "many") M else
      .ok (.str "done") (done M b hp m rows pasts (match at_ with | .int i => rows.take i.toNat ++ [lot] ++ rows.drop i.toNat | _ => []))) else .ok (.str "lot") M) else .ok (.str "place") M := by
  have e := P_Bench_put B h1 h2
  by_cases q1 : isWithin 0 rows.length at_ = true
  · rw [if_pos q1] at e ⊢
    by_cases q2 : isLot m lot = true
    · rw [if_pos q2] at e ⊢
      by_cases q3 : rows.length = 40
      · rw [if_pos q3] at e ⊢
        exact asked0_many B e
      · rw [if_neg q3] at e ⊢
        exact asked0_ok B e (by simp [done])
    · rw [if_neg q2] at e ⊢
      exact asked0_ex B e fun _ _ _ _ _ => catch_NoLot
  · rw [if_neg q1] at e ⊢
    exact asked0_ex B e fun _ _ _ _ _ => catch_NoPlace
theorem asked_strike {at_ lot : T} (B : BenchAt M b hp m rows pasts) (h1 : Thing cs at_ M) : ∃ r : List T, r.length ≤ 41 ∧ d__law_asked [.ob b, .int 1, at_, lot] M = if isWithin 0 ((rows.length : Int) - 1) at_ = true then .ok (.str "done") (done M b hp m rows pasts r) else .ok (.str "seat") M := by
  obtain ⟨r, hr, e⟩ := P_Bench_strike B h1
  refine ⟨r, hr, ?_⟩
  by_cases q1 : isWithin 0 ((rows.length : Int) - 1) at_ = true
  · rw [if_pos q1] at e ⊢
    exact asked1_ok B e (by simp [done])
  · rw [if_neg q1] at e ⊢
    exact asked1_ex B e fun _ _ _ _ _ => catch_NoSeat
theorem asked_shift {at_ lot : T} (B : BenchAt M b hp m rows pasts) (h1 : Thing cs at_ M) : ∃ r : List T, r.length ≤ 41 ∧ d__law_asked [.ob b, .int 2, at_, lot] M = if isWithin 0 ((rows.length : Int) - 2) at_ = true then .ok (.str "done") (done M b hp m rows pasts r) else .ok (.str "seat") M := by
  obtain ⟨r, hr, e⟩ := P_Bench_shift B h1
  refine ⟨r, hr, ?_⟩
  by_cases q1 : isWithin 0 ((rows.length : Int) - 2) at_ = true
  · rw [if_pos q1] at e ⊢
    exact asked2_ok B e (by simp [done])
  · rw [if_neg q1] at e ⊢
    exact asked2_ex B e fun _ _ _ _ _ => catch_NoSeat
theorem asked_back0 (B : BenchAt M b hp m rows []) : d__law_asked [.ob b, .int 3, .non, .non] M = .ok (.str "nothing") M := asked3_ex B (P_Bench_back0 B) fun _ _ _ _ _ => catch_NothingDone
end
end HB

set_option maxHeartbeats 1000000
namespace HB
open PySem DN
section
variable {M : Mem} {b hp : Nat} {m : PySem.Str} {rows pasts : List T} {w0 w1 w2 w3 w4 : Option T}
/-- Bench(..) -/
theorem P_Bench_init {t : T} (h : ∀ M, Thing cs t M → True) (hm : marksB t = true) (h1 : Thing cs t (M ++ [.ins "Bench" []])) : d_Bench___init__ [.ob M.length, t] (M ++ [.ins "Bench" []]) = .ok .non (M ++ [.ins "Bench" [("marks", t), ("rows", .tup []), ("past", .ob (M.length + 1))], .lst []]) := by
  have e : dFn 2 2 b_Bench___init__ [.ob M.length, t] (M ++ [.ins "Bench" []]) = .ok .non (M ++ [.ins "Bench" [("marks", t), ("rows", .tup []), ("past", .ob (M.length + 1))], .lst []]) := by
    have hs : setFldT ["Bench"] "past" (.ob (M.length + 1)) (.ob M.length) (M ++ [.ins "Bench" (putT "rows" (.tup []) (putT "marks" t [])), .lst []]) = .ok .non (M ++ [.ins "Bench" [("marks", t), ("rows", .tup []), ("past", .ob (M.length + 1))], .lst []]) := by
      unfold setFldT
      have : (M ++ [C.ins "Bench" (putT "rows" (.tup []) (putT "marks" t [])), .lst []])[M.length]? = some (.ins "Bench" (putT "rows" (.tup []) (putT "marks" t []))) := by simp
      simp only [this]
      rw [if_pos ⟨by decide, show 2 < 1000 by omega⟩]
      simp
      rfl
    have hl : (M ++ [C.ins "Bench" (putT "rows" (.tup []) (putT "marks" t []))]).length = M.length + 1 := by simp
    simp only [b_Bench___init__, bind_ok, bind_ex, bind_no, toS_ok, toS_ex, toS_no, sb_nx, sb_rt, sb_bk, sb_ct, sb_ex, sb_no, tu_nx, tu_ct, tu_bk, tu_rt, tu_ex, on_nx, on_ex, dV_, dC_, dBin_, dUn_, dNilA_, dConsA_, dTup_, dLst_, asB_bl, dB_, dAndB_, dOrB_, dNotB_, dAnd_, dOr_, dNot_, dIf_, dCallB_, dCall_, dMeth_, dFld_, dSetF_, dMake_, dNoPart_, asI_int, dPart_, dSlice_, dDic_, dChain_, dSeq_, dNil_, dPass_, dBreak_, dCont_, dExpr_, dRet_, dRetN_, dSet_, dIfS_, gN_, gsN_, gsC_, gT_, gSub_, dAsg_, dRaise_, dRaiseA_, dFor_, wSeq_, wEn_, wRng_, dLc_, dYes_, wipeT_nil, wipeT_cons, endF_nx, endF_rt, endF_ex, chk_str, chk_tup, items_str, items_tup, items_ob, seq_tup, len_tup, add_int, sub_int, lt_int', le_int', gt_int', ge_int', lt_str', gt_str', eq_int', eq_str', ne_int', ne_str', neg_int, int_int, int_bl, isnot_non, is_non, dFn1, dFn2, dFn3, dFn4, dFn5, List.replicate_succ, List.replicate_zero, List.getElem?_cons_zero, List.getElem?_cons_succ, List.set_cons_zero, List.set_cons_succ, List.length_cons, List.length_nil, if_true_, if_false_, if_T_, if_F_, Bool.not_true, Bool.not_false, Nat.reduceAdd, Nat.reduceSub, Nat.reduceLeDiff, Int.reduceSub, Int.reduceAdd, ge_iff_le, List.map_cons, List.map_nil, List.cons_append, List.nil_append, P_check_marks h1, if_pos hm, if_pos (le_line' (n := 0) (by decide)), hl, List.append_assoc,
      sf_new (M := M) (cs := ["Seats", "Bench"]) (c := "Bench") (fs := []) (by decide) (by decide), sf_new (M := M) (cs := ["Bench"]) (c := "Bench") (f := "rows") (fs := putT "marks" t []) (by decide) (show 1 < 1000 by omega)]
    rw [hs]
    rfl
  unfold d_Bench___init__ gcF
  rw [e]
  unfold gcR
  dsimp only
  rw [if_neg]
  intro q
  rw [Bool.and_eq_true] at q
  have := gcOk_at (i := M.length) (c' := .ins "Bench" [("marks", t), ("rows", .tup []), ("past", .ob (M.length + 1))]) q.1 (by simp) (by simp)
  rcases this with z | z
  · rw [List.getElem?_concat_length] at z
    cases z
  · simp [clC, clT] at z
theorem P_Bench_initX {t : T} (hm : marksB t = false) (h1 : Thing cs t M) : d_Bench___init__ [.ob M.length, t] (M ++ [.ins "Bench" []]) = .ex ("NoMarks", []) (M ++ [.ins "Bench" []]) := by
  refine gcF_exsame ?_
  have hm' : ¬ (marksB t = true) := by rw [hm]; simp
  simp only [b_Bench___init__, bind_ok, bind_ex, bind_no, toS_ok, toS_ex, toS_no, sb_nx, sb_rt, sb_bk, sb_ct, sb_ex, sb_no, tu_nx, tu_ct, tu_bk, tu_rt, tu_ex, on_nx, on_ex, dV_, dC_, dBin_, dUn_, dNilA_, dConsA_, dTup_, dLst_, asB_bl, dB_, dAndB_, dOrB_, dNotB_, dAnd_, dOr_, dNot_, dIf_, dCallB_, dCall_, dMeth_, dFld_, dSetF_, dMake_, dNoPart_, asI_int, dPart_, dSlice_, dDic_, dChain_, dSeq_, dNil_, dPass_, dBreak_, dCont_, dExpr_, dRet_, dRetN_, dSet_, dIfS_, gN_, gsN_, gsC_, gT_, gSub_, dAsg_, dRaise_, dRaiseA_, dFor_, wSeq_, wEn_, wRng_, dLc_, dYes_, wipeT_nil, wipeT_cons, endF_nx, endF_rt, endF_ex, chk_str, chk_tup, items_str, items_tup, items_ob, seq_tup, len_tup, add_int, sub_int, lt_int', le_int', gt_int', ge_int', lt_str', gt_str', eq_int', eq_str', ne_int', ne_str', neg_int, int_int, int_bl, isnot_non, is_non, dFn1, dFn2, dFn3, dFn4, dFn5, List.replicate_succ, List.replicate_zero, List.getElem?_cons_zero, List.getElem?_cons_succ, List.set_cons_zero, List.set_cons_succ, List.length_cons, List.length_nil, if_true_, if_false_, if_T_, if_F_, Bool.not_true, Bool.not_false, Nat.reduceAdd, Nat.reduceSub, Nat.reduceLeDiff, Int.reduceSub, Int.reduceAdd, ge_iff_le, List.map_cons, List.map_nil, List.cons_append, List.nil_append, P_check_marks h1.app, if_neg hm']
theorem asked_make {t : T} {w : T} (h1 : Thing cs t M) : d__law_asked [w, .int 4, t, .non] M = .ok (.str (if marksB t = true then "done" else "marks")) M := by
  cases hm : marksB t with
  | true =>
    rw [if_pos rfl]
    refine gcF_app (G := [.ins "Bench" [("marks", t), ("rows", .tup []), ("past", .ob (M.length + 1))], .lst []]) ?_ rfl
    simp only [b__law_asked, bind_ok, bind_ex, bind_no, toS_ok, toS_ex, toS_no, sb_nx, sb_rt, sb_bk, sb_ct, sb_ex, sb_no, tu_nx, tu_ct, tu_bk, tu_rt, tu_ex, on_nx, on_ex, dV_, dC_, dBin_, dUn_, dNilA_, dConsA_, dTup_, dLst_, asB_bl, dB_, dAndB_, dOrB_, dNotB_, dAnd_, dOr_, dNot_, dIf_, dCallB_, dCall_, dMeth_, dFld_, dSetF_, dMake_, dNoPart_, asI_int, dPart_, dSlice_, dDic_, dChain_, dSeq_, dNil_, dPass_, dBreak_, dCont_, dExpr_, dRet_, dRetN_, dSet_, dIfS_, gN_, gsN_, gsC_, gT_, gSub_, dAsg_, dRaise_, dRaiseA_, dFor_, wSeq_, wEn_, wRng_, dLc_, dYes_, wipeT_nil, wipeT_cons, endF_nx, endF_rt, endF_ex, chk_str, chk_tup, items_str, items_tup, items_ob, seq_tup, len_tup, add_int, sub_int, lt_int', le_int', gt_int', ge_int', lt_str', gt_str', eq_int', eq_str', ne_int', ne_str', neg_int, int_int, int_bl, isnot_non, is_non, dFn1, dFn2, dFn3, dFn4, dFn5, List.replicate_succ, List.replicate_zero, List.getElem?_cons_zero, List.getElem?_cons_succ, List.set_cons_zero, List.set_cons_succ, List.length_cons, List.length_nil, if_true_, if_false_, if_T_, if_F_, Bool.not_true, Bool.not_false, Nat.reduceAdd, Nat.reduceSub, Nat.reduceLeDiff, Int.reduceSub, Int.reduceAdd, ge_iff_le, List.map_cons, List.map_nil, List.cons_append, List.nil_append, dTry_, d40, d41, d42, d43, P_Bench_init (fun _ _ => trivial) hm h1.app, if_T_, tryR_nx]
  | false =>
    rw [if_neg (by simp)]
    obtain ⟨G, x, hG⟩ := catch_NoMarks (M := M ++ [.ins "Bench" []]) (w0 := some w) (w1 := some (.int 4)) (w2 := some t) (w3 := some .non) (w4 := some (.str "none"))
    refine gcF_app (G := [.ins "Bench" []] ++ G) ?_ rfl
    simp only [b__law_asked, bind_ok, bind_ex, bind_no, toS_ok, toS_ex, toS_no, sb_nx, sb_rt, sb_bk, sb_ct, sb_ex, sb_no, tu_nx, tu_ct, tu_bk, tu_rt, tu_ex, on_nx, on_ex, dV_, dC_, dBin_, dUn_, dNilA_, dConsA_, dTup_, dLst_, asB_bl, dB_, dAndB_, dOrB_, dNotB_, dAnd_, dOr_, dNot_, dIf_, dCallB_, dCall_, dMeth_, dFld_, dSetF_, dMake_, dNoPart_, asI_int, dPart_, dSlice_, dDic_, dChain_, dSeq_, dNil_, dPass_, dBreak_, dCont_, dExpr_, dRet_, dRetN_, dSet_, dIfS_, gN_, gsN_, gsC_, gT_, gSub_, dAsg_, dRaise_, dRaiseA_, dFor_, wSeq_, wEn_, wRng_, dLc_, dYes_, wipeT_nil, wipeT_cons, endF_nx, endF_rt, endF_ex, chk_str, chk_tup, items_str, items_tup, items_ob, seq_tup, len_tup, add_int, sub_int, lt_int', le_int', gt_int', ge_int', lt_str', gt_str', eq_int', eq_str', ne_int', ne_str', neg_int, int_int, int_bl, isnot_non, is_non, dFn1, dFn2, dFn3, dFn4, dFn5, List.replicate_succ, List.replicate_zero, List.getElem?_cons_zero, List.getElem?_cons_succ, List.set_cons_zero, List.set_cons_succ, List.length_cons, List.length_nil, if_true_, if_false_, if_T_, if_F_, Bool.not_true, Bool.not_false, Nat.reduceAdd, Nat.reduceSub, Nat.reduceLeDiff, Int.reduceSub, Int.reduceAdd, ge_iff_le, List.map_cons, List.map_nil, List.cons_append, List.nil_append, dTry_, d40, d41, d42, d43, P_Bench_initX hm h1, tryR_ex, hG]
    rw [List.append_assoc]
    rfl
end
end HB

set_option maxHeartbeats 1000000
namespace HB
open PySem DN
section
variable {M : Mem} {b hp : Nat} {m : PySem.Str} {rows pasts : List T} {w0 w1 w2 w3 w4 : Option T}
/-! ### what is due -/
theorem due_put {at_ lot : T} (h1 : Thing cs at_ M) (h2 : Things cs lot M) : d__law_due [.str m, .tup rows, .int 0, at_, lot] M =
    .ok (.str (if isWithin 0 rows.length at_ = true then (if isLot m lot = true then (if rows.length = 40 then "many" else "done") else "lot") else "place")) M := by
  cases q1 : isWithin 0 rows.length at_ with
  | false =>
    refine gcF_same ?_
    simp only [b__law_due, bind_ok, bind_ex, bind_no, toS_ok, toS_ex, toS_no, sb_nx, sb_rt, sb_bk, sb_ct, sb_ex, sb_no, tu_nx, tu_ct, tu_bk, tu_rt, tu_ex, on_nx, on_ex, dV_, dC_, dBin_, dUn_, dNilA_, dConsA_, dTup_, dLst_, asB_bl, dB_, dAndB_, dOrB_, dNotB_, dAnd_, dOr_, dNot_, dIf_, dCallB_, dCall_, dMeth_, dFld_, dSetF_, dMake_, dNoPart_, asI_int, dPart_, dSlice_, dDic_, dChain_, dSeq_, dNil_, dPass_, dBreak_, dCont_, dExpr_, dRet_, dRetN_, dSet_, dIfS_, gN_, gsN_, gsC_, gT_, gSub_, dAsg_, dRaise_, dRaiseA_, dFor_, wSeq_, wEn_, wRng_, dLc_, dYes_, wipeT_nil, wipeT_cons, endF_nx, endF_rt, endF_ex, chk_str, chk_tup, items_str, items_tup, items_ob, seq_tup, len_tup, add_int, sub_int, lt_int', le_int', gt_int', ge_int', lt_str', gt_str', eq_int', eq_str', ne_int', ne_str', neg_int, int_int, int_bl, isnot_non, is_non, dFn1, dFn2, dFn3, dFn4, dFn5, List.replicate_succ, List.replicate_zero, List.getElem?_cons_zero, List.getElem?_cons_succ, List.set_cons_zero, List.set_cons_succ, List.length_cons, List.length_nil, if_true_, if_false_, if_T_, if_F_, Bool.not_true, Bool.not_false, Nat.reduceAdd, Nat.reduceSub, Nat.reduceLeDiff, Int.reduceSub, Int.reduceAdd, ge_iff_le, List.map_cons, List.map_nil, List.cons_append, List.nil_append, d00, decide_true, P__law_is_int h1.ty, q1]
  | true =>
    cases q2 : isLot m lot with
    | false =>
      refine gcF_same ?_
      simp only [b__law_due, bind_ok, bind_ex, bind_no, toS_ok, toS_ex, toS_no, sb_nx, sb_rt, sb_bk, sb_ct, sb_ex, sb_no, tu_nx, tu_ct, tu_bk, tu_rt, tu_ex, on_nx, on_ex, dV_, dC_, dBin_, dUn_, dNilA_, dConsA_, dTup_, dLst_, asB_bl, dB_, dAndB_, dOrB_, dNotB_, dAnd_, dOr_, dNot_, dIf_, dCallB_, dCall_, dMeth_, dFld_, dSetF_, dMake_, dNoPart_, asI_int, dPart_, dSlice_, dDic_, dChain_, dSeq_, dNil_, dPass_, dBreak_, dCont_, dExpr_, dRet_, dRetN_, dSet_, dIfS_, gN_, gsN_, gsC_, gT_, gSub_, dAsg_, dRaise_, dRaiseA_, dFor_, wSeq_, wEn_, wRng_, dLc_, dYes_, wipeT_nil, wipeT_cons, endF_nx, endF_rt, endF_ex, chk_str, chk_tup, items_str, items_tup, items_ob, seq_tup, len_tup, add_int, sub_int, lt_int', le_int', gt_int', ge_int', lt_str', gt_str', eq_int', eq_str', ne_int', ne_str', neg_int, int_int, int_bl, isnot_non, is_non, dFn1, dFn2, dFn3, dFn4, dFn5, List.replicate_succ, List.replicate_zero, List.getElem?_cons_zero, List.getElem?_cons_succ, List.set_cons_zero, List.set_cons_succ, List.length_cons, List.length_nil, if_true_, if_false_, if_T_, if_F_, Bool.not_true, Bool.not_false, Nat.reduceAdd, Nat.reduceSub, Nat.reduceLeDiff, Int.reduceSub, Int.reduceAdd, ge_iff_le, List.map_cons, List.map_nil, List.cons_append, List.nil_append, d00, decide_true, P__law_is_int h1.ty, q1, P__law_is_lot h2, q2]
    | true =>
      refine gcF_app (G := [.lst [.str "done", .str "many"]]) ?_ rfl
      have w0 : ixT (.ob M.length) (.int 0) (M ++ [.lst [T.str "done", .str "many"]]) = .ok (.str "done") (M ++ [.lst [T.str "done", .str "many"]]) := ix_ob' (j := 0) rfl List.getElem?_concat_length rfl
      have w1 : ixT (.ob M.length) (.int 1) (M ++ [.lst [T.str "done", .str "many"]]) = .ok (.str "many") (M ++ [.lst [T.str "done", .str "many"]]) := ix_ob' (j := 1) rfl List.getElem?_concat_length rfl
      by_cases q3 : rows.length = 40
      · have q3' : decide ((rows.length : Int) = 40) = true := by simp; omega
        simp only [b__law_due, bind_ok, bind_ex, bind_no, toS_ok, toS_ex, toS_no, sb_nx, sb_rt, sb_bk, sb_ct, sb_ex, sb_no, tu_nx, tu_ct, tu_bk, tu_rt, tu_ex, on_nx, on_ex, dV_, dC_, dBin_, dUn_, dNilA_, dConsA_, dTup_, dLst_, asB_bl, dB_, dAndB_, dOrB_, dNotB_, dAnd_, dOr_, dNot_, dIf_, dCallB_, dCall_, dMeth_, dFld_, dSetF_, dMake_, dNoPart_, asI_int, dPart_, dSlice_, dDic_, dChain_, dSeq_, dNil_, dPass_, dBreak_, dCont_, dExpr_, dRet_, dRetN_, dSet_, dIfS_, gN_, gsN_, gsC_, gT_, gSub_, dAsg_, dRaise_, dRaiseA_, dFor_, wSeq_, wEn_, wRng_, dLc_, dYes_, wipeT_nil, wipeT_cons, endF_nx, endF_rt, endF_ex, chk_str, chk_tup, items_str, items_tup, items_ob, seq_tup, len_tup, add_int, sub_int, lt_int', le_int', gt_int', ge_int', lt_str', gt_str', eq_int', eq_str', ne_int', ne_str', neg_int, int_int, int_bl, isnot_non, is_non, dFn1, dFn2, dFn3, dFn4, dFn5, List.replicate_succ, List.replicate_zero, List.getElem?_cons_zero, List.getElem?_cons_succ, List.set_cons_zero, List.set_cons_succ, List.length_cons, List.length_nil, if_true_, if_false_, if_T_, if_F_, Bool.not_true, Bool.not_false, Nat.reduceAdd, Nat.reduceSub, Nat.reduceLeDiff, Int.reduceSub, Int.reduceAdd, ge_iff_le, List.map_cons, List.map_nil, List.cons_append, List.nil_append, d00, decide_true, P__law_is_int h1.ty, q1, P__law_is_lot h2, q2, q3', if_pos (le_line' (n := 2) (by decide)), if_true, w1, if_pos q3]
      · have q3' : decide ((rows.length : Int) = 40) = false := by simp; omega
        have e0 : (if false = true then (1 : Int) else 0) = 0 := rfl
        simp only [b__law_due, bind_ok, bind_ex, bind_no, toS_ok, toS_ex, toS_no, sb_nx, sb_rt, sb_bk, sb_ct, sb_ex, sb_no, tu_nx, tu_ct, tu_bk, tu_rt, tu_ex, on_nx, on_ex, dV_, dC_, dBin_, dUn_, dNilA_, dConsA_, dTup_, dLst_, asB_bl, dB_, dAndB_, dOrB_, dNotB_, dAnd_, dOr_, dNot_, dIf_, dCallB_, dCall_, dMeth_, dFld_, dSetF_, dMake_, dNoPart_, asI_int, dPart_, dSlice_, dDic_, dChain_, dSeq_, dNil_, dPass_, dBreak_, dCont_, dExpr_, dRet_, dRetN_, dSet_, dIfS_, gN_, gsN_, gsC_, gT_, gSub_, dAsg_, dRaise_, dRaiseA_, dFor_, wSeq_, wEn_, wRng_, dLc_, dYes_, wipeT_nil, wipeT_cons, endF_nx, endF_rt, endF_ex, chk_str, chk_tup, items_str, items_tup, items_ob, seq_tup, len_tup, add_int, sub_int, lt_int', le_int', gt_int', ge_int', lt_str', gt_str', eq_int', eq_str', ne_int', ne_str', neg_int, int_int, int_bl, isnot_non, is_non, dFn1, dFn2, dFn3, dFn4, dFn5, List.replicate_succ, List.replicate_zero, List.getElem?_cons_zero, List.getElem?_cons_succ, List.set_cons_zero, List.set_cons_succ, List.length_cons, List.length_nil, if_true_, if_false_, if_T_, if_F_, Bool.not_true, Bool.not_false, Nat.reduceAdd, Nat.reduceSub, Nat.reduceLeDiff, Int.reduceSub, Int.reduceAdd, ge_iff_le, List.map_cons, List.map_nil, List.cons_append, List.nil_append, d00, decide_true, P__law_is_int h1.ty, q1, P__law_is_lot h2, q2, q3', if_pos (le_line' (n := 2) (by decide)), e0, w0, if_neg q3]
theorem due_other {at_ lot : T} {w : Int} (hw : w ≠ 0) (h1 : Thing cs at_ M) : d__law_due [.str m, .tup rows, .int w, at_, lot] M =
    .ok (.str (if isWithin 0 ((rows.length : Int) - w) at_ = true then "done" else "seat")) M := by
  refine gcF_same ?_
  have hw' : decide (w = 0) = false := decide_eq_false hw
  cases q1 : isWithin 0 ((rows.length : Int) - w) at_ with
  | false =>
    simp only [b__law_due, bind_ok, bind_ex, bind_no, toS_ok, toS_ex, toS_no, sb_nx, sb_rt, sb_bk, sb_ct, sb_ex, sb_no, tu_nx, tu_ct, tu_bk, tu_rt, tu_ex, on_nx, on_ex, dV_, dC_, dBin_, dUn_, dNilA_, dConsA_, dTup_, dLst_, asB_bl, dB_, dAndB_, dOrB_, dNotB_, dAnd_, dOr_, dNot_, dIf_, dCallB_, dCall_, dMeth_, dFld_, dSetF_, dMake_, dNoPart_, asI_int, dPart_, dSlice_, dDic_, dChain_, dSeq_, dNil_, dPass_, dBreak_, dCont_, dExpr_, dRet_, dRetN_, dSet_, dIfS_, gN_, gsN_, gsC_, gT_, gSub_, dAsg_, dRaise_, dRaiseA_, dFor_, wSeq_, wEn_, wRng_, dLc_, dYes_, wipeT_nil, wipeT_cons, endF_nx, endF_rt, endF_ex, chk_str, chk_tup, items_str, items_tup, items_ob, seq_tup, len_tup, add_int, sub_int, lt_int', le_int', gt_int', ge_int', lt_str', gt_str', eq_int', eq_str', ne_int', ne_str', neg_int, int_int, int_bl, isnot_non, is_non, dFn1, dFn2, dFn3, dFn4, dFn5, List.replicate_succ, List.replicate_zero, List.getElem?_cons_zero, List.getElem?_cons_succ, List.set_cons_zero, List.set_cons_succ, List.length_cons, List.length_nil, if_true_, if_false_, if_T_, if_F_, Bool.not_true, Bool.not_false, Nat.reduceAdd, Nat.reduceSub, Nat.reduceLeDiff, Int.reduceSub, Int.reduceAdd, ge_iff_le, List.map_cons, List.map_nil, List.cons_append, List.nil_append, hw', P__law_is_int h1.ty, q1]
  | true =>
    simp only [b__law_due, bind_ok, bind_ex, bind_no, toS_ok, toS_ex, toS_no, sb_nx, sb_rt, sb_bk, sb_ct, sb_ex, sb_no, tu_nx, tu_ct, tu_bk, tu_rt, tu_ex, on_nx, on_ex, dV_, dC_, dBin_, dUn_, dNilA_, dConsA_, dTup_, dLst_, asB_bl, dB_, dAndB_, dOrB_, dNotB_, dAnd_, dOr_, dNot_, dIf_, dCallB_, dCall_, dMeth_, dFld_, dSetF_, dMake_, dNoPart_, asI_int, dPart_, dSlice_, dDic_, dChain_, dSeq_, dNil_, dPass_, dBreak_, dCont_, dExpr_, dRet_, dRetN_, dSet_, dIfS_, gN_, gsN_, gsC_, gT_, gSub_, dAsg_, dRaise_, dRaiseA_, dFor_, wSeq_, wEn_, wRng_, dLc_, dYes_, wipeT_nil, wipeT_cons, endF_nx, endF_rt, endF_ex, chk_str, chk_tup, items_str, items_tup, items_ob, seq_tup, len_tup, add_int, sub_int, lt_int', le_int', gt_int', ge_int', lt_str', gt_str', eq_int', eq_str', ne_int', ne_str', neg_int, int_int, int_bl, isnot_non, is_non, dFn1, dFn2, dFn3, dFn4, dFn5, List.replicate_succ, List.replicate_zero, List.getElem?_cons_zero, List.getElem?_cons_succ, List.set_cons_zero, List.set_cons_succ, List.length_cons, List.length_nil, if_true_, if_false_, if_T_, if_F_, Bool.not_true, Bool.not_false, Nat.reduceAdd, Nat.reduceSub, Nat.reduceLeDiff, Int.reduceSub, Int.reduceAdd, ge_iff_le, List.map_cons, List.map_nil, List.cons_append, List.nil_append, hw', P__law_is_int h1.ty, q1]
end
end HB

set_option maxHeartbeats 1000000
namespace HB
open PySem DN
/-! ### kinds of cells stay -/
def kc : C → Option TyN
  | .lst _ => some (.b "list")
  | .ins c _ => some (.c c)
  | .dic _ _ => some (.b "dict")
  | .ro _ => none
def Kin (M M' : Mem) : Prop := ∀ (n : Nat) (c : C), M[n]? = some c → ∃ c', M'[n]? = some c' ∧ kc c' = kc c
theorem Kin.refl {M : Mem} : Kin M M := fun _ c h => ⟨c, h, rfl⟩
theorem Kin.trans {M M' M'' : Mem} (a : Kin M M') (b : Kin M' M'') : Kin M M'' := fun n c h => by
  obtain ⟨c1, h1, k1⟩ := a n c h
  obtain ⟨c2, h2, k2⟩ := b n c1 h1
  exact ⟨c2, h2, k2.trans k1⟩
theorem Kin.app {M G : Mem} : Kin M (M ++ G) := fun _ c h => ⟨c, look_app h, rfl⟩
theorem tyN_kc {n : Nat} {M : Mem} {c : C} (h : M[n]? = some c) : tyN (.ob n) M = kc c := by
  simp only [tyN, h]
  cases c <;> rfl
theorem Kin.ty {M M' : Mem} {t : T} {y : TyN} (k : Kin M M') (h : tyN t M = some y) : tyN t M' = some y := by
  cases t with
  | ob n =>
    cases e : M[n]? with
    | none => simp [tyN, e] at h
    | some c =>
      obtain ⟨c', e', kk⟩ := k n c e
      rw [tyN_kc e] at h
      rw [tyN_kc e', kk, h]
  | _ => exact h
theorem Kin.thing {M M' : Mem} {t : T} (k : Kin M M') (h : Thing cs t M) : Thing cs t M' := ⟨let ⟨y, e, r⟩ := h.ty; ⟨y, k.ty e, r⟩, h.str⟩
theorem Kin.things {M M' : Mem} {t : T} (k : Kin M M') (h : Things cs t M) : Things cs t M' := ⟨k.thing h.toThing, fun ts e => let ⟨a, b⟩ := h.tup ts e; ⟨fun u hu => k.thing (a u hu), b⟩⟩
theorem kin_t {M M' : Mem} {p : Nat} (h : Tape M p) (st : TStep M M' p) : Kin M M' := fun n c e => by
  by_cases q : n = p
  · subst q
    obtain ⟨q, ns, i, b, mix, cnt, e1, _⟩ := h
    obtain ⟨i', b', mix', cnt', e3⟩ := st.same q i b mix cnt e1
    rw [e1] at e; cases e
    exact ⟨_, e3, rfl⟩
  · exact ⟨c, st.get e q, rfl⟩
/-! ### what stands -/
structure LS (M : Mem) (tp b hp e : Nat) (m : PySem.Str) (E : List PySem.Str) (rows pasts : List T) : Prop where
  tape : Tape M tp
  bench : BenchAt M b hp m rows pasts
  ev : M[e]? = some (.lst (E.map .str))
  n1 : b ≠ tp
  n2 : hp ≠ tp
  n3 : e ≠ tp
  n4 : hp ≠ e
  nq : ∀ q i b' mix cnt, M[tp]? = some (tc q i b' mix cnt) → hp ≠ q
section
variable {M M' : Mem} {tp b hp e : Nat} {m : PySem.Str} {E : List PySem.Str} {rows pasts : List T}
theorem LS.t (L : LS M tp b hp e m E rows pasts) (st : TStep M M' tp) : LS M' tp b hp e m E rows pasts := by
  refine ⟨st.tape, ⟨st.get L.bench.b L.n1, st.get L.bench.h L.n2, L.bench.few, L.bench.fewp⟩, st.get L.ev L.n3, L.n1, L.n2, L.n3, L.n4, fun q i b' mix cnt h => ?_⟩
  obtain ⟨q1, ns, i1, b1, mix1, cnt1, e1, _⟩ := L.tape
  obtain ⟨i', b'', mix', cnt', e3⟩ := st.same q1 i1 b1 mix1 cnt1 e1
  rw [e3] at h
  have h' := Option.some.inj h
  simp only [tc, C.lst.injEq, List.cons.injEq, T.ob.injEq] at h'
  rw [← h'.1]
  exact L.nq _ _ _ _ _ e1
theorem LS.app {G : Mem} (L : LS M tp b hp e m E rows pasts) : LS (M ++ G) tp b hp e m E rows pasts := L.t (TStep.app L.tape)
theorem LS.k (L : LS M tp b hp e m E rows pasts) (st : TStep M M' tp) : Kin M M' := kin_t L.tape st
theorem LS.ne_be (L : LS M tp b hp e m E rows pasts) : b ≠ e := fun q => by
  have h1 := L.bench.b
  rw [q, L.ev] at h1
  cases h1
theorem LS.deed (L : LS M tp b hp e m E rows pasts) {r : List T} (hr : r.length ≤ 41) (hp' : pasts.length ≤ 900) : LS (done M b hp m rows pasts r) tp b hp e m E r (pasts ++ [.tup rows]) := by
  have hbq : ∀ q i b' mix cnt, M[tp]? = some (tc q i b' mix cnt) → b ≠ q := fun q i b' mix cnt h z => by
    obtain ⟨q1, ns, i1, b1, mix1, cnt1, e1, e2, _⟩ := L.tape
    rw [e1] at h
    have h' := Option.some.inj h
    simp only [tc, C.lst.injEq, List.cons.injEq, T.ob.injEq] at h'
    have hb := L.bench.b
    rw [z, ← h'.1, e2] at hb
    cases hb
  have t1 : Tape (M.set hp (.lst (pasts ++ [.tup rows]))) tp := L.tape.write L.n2 L.nq
  have w1 : ∀ {c : C}, (M.set hp (.lst (pasts ++ [.tup rows])))[tp]? = some c → M[tp]? = some c := fun {c} h => by
    rwa [List.getElem?_set_ne L.n2] at h
  have t2 : Tape (done M b hp m rows pasts r) tp := t1.write L.n1 fun q i b' mix cnt h => hbq q i b' mix cnt (w1 h)
  refine ⟨t2, done_at L.bench hr hp', look_set (look_set L.ev L.n4) L.ne_be, L.n1, L.n2, L.n3, L.n4, fun q i b' mix cnt h => L.nq q i b' mix cnt (w1 ?_)⟩
  rwa [done, List.getElem?_set_ne L.n1] at h
end
/-! ### the beginning -/
theorem law_begin {ns : List Int} (hl : ns.length ≤ 63) : ∃ (M : Mem) (tp b hp e : Nat) (m : PySem.Str), (∀ (s : DS), ∀ (ρ : Ev), ((dSeq (dSet 1 (dCall d__law_tape (dConsA (dV 0) dNilA)))
 (dSeq (dSet 2 (dCall d__law_marks (dConsA (dV 1) dNilA)))
 (dSeq (dSet 3 (dCall d__law_kinds (dConsA (dV 2) dNilA)))
 (dSeq (dSet 4 (dMake "Bench" d_Bench___init__ (dConsA (dV 2) dNilA))) s)))) (some (.ob 0) :: none :: none :: none :: none :: ρ) [.ro (ns.map .int)]) = s (some (.ob 0) :: some (.ob tp) :: some (.str m) :: some (.ob e) :: some (.ob b) :: ρ) M) ∧ LS M tp b hp e m (kindsF m) [] [] ∧ m ∈ marksL := by
  obtain ⟨M1, a1, a2, a3⟩ := P__law_tape (s := 0) (ns := ns) (M := [.ro (ns.map .int)]) rfl (by omega)
  obtain ⟨m, M2, b1, b2, b3, hm⟩ := P__law_marks a2
  obtain ⟨n, G, c1, c2, c3⟩ := P__law_kinds (M := M2) (marks_len m hm)
  have hmk : marksB (.str m) = true := by
    have h : (marksL.all fun m => marksB (.str m)) = true := by decide +kernel
    exact List.all_eq_true.mp h m hm
  have tm : ∀ M, Thing cs (.str m) M := fun M => okQ_thing (decide_eq_true (by have := marks_len m hm; omega))
  have d1 := P_Bench_init (M := M2 ++ G) (t := .str m) (fun _ _ => trivial) hmk (tm _)
  have l1 : M1.length = 3 := by rw [a3]; rfl
  have hn : n < (M2 ++ G).length := lt_of_some c2
  have T2 : Tape M2 2 := b2.tape
  refine ⟨M2 ++ G ++ [.ins "Bench" [("marks", .str m), ("rows", .tup []), ("past", .ob ((M2 ++ G).length + 1))], .lst []], 2, (M2 ++ G).length, (M2 ++ G).length + 1, n, m, fun s ρ => ?_, ⟨(T2.app).app, ⟨by rw [List.getElem?_append_right (Nat.le_refl _)]; simp [benchC], by rw [look_new (M := M2 ++ G)]; rfl, by simp, by simp⟩, look_app c2, ?_, ?_, ?_, ?_, fun q i b' mix cnt h => ?_⟩, hm⟩
  · have a1' : d__law_tape [.ob 0] [.ro (ns.map .int)] = .ok (.ob 2) M1 := a1
    have b1' : d__law_marks [.ob 2] M1 = .ok (.str m) M2 := b1
    simp only [bind_ok, bind_ex, bind_no, toS_ok, toS_ex, toS_no, sb_nx, sb_rt, sb_bk, sb_ct, sb_ex, sb_no, tu_nx, tu_ct, tu_bk, tu_rt, tu_ex, on_nx, on_ex, dV_, dC_, dBin_, dUn_, dNilA_, dConsA_, dTup_, dLst_, asB_bl, dB_, dAndB_, dOrB_, dNotB_, dAnd_, dOr_, dNot_, dIf_, dCallB_, dCall_, dMeth_, dFld_, dSetF_, dMake_, dNoPart_, asI_int, dPart_, dSlice_, dDic_, dChain_, dSeq_, dNil_, dPass_, dBreak_, dCont_, dExpr_, dRet_, dRetN_, dSet_, dIfS_, gN_, gsN_, gsC_, gT_, gSub_, dAsg_, dRaise_, dRaiseA_, dFor_, wSeq_, wEn_, wRng_, dLc_, dYes_, wipeT_nil, wipeT_cons, endF_nx, endF_rt, endF_ex, chk_str, chk_tup, items_str, items_tup, items_ob, seq_tup, len_tup, add_int, sub_int, lt_int', le_int', gt_int', ge_int', lt_str', gt_str', eq_int', eq_str', ne_int', ne_str', neg_int, int_int, int_bl, isnot_non, is_non, dFn1, dFn2, dFn3, dFn4, dFn5, List.replicate_succ, List.replicate_zero, List.getElem?_cons_zero, List.getElem?_cons_succ, List.set_cons_zero, List.set_cons_succ, List.length_cons, List.length_nil, if_true_, if_false_, if_T_, if_F_, Bool.not_true, Bool.not_false, Nat.reduceAdd, Nat.reduceSub, Nat.reduceLeDiff, Int.reduceSub, Int.reduceAdd, ge_iff_le, List.map_cons, List.map_nil, List.cons_append, List.nil_append, a1', b1', c1, d1]
  · simp; omega
  · simp; omega
  · omega
  · omega
  · obtain ⟨q1, ns1, i1, b1, mix1, cnt1, e1, e2, _⟩ := T2
    rw [look_app (look_app e1)] at h
    have h' := Option.some.inj h
    simp only [tc, C.lst.injEq, List.cons.injEq, T.ob.injEq] at h'
    have := lt_of_some e2
    rw [← h'.1]
    simp; omega
end HB

set_option maxHeartbeats 1000000
namespace HB
open PySem DN
theorem marksB_of {m : PySem.Str} (hm : m ∈ marksL) : marksB (.str m) = true := by
  have h : (marksL.all fun m => marksB (.str m)) = true := by decide +kernel
  exact List.all_eq_true.mp h m hm
theorem mOk_of {m : PySem.Str} (hm : m ∈ marksL) : mOk m = true := by
  have h : (marksL.all mOk) = true := by decide +kernel
  exact List.all_eq_true.mp h m hm
section
variable {M : Mem} {tp b hp e : Nat} {m : PySem.Str} {E : List PySem.Str} {rows pasts : List T}
theorem law_odd5 (L : LS M tp b hp e m E rows pasts) (hm : m ∈ marksL) (ρ : Ev) : ∃ (u : T) (M' : Mem), (dBin ixT (dLst (dConsA (dCall d__law_odd (dConsA (dV 1) dNilA)) (dConsA (dCall d__law_odd (dConsA (dV 1) dNilA)) (dConsA (dCall d__law_deep (dConsA (dV 1) dNilA)) (dConsA (dV 4) (dConsA (dMake "Seats" d_Seats___init__ (dConsA (dV 2) (dConsA (dTup dNilA) dNilA))) dNilA)))))) (dCall d__law_pick (dConsA (dV 1) (dConsA (dC (.int 5)) dNilA)))) (some (.ob 0) :: some (.ob tp) :: some (.str m) :: some (.ob e) :: some (.ob b) :: ρ) M = .ok u M' ∧ TStep M M' tp ∧ Things cs u M' := by
  obtain ⟨u1, M1, a1, a2, a3⟩ := P__law_odd L.tape
  obtain ⟨u2, M2, b1, b2, b3⟩ := P__law_odd a2.tape
  obtain ⟨u3, M3, c1, c2, c3⟩ := P__law_deep b2.tape
  have st3 : TStep M M3 tp := (a2.trans b2).trans c2
  have s1 := P_Seats_init (M := M3) (m := m) (rows := []) (marksB_of hm) ⟨fun t ht => (by cases ht), by simp⟩
  have T4 : Tape (M3 ++ [seatsC m []] ++ [.lst [u1, u2, u3, .ob b, .ob M3.length]]) tp := (c2.tape.app).app
  obtain ⟨d, M6, e1, e2, e3, e4, e5⟩ := P__law_pick (m := 5) T4 (by omega)
  have hp3 := c2.tape.lt
  have hk : M6[(M3 ++ [seatsC m []]).length]? = some (.lst [u1, u2, u3, .ob b, .ob M3.length]) := e2.get List.getElem?_concat_length (by simp; omega)
  obtain ⟨u, hu, _, ei⟩ := ix_pick hk ⟨e4, e5⟩
  have stF : TStep M M6 tp := ((st3.appR).appR).trans e2
  have k3 : Kin M3 M6 := (Kin.app.trans Kin.app).trans (kin_t T4 e2)
  have k2 : Kin M2 M6 := (kin_t b2.tape c2).trans k3
  have k1 : Kin M1 M6 := (kin_t a2.tape b2).trans k2
  refine ⟨u, M6, ?_, stF, ?_⟩
  · simp only [bind_ok, bind_ex, bind_no, toS_ok, toS_ex, toS_no, sb_nx, sb_rt, sb_bk, sb_ct, sb_ex, sb_no, tu_nx, tu_ct, tu_bk, tu_rt, tu_ex, on_nx, on_ex, dV_, dC_, dBin_, dUn_, dNilA_, dConsA_, dTup_, dLst_, asB_bl, dB_, dAndB_, dOrB_, dNotB_, dAnd_, dOr_, dNot_, dIf_, dCallB_, dCall_, dMeth_, dFld_, dSetF_, dMake_, dNoPart_, asI_int, dPart_, dSlice_, dDic_, dChain_, dSeq_, dNil_, dPass_, dBreak_, dCont_, dExpr_, dRet_, dRetN_, dSet_, dIfS_, gN_, gsN_, gsC_, gT_, gSub_, dAsg_, dRaise_, dRaiseA_, dFor_, wSeq_, wEn_, wRng_, dLc_, dYes_, wipeT_nil, wipeT_cons, endF_nx, endF_rt, endF_ex, chk_str, chk_tup, items_str, items_tup, items_ob, seq_tup, len_tup, add_int, sub_int, lt_int', le_int', gt_int', ge_int', lt_str', gt_str', eq_int', eq_str', ne_int', ne_str', neg_int, int_int, int_bl, isnot_non, is_non, dFn1, dFn2, dFn3, dFn4, dFn5, List.replicate_succ, List.replicate_zero, List.getElem?_cons_zero, List.getElem?_cons_succ, List.set_cons_zero, List.set_cons_succ, List.length_cons, List.length_nil, if_true_, if_false_, if_T_, if_F_, Bool.not_true, Bool.not_false, Nat.reduceAdd, Nat.reduceSub, Nat.reduceLeDiff, Int.reduceSub, Int.reduceAdd, ge_iff_le, List.map_cons, List.map_nil, List.cons_append, List.nil_append, a1, b1, c1, if_pos (le_line' (n := 0) (by decide)), s1, if_T_, if_pos (le_line' (n := 5) (by decide)), e1, ei]
  · simp only [List.mem_cons, List.not_mem_nil, or_false] at hu
    rcases hu with rfl | rfl | rfl | rfl | rfl
    · exact k1.things a3
    · exact k2.things b3
    · exact c3 _
    · exact ob_things (stF.get L.bench.b L.n1) (by simp [cellOk, benchC, cs])
    · refine ob_things (c := seatsC m []) (e2.get ?_ (by omega)) (by simp [cellOk, seatsC, cs])
      rw [List.append_assoc, List.getElem?_append_right (Nat.le_refl _)]
      simp
theorem law_mid (L : LS M tp b hp e m E [] []) (hm : m ∈ marksL) (w : List (Option T)) : ∃ (u : T) (M' : Mem), (∀ (s : DS), ((dSeq (dSet 5 (dBin ixT (dLst (dConsA (dCall d__law_odd (dConsA (dV 1) dNilA)) (dConsA (dCall d__law_odd (dConsA (dV 1) dNilA)) (dConsA (dCall d__law_deep (dConsA (dV 1) dNilA)) (dConsA (dV 4) (dConsA (dMake "Seats" d_Seats___init__ (dConsA (dV 2) (dConsA (dTup dNilA) dNilA))) dNilA)))))) (dCall d__law_pick (dConsA (dV 1) (dConsA (dC (.int 5)) dNilA)))))
 (dSeq (dIfS (dB (dBin neT (dCall d__law_asked (dConsA (dV 4) (dConsA (dC (.int 4)) (dConsA (dV 5) (dConsA (dC .non) dNilA))))) (dBin ixT (dLst (dConsA (dC (.str "marks")) (dConsA (dC (.str "done")) dNilA))) (dCallB intT (dConsA (dCall d__law_is_marks (dConsA (dV 5) dNilA)) dNilA))))) (dRet (dC (.bl false)))
 dNil)
 (dSeq (dIfS (dOrB (dB (dBin neT (dCall d__law_asked (dConsA (dV 4) (dConsA (dC (.int 3)) (dConsA (dC .non) (dConsA (dC .non) dNilA))))) (dC (.str "nothing")))) (dNotB (dB (dCall d__law_stands (dConsA (dV 4) (dConsA (dV 2) (dConsA (dTup dNilA) (dConsA (dC (.int 0)) dNilA)))))))) (dRet (dC (.bl false)))
 dNil)
 (dSeq (dSet 6 (dTup dNilA)) s)))) (some (.ob 0) :: some (.ob tp) :: some (.str m) :: some (.ob e) :: some (.ob b) :: none :: none :: w) M) = s (some (.ob 0) :: some (.ob tp) :: some (.str m) :: some (.ob e) :: some (.ob b) :: some u :: some (.tup []) :: w) M') ∧ LS M' tp b hp e m E [] [] := by
  obtain ⟨u, M1, a1, a2, a3⟩ := law_odd5 L hm (none :: none :: w)
  have L1 := L.t a2
  have L2 := L1.app (G := [.lst [.str "marks", .str "done"]])
  have q1 := asked_make (M := M1) (w := .ob b) a3.toThing
  have q2 := P__law_is_marks (M := M1 ++ [.lst [.str "marks", .str "done"]]) (t := u) a3.toThing.app
  have q3 : ∀ x : Bool, ixT (.ob M1.length) (.int (if x = true then 1 else 0)) (M1 ++ [.lst [.str "marks", .str "done"]]) = .ok (.str (if x = true then "done" else "marks")) (M1 ++ [.lst [.str "marks", .str "done"]]) := fun x => by
    cases x with
    | true => exact ix_ob' (j := 1) rfl List.getElem?_concat_length rfl
    | false => exact ix_ob' (j := 0) rfl List.getElem?_concat_length rfl
  have q4 := asked_back0 L2.bench
  have q5 := P__law_stands L2.bench (marksB_of hm) (mOk_of hm) ⟨fun t ht => (by cases ht), by simp⟩
  have q5' : d__law_stands [.ob b, .str m, .tup [], .int 0] (M1 ++ [.lst [.str "marks", .str "done"]]) = .ok (.bl true) (M1 ++ [.lst [.str "marks", .str "done"]]) := q5
  refine ⟨u, M1 ++ [.lst [.str "marks", .str "done"]], fun s => ?_, L2⟩
  rw [dSeq_, dSet_, a1]
  simp only [bind_ok, bind_ex, bind_no, toS_ok, toS_ex, toS_no, sb_nx, sb_rt, sb_bk, sb_ct, sb_ex, sb_no, tu_nx, tu_ct, tu_bk, tu_rt, tu_ex, on_nx, on_ex, dV_, dC_, dBin_, dUn_, dNilA_, dConsA_, dTup_, dLst_, asB_bl, dB_, dAndB_, dOrB_, dNotB_, dAnd_, dOr_, dNot_, dIf_, dCallB_, dCall_, dMeth_, dFld_, dSetF_, dMake_, dNoPart_, asI_int, dPart_, dSlice_, dDic_, dChain_, dSeq_, dNil_, dPass_, dBreak_, dCont_, dExpr_, dRet_, dRetN_, dSet_, dIfS_, gN_, gsN_, gsC_, gT_, gSub_, dAsg_, dRaise_, dRaiseA_, dFor_, wSeq_, wEn_, wRng_, dLc_, dYes_, wipeT_nil, wipeT_cons, endF_nx, endF_rt, endF_ex, chk_str, chk_tup, items_str, items_tup, items_ob, seq_tup, len_tup, add_int, sub_int, lt_int', le_int', gt_int', ge_int', lt_str', gt_str', eq_int', eq_str', ne_int', ne_str', neg_int, int_int, int_bl, isnot_non, is_non, dFn1, dFn2, dFn3, dFn4, dFn5, List.replicate_succ, List.replicate_zero, List.getElem?_cons_zero, List.getElem?_cons_succ, List.set_cons_zero, List.set_cons_succ, List.length_cons, List.length_nil, if_true_, if_false_, if_T_, if_F_, Bool.not_true, Bool.not_false, Nat.reduceAdd, Nat.reduceSub, Nat.reduceLeDiff, Int.reduceSub, Int.reduceAdd, ge_iff_le, List.map_cons, List.map_nil, List.cons_append, List.nil_append, q1, if_pos (le_line' (n := 2) (by decide)), q2, q3, decide_true, q4, if_pos (le_line' (n := 0) (by decide)), q5']
end
end HB

set_option maxHeartbeats 1000000
namespace HB
open PySem DN
section
variable {M : Mem} {tp b hp e : Nat} {m : PySem.Str} {E : List PySem.Str} {rows pasts : List T}
theorem max_ok {i j : Int} {M : Mem} : max2T [.int i, .int j] M = .ok (.int (if j > i then j else i)) M := rfl
theorem law_many (L : LS M tp b hp e m E rows pasts) (ρ : Ev) : ∃ (n : Int) (M' : Mem), (dBin ixT (dLst (dConsA (dCall d__law_pick (dConsA (dV 1) (dConsA (dC (.int 7)) dNilA))) (dConsA (dC (.int 39)) (dConsA (dC (.int 40)) dNilA)))) (dCallB max2T (dConsA (dC (.int 0)) (dConsA (dBin subT (dCall d__law_pick (dConsA (dV 1) (dConsA (dC (.int 6)) dNilA))) (dC (.int 3))) dNilA)))) (some (.ob 0) :: some (.ob tp) :: ρ) M = .ok (.int n) M' ∧ TStep M M' tp ∧ 0 ≤ n ∧ n ≤ 40 := by
  obtain ⟨d7, M1, a1, a2, a3, a4, a5⟩ := P__law_pick (m := 7) L.tape (by omega)
  have T2 : Tape (M1 ++ [.lst [.int d7, .int 39, .int 40]]) tp := a2.tape.app
  obtain ⟨d6, M3, b1, b2, b3, b4, b5⟩ := P__law_pick (m := 6) T2 (by omega)
  have hp1 := a2.tape.lt
  have hk : M3[M1.length]? = some (.lst [.int d7, .int 39, .int 40]) := b2.get List.getElem?_concat_length (by omega)
  obtain ⟨u, hu, _, ei⟩ := ix_pick (d := if d6 - 3 > 0 then d6 - 3 else 0) hk (by simp; split <;> omega)
  simp only [List.mem_cons, List.not_mem_nil, or_false] at hu
  have hu' : ∃ n : Int, u = .int n ∧ 0 ≤ n ∧ n ≤ 40 := by
    rcases hu with rfl | rfl | rfl
    · exact ⟨d7, rfl, by omega, by omega⟩
    · exact ⟨39, rfl, by omega, by omega⟩
    · exact ⟨40, rfl, by omega, by omega⟩
  obtain ⟨n, rfl, h0, h1⟩ := hu'
  refine ⟨n, M3, ?_, (a2.appR).trans b2, h0, h1⟩
  simp only [bind_ok, bind_ex, bind_no, toS_ok, toS_ex, toS_no, sb_nx, sb_rt, sb_bk, sb_ct, sb_ex, sb_no, tu_nx, tu_ct, tu_bk, tu_rt, tu_ex, on_nx, on_ex, dV_, dC_, dBin_, dUn_, dNilA_, dConsA_, dTup_, dLst_, asB_bl, dB_, dAndB_, dOrB_, dNotB_, dAnd_, dOr_, dNot_, dIf_, dCallB_, dCall_, dMeth_, dFld_, dSetF_, dMake_, dNoPart_, asI_int, dPart_, dSlice_, dDic_, dChain_, dSeq_, dNil_, dPass_, dBreak_, dCont_, dExpr_, dRet_, dRetN_, dSet_, dIfS_, gN_, gsN_, gsC_, gT_, gSub_, dAsg_, dRaise_, dRaiseA_, dFor_, wSeq_, wEn_, wRng_, dLc_, dYes_, wipeT_nil, wipeT_cons, endF_nx, endF_rt, endF_ex, chk_str, chk_tup, items_str, items_tup, items_ob, seq_tup, len_tup, add_int, sub_int, lt_int', le_int', gt_int', ge_int', lt_str', gt_str', eq_int', eq_str', ne_int', ne_str', neg_int, int_int, int_bl, isnot_non, is_non, dFn1, dFn2, dFn3, dFn4, dFn5, List.replicate_succ, List.replicate_zero, List.getElem?_cons_zero, List.getElem?_cons_succ, List.set_cons_zero, List.set_cons_succ, List.length_cons, List.length_nil, if_true_, if_false_, if_T_, if_F_, Bool.not_true, Bool.not_false, Nat.reduceAdd, Nat.reduceSub, Nat.reduceLeDiff, Int.reduceSub, Int.reduceAdd, ge_iff_le, List.map_cons, List.map_nil, List.cons_append, List.nil_append, a1, if_pos (le_line' (n := 3) (by decide)), b1, max_ok, ei]
theorem ix_last {ts : List T} {t : T} {M : Mem} : ixT (.tup (ts ++ [t])) (.int (-1)) M = .ok t M := by
  have h := L2.atI_last ts t
  simp only [ixT, seqT, h]
theorem Rows.add {lot : T} (R : Rows m rows) (h : isLot m lot = true ∧ okP lot = true) (hl : rows.length < 40) : Rows m (rows ++ [lot]) := ⟨fun t ht => by
  rcases List.mem_append.mp ht with ht | ht
  · exact R.lot t ht
  · rw [List.mem_singleton.mp ht]; exact h, by simp; omega⟩
theorem law_build (L : LS M tp b hp e m E [] []) (hE : Kinds m E) (us0 : List T) (hlen : us0.length ≤ 40) (hget : ∀ (k : Nat) (h : k < us0.length), us0[k] = .int (k : Int)) (u5 : T) (w : List (Option T)) :
    ∃ (rows pasts : List T) (x : Option T) (M' : Mem), loopF (fun _ => true) (gN 7) (dSeq (dSet 6 (dBin addT (dV 6) (dTup (dConsA (dCall d__law_lot (dConsA (dV 1) (dConsA (dV 3) dNilA))) dNilA))))
 (dExpr (dMeth (isIns "Bench" "put") d_Bench_put (dV 4) (dConsA (dV 7) (dConsA (dBin ixT (dV 6) (dUn negT (dC (.int 1)))) dNilA))))) us0 (some (.ob 0) :: some (.ob tp) :: some (.str m) :: some (.ob e) :: some (.ob b) :: some u5 :: some (.tup []) :: none :: w) M =
      .nx (some (.ob 0) :: some (.ob tp) :: some (.str m) :: some (.ob e) :: some (.ob b) :: some u5 :: some (.tup rows) :: x :: w) M' ∧ LS M' tp b hp e m E rows pasts ∧ Rows m rows ∧ pasts.length = rows.length := by
  generalize hr : loopF (fun _ => true) (gN 7) _ us0 _ M = r
  subst hr
  refine loopF_run (fun us ρ M' => ∃ (rows pasts : List T) (x : Option T), us = us0.drop rows.length ∧ rows.length ≤ us0.length ∧ ρ = (some (.ob 0) :: some (.ob tp) :: some (.str m) :: some (.ob e) :: some (.ob b) :: some u5 :: some (.tup rows) :: x :: w) ∧ LS M' tp b hp e m E rows pasts ∧ Rows m rows ∧ pasts.length = rows.length)
    (fun r => ∃ (rows pasts : List T) (x : Option T) (M' : Mem), r = .nx (some (.ob 0) :: some (.ob tp) :: some (.str m) :: some (.ob e) :: some (.ob b) :: some u5 :: some (.tup rows) :: x :: w) M' ∧ LS M' tp b hp e m E rows pasts ∧ Rows m rows ∧ pasts.length = rows.length) ?_ ?_ _ _ _ ?_
  · rintro ρ M' ⟨rows, pasts, x, _, _, rfl, h1, h2, h3⟩
    exact ⟨rfl, rows, pasts, x, M', rfl, h1, h2, h3⟩
  · rintro u us ρ M' ⟨rows, pasts, x, e1, hle, rfl, h1, h2, h3⟩
    have hk : rows.length < us0.length := by
      have := congrArg List.length e1
      simp at this
      omega
    rw [List.drop_eq_getElem_cons hk] at e1
    simp only [List.cons.injEq] at e1
    obtain ⟨rfl, rfl⟩ := e1
    rw [hget _ hk]
    obtain ⟨Ls, M2, c1, c2, c3, c4, c5⟩ := P__law_lot h1.tape h1.ev h1.n3 hE
    have L2 := h1.t c2
    have hf := h2.few
    have hput := P_Bench_put L2.bench (at_ := .int rows.length) (lot := .tup (Ls.map .str)) (okQ_thing rfl) (okP_things c5)
    have q1 : isWithin 0 rows.length (.int rows.length) = true := by simp [isWithin]
    have q3 : ¬ rows.length = 40 := by omega
    rw [if_pos q1, if_pos c4, if_neg q3] at hput
    simp only [Int.toNat_natCast, List.take_length, List.drop_length, List.append_nil] at hput
    refine ⟨rfl, (some (.ob 0) :: some (.ob tp) :: some (.str m) :: some (.ob e) :: some (.ob b) :: some u5 :: some (.tup rows) :: some (.int rows.length) :: w), M', rfl, .inl ⟨_, _, ?_, rows ++ [.tup (Ls.map .str)], pasts ++ [.tup rows], some (.int rows.length), by simp, by simp; omega, rfl, L2.deed (by simp; omega) (by omega), h2.add ⟨c4, c5⟩ (by omega), by simp; omega⟩⟩
    simp only [bind_ok, bind_ex, bind_no, toS_ok, toS_ex, toS_no, sb_nx, sb_rt, sb_bk, sb_ct, sb_ex, sb_no, tu_nx, tu_ct, tu_bk, tu_rt, tu_ex, on_nx, on_ex, dV_, dC_, dBin_, dUn_, dNilA_, dConsA_, dTup_, dLst_, asB_bl, dB_, dAndB_, dOrB_, dNotB_, dAnd_, dOr_, dNot_, dIf_, dCallB_, dCall_, dMeth_, dFld_, dSetF_, dMake_, dNoPart_, asI_int, dPart_, dSlice_, dDic_, dChain_, dSeq_, dNil_, dPass_, dBreak_, dCont_, dExpr_, dRet_, dRetN_, dSet_, dIfS_, gN_, gsN_, gsC_, gT_, gSub_, dAsg_, dRaise_, dRaiseA_, dFor_, wSeq_, wEn_, wRng_, dLc_, dYes_, wipeT_nil, wipeT_cons, endF_nx, endF_rt, endF_ex, chk_str, chk_tup, items_str, items_tup, items_ob, seq_tup, len_tup, add_int, sub_int, lt_int', le_int', gt_int', ge_int', lt_str', gt_str', eq_int', eq_str', ne_int', ne_str', neg_int, int_int, int_bl, isnot_non, is_non, dFn1, dFn2, dFn3, dFn4, dFn5, List.replicate_succ, List.replicate_zero, List.getElem?_cons_zero, List.getElem?_cons_succ, List.set_cons_zero, List.set_cons_succ, List.length_cons, List.length_nil, if_true_, if_false_, if_T_, if_F_, Bool.not_true, Bool.not_false, Nat.reduceAdd, Nat.reduceSub, Nat.reduceLeDiff, Int.reduceSub, Int.reduceAdd, ge_iff_le, List.map_cons, List.map_nil, List.cons_append, List.nil_append, c1, if_pos (le_line' (n := 1) (by decide)), add_tup (x := rows) (y := [.tup (Ls.map .str)]) (by simp; omega), isIns_b (n := "put") L2.bench.b rfl, ix_last, hput]
  · exact ⟨[], [], none, rfl, by simp, rfl, L, ⟨fun t ht => (by cases ht), by simp⟩, rfl⟩
/-- what a turn draws -/
theorem law_draw (L : LS M tp b hp e m E rows pasts) (hE : Kinds m E) (hrl : rows.length ≤ 40) (u5 : T) (x7 x8 x9 x10 x11 x12 x13 : Option T) :
    ∃ (d : Int) (v9 v10 v11 a c : T) (M' : Mem), (∀ s : DS, (dSeq (dSet 8 (dCall d__law_pick (dConsA (dV 1) (dConsA (dC (.int 3)) dNilA))))
 (dSeq (dSet 9 (dLst (dConsA (dCall d__law_odd (dConsA (dV 1) dNilA)) (dConsA (dBin subT (dCallB lenT (dConsA (dV 6) dNilA)) (dCall d__law_pick (dConsA (dV 1) (dConsA (dC (.int 3)) dNilA)))) (dConsA (dCall d__law_pick (dConsA (dV 1) (dConsA (dBin addT (dCallB lenT (dConsA (dV 6) dNilA)) (dC (.int 2))) dNilA))) (dConsA (dUn negT (dC (.int 1))) (dConsA (dBin addT (dCallB lenT (dConsA (dV 6) dNilA)) (dC (.int 1))) dNilA)))))))
 (dSeq (dSet 10 (dCall d__law_lot (dConsA (dV 1) (dConsA (dV 3) dNilA))))
 (dSeq (dSet 11 (dLst (dConsA (dV 10) (dConsA (dV 10) (dConsA (dCall d__law_odd (dConsA (dV 1) dNilA)) (dConsA (dCallB listT (dConsA (dV 10) dNilA)) (dConsA (dCall d__law_deep (dConsA (dV 1) dNilA)) dNilA)))))))
 (dSeq (dSet 12 (dTup (dConsA (dBin ixT (dV 9) (dCall d__law_pick (dConsA (dV 1) (dConsA (dC (.int 5)) dNilA)))) (dConsA (dBin ixT (dV 11) (dCall d__law_pick (dConsA (dV 1) (dConsA (dC (.int 5)) dNilA)))) dNilA)))) s))))) [some (.ob 0), some (.ob tp), some (.str m), some (.ob e), some (.ob b), some u5, some (.tup rows), x7, x8, x9, x10, x11, x12, x13] M =
      s [some (.ob 0), some (.ob tp), some (.str m), some (.ob e), some (.ob b), some u5, some (.tup rows), x7, some (.int d), some v9, some v10, some v11, some (.tup [a, c]), x13] M') ∧ TStep M M' tp ∧ 0 ≤ d ∧ d < 3 ∧ Things cs a M' ∧ Things cs c M' := by
  obtain ⟨d8, M1, a1, a2, a3, a4, a5⟩ := P__law_pick (m := 3) L.tape (by omega)
  obtain ⟨o1, M2, b1, b2, b3⟩ := P__law_odd a2.tape
  obtain ⟨d2, M3, c1, c2, c3, c4, c5⟩ := P__law_pick (m := 3) b2.tape (by omega)
  obtain ⟨d3, M4, e1, e2, e3, e4, e5⟩ := P__law_pick (m := (rows.length : Int) + 2) c2.tape (by omega)
  have T5 : Tape (M4 ++ [.lst [o1, .int ((rows.length : Int) - d2), .int d3, .int (-1), .int ((rows.length : Int) + 1)]]) tp := e2.tape.app
  have s5 : TStep M (M4 ++ [.lst [o1, .int ((rows.length : Int) - d2), .int d3, .int (-1), .int ((rows.length : Int) + 1)]]) tp := (((a2.trans b2).trans c2).trans e2).appR
  have L5 := L.t s5
  obtain ⟨Ls, M6, f1, f2, f3, f4, f5⟩ := P__law_lot L5.tape L5.ev L5.n3 hE
  obtain ⟨o2, M7, g1, g2, g3⟩ := P__law_odd f2.tape
  have T8 : Tape (M7 ++ [.lst (Ls.map .str)]) tp := g2.tape.app
  obtain ⟨o3, M9, h1, h2, h3⟩ := P__law_deep T8
  have T10 : Tape (M9 ++ [.lst [.tup (Ls.map .str), .tup (Ls.map .str), o2, .ob M7.length, o3]]) tp := h2.tape.app
  obtain ⟨i1, M11, j1, j2, j3, j4, j5⟩ := P__law_pick (m := 5) T10 (by omega)
  obtain ⟨i2, M12, k1, k2, k3, k4, k5⟩ := P__law_pick (m := 5) j2.tape (by omega)
  have hp4 := e2.tape.lt
  have hp7 := g2.tape.lt
  have hp9 := h2.tape.lt
  have l4 : (M4 ++ [C.lst [o1, .int ((rows.length : Int) - d2), .int d3, .int (-1), .int ((rows.length : Int) + 1)]])[M4.length]? = some (.lst [o1, .int ((rows.length : Int) - d2), .int d3, .int (-1), .int ((rows.length : Int) + 1)]) := List.getElem?_concat_length
  have s610 : TStep (M4 ++ [C.lst [o1, .int ((rows.length : Int) - d2), .int d3, .int (-1), .int ((rows.length : Int) + 1)]]) (M9 ++ [.lst [.tup (Ls.map .str), .tup (Ls.map .str), o2, .ob M7.length, o3]]) tp := (((f2.trans g2).appR).trans h2).appR
  have l9 := (s610.trans j2).get l4 (by omega)
  have l11 : (M9 ++ [C.lst [.tup (Ls.map .str), .tup (Ls.map .str), o2, .ob M7.length, o3]])[M9.length]? = some (.lst [.tup (Ls.map .str), .tup (Ls.map .str), o2, .ob M7.length, o3]) := List.getElem?_concat_length
  have l12 := (j2.trans k2).get l11 (by omega)
  obtain ⟨a, ha, _, ea⟩ := ix_pick l9 ⟨j4, j5⟩
  obtain ⟨c, hc, _, ec⟩ := ix_pick l12 ⟨k4, k5⟩
  have kA : Kin M2 M12 := (((((kin_t b2.tape c2).trans (kin_t c2.tape e2)).trans Kin.app).trans (kin_t T5 s610)).trans (kin_t T10 j2)).trans (kin_t j2.tape k2)
  have kB : Kin M7 M12 := (((Kin.app.trans (kin_t T8 h2)).trans Kin.app).trans (kin_t T10 j2)).trans (kin_t j2.tape k2)
  refine ⟨d8, .ob M4.length, .tup (Ls.map .str), .ob M9.length, a, c, M12, fun s => ?_, (s5.trans s610).trans (j2.trans k2), a4, a5, ?_, ?_⟩
  · have hli : listT [.tup (Ls.map .str)] M7 = .ok (.ob M7.length) (M7 ++ [.lst (Ls.map .str)]) := rfl
    simp only [bind_ok, bind_ex, bind_no, toS_ok, toS_ex, toS_no, sb_nx, sb_rt, sb_bk, sb_ct, sb_ex, sb_no, tu_nx, tu_ct, tu_bk, tu_rt, tu_ex, on_nx, on_ex, dV_, dC_, dBin_, dUn_, dNilA_, dConsA_, dTup_, dLst_, asB_bl, dB_, dAndB_, dOrB_, dNotB_, dAnd_, dOr_, dNot_, dIf_, dCallB_, dCall_, dMeth_, dFld_, dSetF_, dMake_, dNoPart_, asI_int, dPart_, dSlice_, dDic_, dChain_, dSeq_, dNil_, dPass_, dBreak_, dCont_, dExpr_, dRet_, dRetN_, dSet_, dIfS_, gN_, gsN_, gsC_, gT_, gSub_, dAsg_, dRaise_, dRaiseA_, dFor_, wSeq_, wEn_, wRng_, dLc_, dYes_, wipeT_nil, wipeT_cons, endF_nx, endF_rt, endF_ex, chk_str, chk_tup, items_str, items_tup, items_ob, seq_tup, len_tup, add_int, sub_int, lt_int', le_int', gt_int', ge_int', lt_str', gt_str', eq_int', eq_str', ne_int', ne_str', neg_int, int_int, int_bl, isnot_non, is_non, dFn1, dFn2, dFn3, dFn4, dFn5, List.replicate_succ, List.replicate_zero, List.getElem?_cons_zero, List.getElem?_cons_succ, List.set_cons_zero, List.set_cons_succ, List.length_cons, List.length_nil, if_true_, if_false_, if_T_, if_F_, Bool.not_true, Bool.not_false, Nat.reduceAdd, Nat.reduceSub, Nat.reduceLeDiff, Int.reduceSub, Int.reduceAdd, ge_iff_le, List.map_cons, List.map_nil, List.cons_append, List.nil_append, a1, b1, c1, e1, if_pos (le_line' (n := 5) (by decide)), f1, g1, hli, h1, j1, ea, k1, ec, if_pos (le_line' (n := 2) (by decide))]
  · simp only [List.mem_cons, List.not_mem_nil, or_false] at ha
    rcases ha with rfl | rfl | rfl | rfl | rfl
    · exact kA.things b3
    · exact okP_things rfl
    · exact okP_things rfl
    · exact okP_things rfl
    · exact okP_things rfl
  · simp only [List.mem_cons, List.not_mem_nil, or_false] at hc
    rcases hc with rfl | rfl | rfl | rfl | rfl
    · exact okP_things f5
    · exact okP_things f5
    · exact kB.things g3
    · refine ob_things (c := .lst (Ls.map .str)) ((((h2.appR).trans j2).trans k2).get List.getElem?_concat_length (by omega)) trivial
    · exact h3 _
end
end HB

set_option maxHeartbeats 1000000
namespace HB
open PySem DN
theorem sp1 : decide (("place" : PySem.Str) = "done") = false := by decide +kernel
theorem sp2 : decide (("lot" : PySem.Str) = "done") = false := by decide +kernel
theorem sp3 : decide (("many" : PySem.Str) = "done") = false := by decide +kernel
theorem sp4 : decide (("seat" : PySem.Str) = "done") = false := by decide +kernel
section
variable {M : Mem} {tp b hp e : Nat} {m : PySem.Str} {E : List PySem.Str} {rows pasts : List T}
theorem law_rest (L : LS M tp b hp e m E rows pasts) (hm : m ∈ marksL) (R : Rows m rows) (hpr : pasts.length = rows.length) (d : Int) (hd : 0 ≤ d ∧ d < 3) (u5 v9 v10 v11 a c : T) (h1 : Things cs a M) (h2 : Things cs c M) (x7 x13 : Option T) :
    ∃ x, (dSeq (dSet 13 (dCall d__law_due (dConsA (dV 2) (dConsA (dV 6) (dConsA (dV 8) (dConsA (dBin ixT (dV 12) (dC (.int 0))) (dConsA (dBin ixT (dV 12) (dC (.int 1))) dNilA)))))))
 (dSeq (dIfS (dB (dBin neT (dCall d__law_asked (dConsA (dV 4) (dConsA (dV 8) (dConsA (dBin ixT (dV 12) (dC (.int 0))) (dConsA (dBin ixT (dV 12) (dC (.int 1))) dNilA))))) (dV 13))) (dRet (dC (.bl false)))
 dNil)
 (dSeq (dIfS (dB (dBin eqT (dV 13) (dC (.str "done")))) (dExpr (dMeth (isIns "Bench" "back") d_Bench_back (dV 4) dNilA))
 dNil)
 (dIfS (dNotB (dB (dCall d__law_stands (dConsA (dV 4) (dConsA (dV 2) (dConsA (dV 6) (dConsA (dCallB lenT (dConsA (dV 6) dNilA)) dNilA))))))) (dRet (dC (.bl false)))
 dNil)))) [some (.ob 0), some (.ob tp), some (.str m), some (.ob e), some (.ob b), some u5, some (.tup rows), x7, some (.int d), some v9, some v10, some v11, some (.tup [a, c]), x13] M =
      .nx [some (.ob 0), some (.ob tp), some (.str m), some (.ob e), some (.ob b), some u5, some (.tup rows), x7, some (.int d), some v9, some v10, some v11, some (.tup [a, c]), x] M := by
  have i0 : ∀ M : Mem, ixT (.tup [a, c]) (.int 0) M = .ok a M := fun M => ix_tup' (j := 0) rfl rfl
  have i1 : ∀ M : Mem, ixT (.tup [a, c]) (.int 1) M = .ok c M := fun M => ix_tup' (j := 1) rfl rfl
  have hs := P__law_stands L.bench (marksB_of hm) (mOk_of hm) R
  rw [hpr] at hs
  have hf := R.few
  -- what is due is what is told, and a deed is taken back
  have plain : ∀ told : PySem.Str, d__law_due [.str m, .tup rows, .int d, a, c] M = .ok (.str told) M → d__law_asked [.ob b, .int d, a, c] M = .ok (.str told) M → decide (told = "done") = false → _ := fun told e1 e2 e3 =>
    (show ∃ x, (dSeq (dSet 13 (dCall d__law_due (dConsA (dV 2) (dConsA (dV 6) (dConsA (dV 8) (dConsA (dBin ixT (dV 12) (dC (.int 0))) (dConsA (dBin ixT (dV 12) (dC (.int 1))) dNilA)))))))
 (dSeq (dIfS (dB (dBin neT (dCall d__law_asked (dConsA (dV 4) (dConsA (dV 8) (dConsA (dBin ixT (dV 12) (dC (.int 0))) (dConsA (dBin ixT (dV 12) (dC (.int 1))) dNilA))))) (dV 13))) (dRet (dC (.bl false)))
 dNil)
 (dSeq (dIfS (dB (dBin eqT (dV 13) (dC (.str "done")))) (dExpr (dMeth (isIns "Bench" "back") d_Bench_back (dV 4) dNilA))
 dNil)
 (dIfS (dNotB (dB (dCall d__law_stands (dConsA (dV 4) (dConsA (dV 2) (dConsA (dV 6) (dConsA (dCallB lenT (dConsA (dV 6) dNilA)) dNilA))))))) (dRet (dC (.bl false)))
 dNil)))) [some (.ob 0), some (.ob tp), some (.str m), some (.ob e), some (.ob b), some u5, some (.tup rows), x7, some (.int d), some v9, some v10, some v11, some (.tup [a, c]), x13] M =
      .nx [some (.ob 0), some (.ob tp), some (.str m), some (.ob e), some (.ob b), some u5, some (.tup rows), x7, some (.int d), some v9, some v10, some v11, some (.tup [a, c]), x] M from by
      refine ⟨some (.str told), ?_⟩
      simp only [bind_ok, bind_ex, bind_no, toS_ok, toS_ex, toS_no, sb_nx, sb_rt, sb_bk, sb_ct, sb_ex, sb_no, tu_nx, tu_ct, tu_bk, tu_rt, tu_ex, on_nx, on_ex, dV_, dC_, dBin_, dUn_, dNilA_, dConsA_, dTup_, dLst_, asB_bl, dB_, dAndB_, dOrB_, dNotB_, dAnd_, dOr_, dNot_, dIf_, dCallB_, dCall_, dMeth_, dFld_, dSetF_, dMake_, dNoPart_, asI_int, dPart_, dSlice_, dDic_, dChain_, dSeq_, dNil_, dPass_, dBreak_, dCont_, dExpr_, dRet_, dRetN_, dSet_, dIfS_, gN_, gsN_, gsC_, gT_, gSub_, dAsg_, dRaise_, dRaiseA_, dFor_, wSeq_, wEn_, wRng_, dLc_, dYes_, wipeT_nil, wipeT_cons, endF_nx, endF_rt, endF_ex, chk_str, chk_tup, items_str, items_tup, items_ob, seq_tup, len_tup, add_int, sub_int, lt_int', le_int', gt_int', ge_int', lt_str', gt_str', eq_int', eq_str', ne_int', ne_str', neg_int, int_int, int_bl, isnot_non, is_non, dFn1, dFn2, dFn3, dFn4, dFn5, List.replicate_succ, List.replicate_zero, List.getElem?_cons_zero, List.getElem?_cons_succ, List.set_cons_zero, List.set_cons_succ, List.length_cons, List.length_nil, if_true_, if_false_, if_T_, if_F_, Bool.not_true, Bool.not_false, Nat.reduceAdd, Nat.reduceSub, Nat.reduceLeDiff, Int.reduceSub, Int.reduceAdd, ge_iff_le, List.map_cons, List.map_nil, List.cons_append, List.nil_append, i0, i1, e1, e2, decide_true, e3, hs])
  have deed : ∀ r : List T, r.length ≤ 41 → d__law_due [.str m, .tup rows, .int d, a, c] M = .ok (.str "done") M → d__law_asked [.ob b, .int d, a, c] M = .ok (.str "done") (done M b hp m rows pasts r) → _ := fun r hr e1 e2 =>
    (show ∃ x, (dSeq (dSet 13 (dCall d__law_due (dConsA (dV 2) (dConsA (dV 6) (dConsA (dV 8) (dConsA (dBin ixT (dV 12) (dC (.int 0))) (dConsA (dBin ixT (dV 12) (dC (.int 1))) dNilA)))))))
 (dSeq (dIfS (dB (dBin neT (dCall d__law_asked (dConsA (dV 4) (dConsA (dV 8) (dConsA (dBin ixT (dV 12) (dC (.int 0))) (dConsA (dBin ixT (dV 12) (dC (.int 1))) dNilA))))) (dV 13))) (dRet (dC (.bl false)))
 dNil)
 (dSeq (dIfS (dB (dBin eqT (dV 13) (dC (.str "done")))) (dExpr (dMeth (isIns "Bench" "back") d_Bench_back (dV 4) dNilA))
 dNil)
 (dIfS (dNotB (dB (dCall d__law_stands (dConsA (dV 4) (dConsA (dV 2) (dConsA (dV 6) (dConsA (dCallB lenT (dConsA (dV 6) dNilA)) dNilA))))))) (dRet (dC (.bl false)))
 dNil)))) [some (.ob 0), some (.ob tp), some (.str m), some (.ob e), some (.ob b), some u5, some (.tup rows), x7, some (.int d), some v9, some v10, some v11, some (.tup [a, c]), x13] M =
      .nx [some (.ob 0), some (.ob tp), some (.str m), some (.ob e), some (.ob b), some u5, some (.tup rows), x7, some (.int d), some v9, some v10, some v11, some (.tup [a, c]), x] M from by
      refine ⟨some (.str "done"), ?_⟩
      have B := done_at L.bench hr (by omega)
      simp only [bind_ok, bind_ex, bind_no, toS_ok, toS_ex, toS_no, sb_nx, sb_rt, sb_bk, sb_ct, sb_ex, sb_no, tu_nx, tu_ct, tu_bk, tu_rt, tu_ex, on_nx, on_ex, dV_, dC_, dBin_, dUn_, dNilA_, dConsA_, dTup_, dLst_, asB_bl, dB_, dAndB_, dOrB_, dNotB_, dAnd_, dOr_, dNot_, dIf_, dCallB_, dCall_, dMeth_, dFld_, dSetF_, dMake_, dNoPart_, asI_int, dPart_, dSlice_, dDic_, dChain_, dSeq_, dNil_, dPass_, dBreak_, dCont_, dExpr_, dRet_, dRetN_, dSet_, dIfS_, gN_, gsN_, gsC_, gT_, gSub_, dAsg_, dRaise_, dRaiseA_, dFor_, wSeq_, wEn_, wRng_, dLc_, dYes_, wipeT_nil, wipeT_cons, endF_nx, endF_rt, endF_ex, chk_str, chk_tup, items_str, items_tup, items_ob, seq_tup, len_tup, add_int, sub_int, lt_int', le_int', gt_int', ge_int', lt_str', gt_str', eq_int', eq_str', ne_int', ne_str', neg_int, int_int, int_bl, isnot_non, is_non, dFn1, dFn2, dFn3, dFn4, dFn5, List.replicate_succ, List.replicate_zero, List.getElem?_cons_zero, List.getElem?_cons_succ, List.set_cons_zero, List.set_cons_succ, List.length_cons, List.length_nil, if_true_, if_false_, if_T_, if_F_, Bool.not_true, Bool.not_false, Nat.reduceAdd, Nat.reduceSub, Nat.reduceLeDiff, Int.reduceSub, Int.reduceAdd, ge_iff_le, List.map_cons, List.map_nil, List.cons_append, List.nil_append, i0, i1, e1, e2, decide_true, isIns_b (n := "back") B.b rfl, back_done L.bench hr (by omega), hs])
  have hd3 : d = 0 ∨ d = 1 ∨ d = 2 := by omega
  rcases hd3 with rfl | rfl | rfl
  · have e1 := due_put (M := M) (m := m) (rows := rows) h1.toThing h2
    have e2 := asked_put L.bench h1.toThing h2
    by_cases q1 : isWithin 0 rows.length a = true
    · rw [if_pos q1] at e1 e2
      by_cases q2 : isLot m c = true
      · rw [if_pos q2] at e1 e2
        by_cases q3 : rows.length = 40
        · rw [if_pos q3] at e1 e2
          exact plain _ e1 e2 sp3
        · rw [if_neg q3] at e1 e2
          refine deed _ ?_ e1 e2
          cases a with
          | int i => simp; omega
          | _ => simp
      · rw [if_neg q2] at e1 e2
        exact plain _ e1 e2 sp2
    · rw [if_neg q1] at e1 e2
      exact plain _ e1 e2 sp1
  · have e1 := due_other (M := M) (m := m) (rows := rows) (lot := c) (w := 1) (by omega) h1.toThing
    obtain ⟨r, hr, e2⟩ := asked_strike (lot := c) L.bench h1.toThing
    by_cases q1 : isWithin 0 ((rows.length : Int) - 1) a = true
    · rw [if_pos q1] at e1 e2
      exact deed r hr e1 e2
    · rw [if_neg q1] at e1 e2
      exact plain _ e1 e2 sp4
  · have e1 := due_other (M := M) (m := m) (rows := rows) (lot := c) (w := 2) (by omega) h1.toThing
    obtain ⟨r, hr, e2⟩ := asked_shift (lot := c) L.bench h1.toThing
    by_cases q1 : isWithin 0 ((rows.length : Int) - 2) a = true
    · rw [if_pos q1] at e1 e2
      exact deed r hr e1 e2
    · rw [if_neg q1] at e1 e2
      exact plain _ e1 e2 sp4
end
theorem law_true {ns : List Int} (hl : ns.length ≤ 63) : ∃ M', d_law [.ob 0] [.ro (ns.map .int)] = .ok (.bl true) M' := by
  obtain ⟨M, tp, b, hp, e, m, begin_, L, hm⟩ := law_begin hl
  have hE := goodE_ok (good_marks m hm)
  obtain ⟨u5, M1, mid, L1⟩ := law_mid L hm [none, none, none, none, none, none, none]
  obtain ⟨n, M2, many, st2, hn0, hn1⟩ := law_many L1 [some (.str m), some (.ob e), some (.ob b), some u5, some (.tup []), none, none, none, none, none, none, none]
  have L2 := L1.t st2
  obtain ⟨rows, pasts, x7, M3, build, L3, R, hpr⟩ := law_build L2 hE (rngT 0 n.toNat) (by rw [rngT_len]; omega) (fun k h => by simp [rngT]) u5 [none, none, none, none, none, none]
  have main : ∀ (us0 : List T), ∃ y7 y8 y9 y10 y11 y12 y13 M4, loopF (fun _ => true) (gN 7)
        (dSeq (dSet 8 (dCall d__law_pick (dConsA (dV 1) (dConsA (dC (.int 3)) dNilA))))
        (dSeq (dSet 9 (dLst (dConsA (dCall d__law_odd (dConsA (dV 1) dNilA)) (dConsA (dBin subT (dCallB lenT (dConsA (dV 6) dNilA)) (dCall d__law_pick (dConsA (dV 1) (dConsA (dC (.int 3)) dNilA)))) (dConsA (dCall d__law_pick (dConsA (dV 1) (dConsA (dBin addT (dCallB lenT (dConsA (dV 6) dNilA)) (dC (.int 2))) dNilA))) (dConsA (dUn negT (dC (.int 1))) (dConsA (dBin addT (dCallB lenT (dConsA (dV 6) dNilA)) (dC (.int 1))) dNilA)))))))
        (dSeq (dSet 10 (dCall d__law_lot (dConsA (dV 1) (dConsA (dV 3) dNilA))))
        (dSeq (dSet 11 (dLst (dConsA (dV 10) (dConsA (dV 10) (dConsA (dCall d__law_odd (dConsA (dV 1) dNilA)) (dConsA (dCallB listT (dConsA (dV 10) dNilA)) (dConsA (dCall d__law_deep (dConsA (dV 1) dNilA)) dNilA)))))))
        (dSeq (dSet 12 (dTup (dConsA (dBin ixT (dV 9) (dCall d__law_pick (dConsA (dV 1) (dConsA (dC (.int 5)) dNilA)))) (dConsA (dBin ixT (dV 11) (dCall d__law_pick (dConsA (dV 1) (dConsA (dC (.int 5)) dNilA)))) dNilA))))
        (dSeq (dSet 13 (dCall d__law_due (dConsA (dV 2) (dConsA (dV 6) (dConsA (dV 8) (dConsA (dBin ixT (dV 12) (dC (.int 0))) (dConsA (dBin ixT (dV 12) (dC (.int 1))) dNilA)))))))
        (dSeq (dIfS (dB (dBin neT (dCall d__law_asked (dConsA (dV 4) (dConsA (dV 8) (dConsA (dBin ixT (dV 12) (dC (.int 0))) (dConsA (dBin ixT (dV 12) (dC (.int 1))) dNilA))))) (dV 13))) (dRet (dC (.bl false)))
        dNil)
        (dSeq (dIfS (dB (dBin eqT (dV 13) (dC (.str "done")))) (dExpr (dMeth (isIns "Bench" "back") d_Bench_back (dV 4) dNilA))
        dNil)
        (dIfS (dNotB (dB (dCall d__law_stands (dConsA (dV 4) (dConsA (dV 2) (dConsA (dV 6) (dConsA (dCallB lenT (dConsA (dV 6) dNilA)) dNilA))))))) (dRet (dC (.bl false)))
        dNil))))))))) us0 [some (.ob 0), some (.ob tp), some (.str m), some (.ob e), some (.ob b), some u5, some (.tup rows), x7, none, none, none, none, none, none] M3 =
      .nx [some (.ob 0), some (.ob tp), some (.str m), some (.ob e), some (.ob b), some u5, some (.tup rows), y7, y8, y9, y10, y11, y12, y13] M4 := by
    intro us0
    generalize hr : loopF (fun _ => true) (gN 7) _ us0 _ M3 = r
    subst hr
    refine loopF_run (fun us ρ M' => ∃ y7 y8 y9 y10 y11 y12 y13, ρ = [some (.ob 0), some (.ob tp), some (.str m), some (.ob e), some (.ob b), some u5, some (.tup rows), y7, y8, y9, y10, y11, y12, y13] ∧ LS M' tp b hp e m (kindsF m) rows pasts)
      (fun r => ∃ y7 y8 y9 y10 y11 y12 y13 M4, r = .nx [some (.ob 0), some (.ob tp), some (.str m), some (.ob e), some (.ob b), some u5, some (.tup rows), y7, y8, y9, y10, y11, y12, y13] M4) ?_ ?_ _ _ _ ?_
    · rintro ρ M' ⟨y7, y8, y9, y10, y11, y12, y13, rfl, _⟩
      exact ⟨rfl, y7, y8, y9, y10, y11, y12, y13, M', rfl⟩
    · rintro u us ρ M' ⟨y7, y8, y9, y10, y11, y12, y13, rfl, L'⟩
      obtain ⟨d, v9, v10, v11, a, c, M5, dr, st, h0, h3, ha, hc⟩ := law_draw L' hE R.few u5 (some u) y8 y9 y10 y11 y12 y13
      have L5 := L'.t st
      obtain ⟨x, re⟩ := law_rest L5 hm R hpr d ⟨h0, h3⟩ u5 v9 v10 v11 a c ha hc (some u) y13
      exact ⟨rfl, [some (.ob 0), some (.ob tp), some (.str m), some (.ob e), some (.ob b), some u5, some (.tup rows), some u, y8, y9, y10, y11, y12, y13], M', rfl, .inl ⟨_, M5, (dr _).trans re, some u, some (.int d), some v9, some v10, some v11, some (.tup [a, c]), x, rfl, L5⟩⟩
    · exact ⟨x7, none, none, none, none, none, none, rfl, L3⟩
  obtain ⟨y7, y8, y9, y10, y11, y12, y13, M4, main⟩ := main (rngT 0 14)
  have ef : dFn 1 14 b_law [.ob 0] [.ro (ns.map .int)] = .ok (.bl true) M4 := by
    rw [show dFn 1 14 b_law [.ob 0] [.ro (ns.map .int)] = endF (b_law [some (.ob 0), none, none, none, none, none, none, none, none, none, none, none, none, none] [.ro (ns.map .int)]) from rfl]
    rw [b_law]
    rw [begin_ _ [none, none, none, none, none, none, none, none, none], mid]
    rw [dSeq_, dFor_, wRng_]
    have hw : dConsA (dBin ixT (dLst (dConsA (dCall d__law_pick (dConsA (dV 1) (dConsA (dC (.int 7)) dNilA))) (dConsA (dC (.int 39)) (dConsA (dC (.int 40)) dNilA)))) (dCallB max2T (dConsA (dC (.int 0)) (dConsA (dBin subT (dCall d__law_pick (dConsA (dV 1) (dConsA (dC (.int 6)) dNilA))) (dC (.int 3))) dNilA)))) dNilA [some (.ob 0), some (.ob tp), some (.str m), some (.ob e), some (.ob b), some u5, some (.tup []), none, none, none, none, none, none, none] M1 = .ok [.int n] M2 := by
      rw [dConsA_, many]
      rfl
    rw [hw, bind_ok, rng_ok1 (by omega), toS_ok]
    have e0 : (rngT 0 n.toNat) = rngT 0 n.toNat := rfl
    rw [build, sb_nx, dSeq_, dFor_, wRng_]
    have hw2 : dConsA (dC (.int 14)) dNilA [some (.ob 0), some (.ob tp), some (.str m), some (.ob e), some (.ob b), some u5, some (.tup rows), x7, none, none, none, none, none, none] M3 = .ok [.int 14] M3 := rfl
    rw [hw2, bind_ok, rng_ok1 (by omega), toS_ok]
    have e14 : Int.toNat 14 = 14 := rfl
    rw [e14, main]
    rfl
  by_cases hc : (gcOk [C.ro (ns.map T.int)].length [.ro (ns.map .int)] M4 && clT [C.ro (ns.map T.int)].length (.bl true)) = true
  · exact ⟨_, by unfold d_law gcF; rw [ef]; unfold gcR; dsimp only; rw [if_pos hc]⟩
  · exact ⟨_, by unfold d_law gcF; rw [ef]; unfold gcR; dsimp only; rw [if_neg hc]⟩
end HB

open PySem PySem.W PySem.Calls PyProof.Rows
theorem PySem.Challenge.cw_narrowahead_k87_benches_refuse_holds : PySem.Challenge.rw_narrowahead_k87_benches_refuse.Holds := by
  w_on; o_law
  refine HandSHeadRun.head_any (r := OpenLaw.row PySem.Challenge.rw_narrowahead_k87_benches_refuse) (q := view (OpenLaw.row PySem.Challenge.rw_narrowahead_k87_benches_refuse).prog [49]) (H := HB.hk) (ob := HB.ob) (M := 6000) (loose := HB.names) (d := HandSHeadRun.topDef (OpenLaw.row PySem.Challenge.rw_narrowahead_k87_benches_refuse).prog 49) (kwd := []) HB.ob_eq
    (by kernel_rfl) (fun s => by kernel_rfl) HB.run (by kernel_rfl) (by kernel_rfl) (by kernel_rfl) (by rfl) (by first | assumption | decide +kernel) (by decide +kernel) ⟨rfl, rfl, rfl, rfl, rfl, by decide +kernel⟩ ?hw ?hc
  case hw => w_witness2
  case hc =>
    refine L2.walk_ofE (l := PySem.Challenge.rw_narrowahead_k87_benches_refuse) (n := 63) (k := 9) (x := "_law_script") (CX := DN.CXn) rfl (by decide) (by kernel_rfl) ⟨rfl, by decide, by decide⟩ ?F (fun _ _ _ _ z => z)
    intro w mg fa h Y G hmg0
    obtain ⟨K, KX, c⟩ := Y
    have hmg : mg ("law" : PySem.Str) = some (.ref fa) := by
      have e : (HandSHeadRun.topDef (OpenLaw.row PySem.Challenge.rw_narrowahead_k87_benches_refuse).prog 49).name = ("law" : PySem.Str) := by kernel_rfl
      rw [← e]
      exact hmg0
    have C : HB.Cc w h K mg := ⟨KX, G, c⟩
    obtain ⟨fd, hb, hF⟩ := HB.okL (P := (PySem.Challenge.rw_narrowahead_k87_benches_refuse).prog) C
    have eg := hmg.symm.trans (HB.g_law C)
    cases eg
    exact ⟨K, fd, DN.spL K (He.ga K) HB.d_law, KX, hb, fun H a ns hl hO hS => DN.law_sp hO hS (HB.law_true hl), fun base _ _ => hF base⟩
