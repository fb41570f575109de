import PyProof.Rows.All
import Wide.All
import OpenK.AllK
import Wide.FinOn
import HandS.ForMost
import HandS.WordsExc
import HandS.CallSlots
import HandS.IsInst
import HandS.TupAny
import KE.DataEq
import PySem.Challenge.RW_struckbodies_k02_pending_exit
set_option Elab.async false
set_option linter.all false
set_option maxRecDepth 100000
set_option maxHeartbeats 2000000
/-! A second layer over HandS: expressions and statements as plain functions over data without addresses. -/
namespace DL
open PySem PySem.Spec L2
open PyProof.Rows hiding St

/-- a value without addresses: tuples are data, mutable objects are numbers -/
inductive D where
  | non | bl (b : Bool) | int (i : Int) | str (s : Str) | tup (ds : List D) | rol (ds : List D) | obj (i : Nat) | cl (n : Nat) | ty (n : String)
/-- a mutable object -/
inductive MO where
  | lst (ds : List D)
  | ins (C : Nat) (fs : List (Str × D))
  | dic (kvs : List (Key × D))
abbrev DM := List MO
abbrev DSt := List (Option D)
/-- an exception of an own class -/
structure Ex where
  cls : Nat
  fs : List (Str × D)
inductive Rs (α : Type) where
  | ok (a : α) (M : DM)
  | ex (e : Ex) (M : DM)
  | bad
inductive Ro where
  | nx (δ : DSt) (M : DM)
  | rt (d : D) (M : DM)
  | bk (δ : DSt) (M : DM)
  | ct (δ : DSt) (M : DM)
  | ex (e : Ex) (δ : DSt) (M : DM)
  | bad
def Rs.bind {α β : Type} (r : Rs α) (k : α → DM → Rs β) : Rs β := match r with
  | .ok a M => k a M
  | .ex e M => .ex e M
  | .bad => .bad
def Rs.ro {α : Type} (r : Rs α) (δ : DSt) (k : α → DM → Ro) : Ro := match r with
  | .ok a M => k a M
  | .ex e M => .ex e δ M
  | .bad => .bad
def Ro.seq (r : Ro) (k : DSt → DM → Ro) : Ro := match r with
  | .nx δ M => k δ M
  | .rt d M => .rt d M
  | .bk δ M => .bk δ M
  | .ct δ M => .ct δ M
  | .ex e δ M => .ex e δ M
  | .bad => .bad
def Ro.fin (r : Ro) : Rs D := match r with
  | .nx _ M => .ok .non M
  | .rt d M => .ok d M
  | .bk _ _ => .bad
  | .ct _ _ => .bad
  | .ex e _ M => .ex e M
  | .bad => .bad
abbrev FE := DSt → DM → Rs D
abbrev FT := DSt → DM → Rs Bool
abbrev FA := DSt → DM → Rs (List D)
abbrev FS := DSt → DM → Ro

/-- what the module says -/
structure Ctx where
  P : Program
  w : World
  K : PySem.W.Frag
  mg : Str → Option Value
  base : Heap
  cl : Nat → Addr

/-- a tuple that stays: tracked or written -/
def TupAt (K : PySem.W.Frag) (H : Hp) (a : Addr) (xs : List V) : Prop :=
  H a = some (.tup xs) ∨ ∃ (o : Obj) (its : Array Value) (n : Nat), K.lookup a = some o ∧ o.cls = .type "tuple" ∧ o.data = .seq its n ∧ its.size ≤ sizeLine ∧ Vals xs its.toList
/-- a list that stays: locked or written -/
def RolAt (K : PySem.W.Frag) (H : Hp) (a : Addr) (xs : List V) : Prop :=
  (∃ o, H a = some (.frz o (.lst xs))) ∨ ∃ (o : Obj) (its : Array Value) (n : Nat), K.lookup a = some o ∧ o.cls = .type "list" ∧ o.dict = none ∧ o.data = .seq its n ∧ its.size ≤ sizeLine ∧ Vals xs its.toList
theorem TupAt.sq {K : PySem.W.Frag} {H : Hp} {a : Addr} {xs : List V} (h : TupAt K H a xs) : SqT K H a xs := by
  rcases h with h | h
  · exact .inl (.inl h)
  · exact .inr h
theorem RolAt.sq {K : PySem.W.Frag} {H : Hp} {a : Addr} {xs : List V} (h : RolAt K H a xs) : SqL K H a xs := by
  rcases h with ⟨o, h⟩ | h
  · exact .inl (.inr ⟨o, h⟩)
  · exact .inr h

mutual
def RD (c : Ctx) (ρ : List Addr) (H : Hp) : D → V → Prop
  | .non, v => v = .non
  | .bl b, v => v = .bl b
  | .int i, v => v = .int i
  | .str s, v => v = .str s
  | .tup ds, v => ∃ a xs, v = .ref a ∧ TupAt c.K H a xs ∧ RDs c ρ H ds xs
  | .rol ds, v => ∃ a xs, v = .ref a ∧ RolAt c.K H a xs ∧ RDs c ρ H ds xs
  | .obj i, v => ∃ a, v = .ref a ∧ ρ[i]? = some a
  | .cl n, v => v = .ref (c.cl n)
  | .ty n, v => v = .ty n
def RDs (c : Ctx) (ρ : List Addr) (H : Hp) : List D → List V → Prop
  | [], vs => vs = []
  | d :: ds, vs => ∃ x xs, vs = x :: xs ∧ RD c ρ H d x ∧ RDs c ρ H ds xs
end
def RF (c : Ctx) (ρ : List Addr) (H : Hp) : List (Str × D) → List (Str × V) → Prop
  | [], vs => vs = []
  | (n, d) :: ds, vs => ∃ x xs, vs = (n, x) :: xs ∧ RD c ρ H d x ∧ RF c ρ H ds xs
def RK (c : Ctx) (ρ : List Addr) (H : Hp) : List (Key × D) → List (Key × V) → Prop
  | [], vs => vs = []
  | (n, d) :: ds, vs => ∃ x xs, vs = (n, x) :: xs ∧ RD c ρ H d x ∧ RK c ρ H ds xs
/-- an object stands for mo -/
def RO (c : Ctx) (ρ : List Addr) (H : Hp) (a : Addr) : MO → Prop
  | .lst ds => ∃ xs, H a = some (.lst xs) ∧ RDs c ρ H ds xs
  | .ins C fs => ∃ dx vs, H a = some (.ins (c.cl C) dx vs) ∧ RF c ρ H fs vs
  | .dic kvs => ∃ ws, H a = some (.dK ws) ∧ RK c ρ H kvs ws
structure Ext (ρ : List Addr) (H : Hp) (ρ' : List Addr) (H' : Hp) : Prop where
  pre : ∃ τ, ρ' = ρ ++ τ
  tup : ∀ a xs, H a = some (.tup xs) → H' a = some (.tup xs)
  frz : ∀ a o xs, H a = some (.frz o (.lst xs)) → H' a = some (.frz o (.lst xs))
structure Rep (c : Ctx) (ρ : List Addr) (M : DM) (H : Hp) : Prop where
  len : ρ.length = M.length
  nd : ρ.Nodup
  at_ : ∀ (i : Nat) (mo : MO) (a : Addr), M[i]? = some mo → ρ[i]? = some a → RO c ρ H a mo
structure RS (c : Ctx) (ρ : List Addr) (H : Hp) (δ : DSt) (σ : St) : Prop where
  len : δ.length = σ.length
  get : ∀ (i : Nat) (d : D), δ[i]? = some (some d) → ∃ v, σ[i]? = some (some v) ∧ RD c ρ H d v
/-- an exception as it lies -/
def RX (c : Ctx) (ρ : List Addr) (H : Hp) (e : Ex) (cls : Value) (od : Option Addr) : Prop :=
  cls = .ref (c.cl e.cls) ∧ ((e.fs = [] ∧ od = none) ∨ ∃ d vs, od = some d ∧ H d = some (.xd vs) ∧ RF c ρ H e.fs vs)

section
variable {c : Ctx} {ρ ρ' ρ'' : List Addr} {H H' H'' : Hp}
theorem Ext.refl : Ext ρ H ρ H := ⟨⟨[], by simp⟩, fun _ _ h => h, fun _ _ _ h => h⟩
theorem Ext.trans (a : Ext ρ H ρ' H') (b : Ext ρ' H' ρ'' H'') : Ext ρ H ρ'' H'' := by
  obtain ⟨t, e⟩ := a.pre
  obtain ⟨u, e'⟩ := b.pre
  exact ⟨⟨t ++ u, by rw [e', e, List.append_assoc]⟩, fun x y h => b.tup x y (a.tup x y h), fun x o y h => b.frz x o y (a.frz x o y h)⟩
theorem Ext.get (a : Ext ρ H ρ' H') {i : Nat} {p : Addr} (h : ρ[i]? = some p) : ρ'[i]? = some p := by
  obtain ⟨t, e⟩ := a.pre
  have hl := (List.getElem?_eq_some_iff.mp h).1
  rw [e, List.getElem?_append_left hl]
  exact h
theorem TupAt.mono {a : Addr} {xs : List V} (e : Ext ρ H ρ' H') (h : TupAt c.K H a xs) : TupAt c.K H' a xs := by
  rcases h with h | h
  · exact .inl (e.tup _ _ h)
  · exact .inr h
theorem RolAt.mono {a : Addr} {xs : List V} (e : Ext ρ H ρ' H') (h : RolAt c.K H a xs) : RolAt c.K H' a xs := by
  rcases h with ⟨o, h⟩ | h
  · exact .inl ⟨o, e.frz _ _ _ h⟩
  · exact .inr h
mutual
theorem RD.mono (e : Ext ρ H ρ' H') : ∀ (d : D) (v : V), RD c ρ H d v → RD c ρ' H' d v
  | .non, v, h => by simpa only [RD] using h
  | .bl b, v, h => by simpa only [RD] using h
  | .int i, v, h => by simpa only [RD] using h
  | .str s, v, h => by simpa only [RD] using h
  | .tup ds, v, h => by
    simp only [RD] at h ⊢
    obtain ⟨a, xs, e1, h1, h2⟩ := h
    exact ⟨a, xs, e1, h1.mono e, RDs.mono e ds xs h2⟩
  | .rol ds, v, h => by
    simp only [RD] at h ⊢
    obtain ⟨a, xs, e1, h1, h2⟩ := h
    exact ⟨a, xs, e1, h1.mono e, RDs.mono e ds xs h2⟩
  | .obj i, v, h => by
    simp only [RD] at h ⊢
    obtain ⟨a, e1, h1⟩ := h
    exact ⟨a, e1, e.get h1⟩
  | .cl n, v, h => by simpa only [RD] using h
  | .ty n, v, h => by simpa only [RD] using h
theorem RDs.mono (e : Ext ρ H ρ' H') : ∀ (ds : List D) (vs : List V), RDs c ρ H ds vs → RDs c ρ' H' ds vs
  | [], vs, h => by simpa only [RDs] using h
  | d :: ds, vs, h => by
    simp only [RDs] at h ⊢
    obtain ⟨x, xs, e1, h1, h2⟩ := h
    exact ⟨x, xs, e1, RD.mono e d x h1, RDs.mono e ds xs h2⟩
end
theorem RF.mono (e : Ext ρ H ρ' H') : ∀ (ds : List (Str × D)) (vs : List (Str × V)), RF c ρ H ds vs → RF c ρ' H' ds vs
  | [], vs, h => by simpa only [RF] using h
  | (n, d) :: ds, vs, h => by
    simp only [RF] at h ⊢
    obtain ⟨x, xs, e1, h1, h2⟩ := h
    exact ⟨x, xs, e1, RD.mono e d x h1, RF.mono e ds xs h2⟩
theorem RK.mono (e : Ext ρ H ρ' H') : ∀ (ds : List (Key × D)) (vs : List (Key × V)), RK c ρ H ds vs → RK c ρ' H' ds vs
  | [], vs, h => by simpa only [RK] using h
  | (n, d) :: ds, vs, h => by
    simp only [RK] at h ⊢
    obtain ⟨x, xs, e1, h1, h2⟩ := h
    exact ⟨x, xs, e1, RD.mono e d x h1, RK.mono e ds xs h2⟩
theorem RO.mono (e : Ext ρ H ρ' H') {a : Addr} (same : H' a = H a) : ∀ (mo : MO), RO c ρ H a mo → RO c ρ' H' a mo
  | .lst ds, h => by
    obtain ⟨xs, h1, h2⟩ := h
    exact ⟨xs, same.trans h1, RDs.mono e _ _ h2⟩
  | .ins C fs, h => by
    obtain ⟨dx, vs, h1, h2⟩ := h
    exact ⟨dx, vs, same.trans h1, RF.mono e _ _ h2⟩
  | .dic kvs, h => by
    obtain ⟨ws, h1, h2⟩ := h
    exact ⟨ws, same.trans h1, RK.mono e _ _ h2⟩
theorem RO.there {a : Addr} {mo : MO} (h : RO c ρ H a mo) : ∃ o, H a = some o := by
  cases mo with
  | lst ds => obtain ⟨xs, h1, _⟩ := h; exact ⟨_, h1⟩
  | ins C fs => obtain ⟨dx, vs, h1, _⟩ := h; exact ⟨_, h1⟩
  | dic kvs => obtain ⟨ws, h1, _⟩ := h; exact ⟨_, h1⟩
theorem RO.mut {a : Addr} {mo : MO} (h : RO c ρ H a mo) : Mut (H a) := by
  cases mo with
  | lst ds => obtain ⟨xs, h1, _⟩ := h; rw [h1]; trivial
  | ins C fs => obtain ⟨dx, vs, h1, _⟩ := h; rw [h1]; trivial
  | dic kvs => obtain ⟨ws, h1, _⟩ := h; rw [h1]; trivial
theorem RS.mono {δ : DSt} {σ : St} (e : Ext ρ H ρ' H') (r : RS c ρ H δ σ) : RS c ρ' H' δ σ :=
  ⟨r.len, fun i d h => let ⟨v, h1, h2⟩ := r.get i d h; ⟨v, h1, RD.mono e d v h2⟩⟩
theorem RS.set {δ : DSt} {σ : St} {d : D} {v : V} (r : RS c ρ H δ σ) (i : Nat) (h : RD c ρ H d v) : RS c ρ H (δ.set i (some d)) (σ.set i (some v)) := by
  refine ⟨by simp [r.len], fun j d' h' => ?_⟩
  by_cases hj : j = i
  · subst hj
    by_cases hl : j < δ.length
    · rw [List.getElem?_set_self hl] at h'
      cases h'
      exact ⟨v, by rw [List.getElem?_set_self (r.len ▸ hl)], h⟩
    · rw [List.getElem?_eq_none (by simp; omega)] at h'
      cases h'
  · rw [List.getElem?_set_ne (Ne.symm hj)] at h'
    obtain ⟨v', h1, h2⟩ := r.get j d' h'
    exact ⟨v', by rw [List.getElem?_set_ne (Ne.symm hj)]; exact h1, h2⟩
theorem RDs.len : ∀ (ds : List D) (vs : List V), RDs c ρ H ds vs → ds.length = vs.length
  | [], vs, h => by simp only [RDs] at h; rw [h]; rfl
  | d :: ds, vs, h => by
    simp only [RDs] at h
    obtain ⟨x, xs, e1, _, h2⟩ := h
    rw [e1, List.length_cons, List.length_cons, RDs.len ds xs h2]
theorem RDs.get : ∀ (ds : List D) (vs : List V), RDs c ρ H ds vs → ∀ (i : Nat) (d : D), ds[i]? = some d → ∃ v, vs[i]? = some v ∧ RD c ρ H d v
  | [], vs, h, i, d, e => by simp at e
  | d :: ds, vs, h, 0, d', e => by
    simp only [RDs] at h
    obtain ⟨x, xs, e1, h1, h2⟩ := h
    simp at e
    subst e
    exact ⟨x, by rw [e1]; rfl, h1⟩
  | d :: ds, vs, h, i + 1, d', e => by
    simp only [RDs] at h
    obtain ⟨x, xs, e1, h1, h2⟩ := h
    obtain ⟨v, h3, h4⟩ := RDs.get ds xs h2 i d' (by simpa using e)
    exact ⟨v, by rw [e1]; simpa using h3, h4⟩
theorem RDs.set : ∀ (ds : List D) (vs : List V), RDs c ρ H ds vs → ∀ (i : Nat) (d : D) (v : V), RD c ρ H d v → RDs c ρ H (ds.set i d) (vs.set i v)
  | [], vs, h, i, d, v, _ => by
    simp only [RDs] at h
    subst h
    simp [RDs]
  | d :: ds, vs, h, 0, d', v, r => by
    simp only [RDs] at h
    obtain ⟨x, xs, e1, h1, h2⟩ := h
    subst e1
    simp only [List.set_cons_zero, RDs]
    exact ⟨v, xs, rfl, r, h2⟩
  | d :: ds, vs, h, i + 1, d', v, r => by
    simp only [RDs] at h
    obtain ⟨x, xs, e1, h1, h2⟩ := h
    subst e1
    simp only [List.set_cons_succ, RDs]
    exact ⟨x, _, rfl, h1, RDs.set ds xs h2 i d' v r⟩
theorem RDs.append : ∀ (ds : List D) (vs : List V) (es : List D) (us : List V), RDs c ρ H ds vs → RDs c ρ H es us → RDs c ρ H (ds ++ es) (vs ++ us)
  | [], vs, es, us, h, h' => by
    simp only [RDs] at h
    subst h
    exact h'
  | d :: ds, vs, es, us, h, h' => by
    simp only [RDs] at h
    obtain ⟨x, xs, e1, h1, h2⟩ := h
    subst e1
    simp only [List.cons_append, RDs]
    exact ⟨x, _, rfl, h1, RDs.append ds xs es us h2 h'⟩
theorem RDs.take : ∀ (n : Nat) (ds : List D) (vs : List V), RDs c ρ H ds vs → RDs c ρ H (ds.take n) (vs.take n)
  | 0, ds, vs, h => by simp [RDs]
  | n + 1, [], vs, h => by
    simp only [RDs] at h
    subst h
    simp [RDs]
  | n + 1, d :: ds, vs, h => by
    simp only [RDs] at h
    obtain ⟨x, xs, e1, h1, h2⟩ := h
    subst e1
    simp only [List.take_succ_cons, RDs]
    exact ⟨x, _, rfl, h1, RDs.take n ds xs h2⟩
theorem RDs.drop : ∀ (n : Nat) (ds : List D) (vs : List V), RDs c ρ H ds vs → RDs c ρ H (ds.drop n) (vs.drop n)
  | 0, ds, vs, h => h
  | n + 1, [], vs, h => by
    simp only [RDs] at h
    subst h
    simp [RDs]
  | n + 1, d :: ds, vs, h => by
    simp only [RDs] at h
    obtain ⟨x, xs, e1, h1, h2⟩ := h
    subst e1
    exact RDs.drop n ds xs h2
theorem RDs.reverse : ∀ (ds : List D) (vs : List V), RDs c ρ H ds vs → RDs c ρ H ds.reverse vs.reverse
  | [], vs, h => by
    simp only [RDs] at h
    subst h
    simp [RDs]
  | d :: ds, vs, h => by
    simp only [RDs] at h
    obtain ⟨x, xs, e1, h1, h2⟩ := h
    subst e1
    simp only [List.reverse_cons]
    exact RDs.append _ _ _ _ (RDs.reverse ds xs h2) (by simp only [RDs]; exact ⟨x, [], rfl, h1, rfl⟩)
theorem RDs.one {d : D} {v : V} (h : RD c ρ H d v) : RDs c ρ H [d] [v] := by simp only [RDs]; exact ⟨v, [], rfl, h, rfl⟩

/-- a new tracked object that is no mutable one of ours -/
theorem Ext.new {p : Addr} {o : HO} (hn : H p = none) : Ext ρ H ρ (upd H p o) :=
  ⟨⟨[], by simp⟩, fun a xs h => by rw [upd_ne (ne_of_none h hn)]; exact h, fun a o xs h => by rw [upd_ne (ne_of_none h hn)]; exact h⟩
theorem Rep.ext {M : DM} (r : Rep c ρ M H) (e : Ext ρ H ρ H') (same : ∀ a, a ∈ ρ → H' a = H a) : Rep c ρ M H' :=
  ⟨r.len, r.nd, fun i mo a h1 h2 => (r.at_ i mo a h1 h2).mono e (same a (List.mem_of_getElem? h2))⟩
theorem Rep.there {M : DM} (r : Rep c ρ M H) {a : Addr} (h : a ∈ ρ) : ∃ o, H a = some o ∧ Mut (H a) := by
  obtain ⟨i, hi⟩ := List.mem_iff_getElem?.mp h
  have hl := (List.getElem?_eq_some_iff.mp hi).1
  have hl' : i < M.length := r.len ▸ hl
  have hm : M[i]? = some (M[i]'hl') := List.getElem?_eq_getElem hl'
  have q := r.at_ i _ a hm hi
  obtain ⟨o, e⟩ := q.there
  exact ⟨o, e, q.mut⟩
theorem Rep.new {M : DM} {p : Addr} {o : HO} (r : Rep c ρ M H) (hn : H p = none) : Rep c ρ M (upd H p o) :=
  r.ext (Ext.new hn) fun a ha => by
    obtain ⟨u, e, _⟩ := r.there ha
    exact upd_ne (ne_of_none e hn)
/-- a new mutable object of ours -/
theorem Ext.alloc {p : Addr} {o : HO} (hn : H p = none) : Ext ρ H (ρ ++ [p]) (upd H p o) :=
  ⟨⟨[p], rfl⟩, fun a xs h => by rw [upd_ne (ne_of_none h hn)]; exact h, fun a o xs h => by rw [upd_ne (ne_of_none h hn)]; exact h⟩
theorem Rep.grow {M : DM} {p : Addr} {mo : MO} (r : Rep c ρ M H) (e : Ext ρ H (ρ ++ [p]) H') (same : ∀ a, a ∈ ρ → H' a = H a) (hp : p ∉ ρ) (h : RO c (ρ ++ [p]) H' p mo) : Rep c (ρ ++ [p]) (M ++ [mo]) H' := by
  refine ⟨by simp [r.len], ?_, fun i mo' a h1 h2 => ?_⟩
  · refine List.nodup_append.mpr ⟨r.nd, by simp, fun a ha b hb => ?_⟩
    simp at hb
    subst hb
    rintro rfl
    exact hp ha
  · by_cases hi : i < M.length
    · rw [List.getElem?_append_left hi] at h1
      rw [List.getElem?_append_left (r.len ▸ hi)] at h2
      exact (r.at_ i mo' a h1 h2).mono e (same a (List.mem_of_getElem? h2))
    · have hi' : i = M.length := by
        have := (List.getElem?_eq_some_iff.mp h1).1
        simp at this
        omega
      subst hi'
      rw [List.getElem?_append_right (Nat.le_refl _)] at h1
      rw [← r.len, List.getElem?_append_right (Nat.le_refl _)] at h2
      simp at h1 h2
      subst h1 h2
      exact h
theorem Rep.fresh {M : DM} {p : Addr} (r : Rep c ρ M H) (hn : H p = none) : p ∉ ρ := fun h => by
  obtain ⟨o, e, _⟩ := r.there h
  rw [hn] at e
  cases e
theorem Rep.alloc {M : DM} {p : Addr} {o : HO} {mo : MO} (r : Rep c ρ M H) (hn : H p = none) (h : RO c (ρ ++ [p]) (upd H p o) p mo) : Rep c (ρ ++ [p]) (M ++ [mo]) (upd H p o) :=
  r.grow (Ext.alloc hn) (fun a ha => by
    obtain ⟨u, e, _⟩ := r.there ha
    exact upd_ne (ne_of_none e hn)) (r.fresh hn) h
theorem RD.new {M : DM} (r : Rep c ρ M H) {p : Addr} : RD c (ρ ++ [p]) H' (.obj M.length) (.ref p) := by
  simp only [RD]
  exact ⟨p, rfl, by rw [← r.len]; simp⟩
/-- a mutable object changes -/
theorem Ext.write {p : Addr} {o : HO} (m : Mut (H p)) : Ext ρ H ρ (upd H p o) :=
  ⟨⟨[], by simp⟩, fun a xs h => by rw [upd_ne (fun z => by subst z; rw [h] at m; exact m)]; exact h, fun a o xs h => by rw [upd_ne (fun z => by subst z; rw [h] at m; exact m)]; exact h⟩
theorem Rep.write {M : DM} {i : Nat} {p : Addr} {o : HO} {mo : MO} (r : Rep c ρ M H) (hp : ρ[i]? = some p) (h : RO c ρ (upd H p o) p mo) : Rep c ρ (M.set i mo) (upd H p o) := by
  have m := (r.there (List.mem_of_getElem? hp)).choose_spec.2
  refine ⟨by simp [r.len], r.nd, fun j mo' a h1 h2 => ?_⟩
  by_cases hj : j = i
  · subst hj
    rw [hp] at h2
    cases h2
    have hl := (List.getElem?_eq_some_iff.mp hp).1
    rw [List.getElem?_set_self (r.len ▸ hl)] at h1
    cases h1
    exact h
  · rw [List.getElem?_set_ne (Ne.symm hj)] at h1
    refine (r.at_ j mo' a h1 h2).mono (Ext.write m) (upd_ne fun z => ?_)
    subst z
    exact hj (nodup_ix' r.nd h2 hp)
where
  nodup_ix' {N : List Addr} (hN : N.Nodup) {i j : Nat} {x : Addr} (a : N[i]? = some x) (b : N[j]? = some x) : i = j := by
    obtain ⟨h1, e1⟩ := List.getElem?_eq_some_iff.mp a
    obtain ⟨h2, e2⟩ := List.getElem?_eq_some_iff.mp b
    exact (List.getElem_inj hN).mp (e1.trans e2.symm)
end

/-! ### what is wanted behind a denotation -/
section
variable {c : Ctx} {α β : Type}
def Post (c : Ctx) (E : XK) (ρ : List Addr) (H : Hp) (R : List Addr → Hp → α → β → Prop) (Q : β → Hp → Prop) : Rs α → Prop
  | .ok a M => ∀ ρ' H' b, Ext ρ H ρ' H' → Rep c ρ' M H' → R ρ' H' a b → Q b H'
  | .ex e M => ∀ ρ' H' cls od, Ext ρ H ρ' H' → Rep c ρ' M H' → RX c ρ' H' e cls od → E cls od H'
  | .bad => False
theorem Post.mono {E : XK} {ρ ρ' : List Addr} {H H' : Hp} {R : List Addr → Hp → α → β → Prop} {Q : β → Hp → Prop} {r : Rs α} (e : Ext ρ H ρ' H') (h : Post c E ρ H R Q r) : Post c E ρ' H' R Q r := by
  cases r with
  | ok a M => exact fun ρ2 H2 b e2 => h ρ2 H2 b (e.trans e2)
  | ex x M => exact fun ρ2 H2 cls od e2 => h ρ2 H2 cls od (e.trans e2)
  | bad => exact h
/-- a reading that does what a function says -/
def Sim (c : Ctx) (W : WX) (R : List Addr → Hp → α → β → Prop) (t : St → Hp → (β → Hp → Prop) → Prop) (f : DSt → DM → Rs α) : Prop :=
  ∀ ρ M H δ σ Q, Rep c ρ M H → RS c ρ H δ σ → Post c (WE W σ) ρ H R Q (f δ M) → t σ H Q
theorem Sim.bind {α' β' : Type} {W : WX} {R : List Addr → Hp → α → β → Prop} {t : St → Hp → (β → Hp → Prop) → Prop} {f : DSt → DM → Rs α} (S : Sim c W R t f)
    {ρ : List Addr} {M : DM} {H : Hp} {δ : DSt} {σ : St} {R' : List Addr → Hp → α' → β' → Prop} {Q : β' → Hp → Prop} {k : α → DM → Rs α'} {T : β → Hp → Prop} (P : Rep c ρ M H) (s : RS c ρ H δ σ)
    (h : Post c (WE W σ) ρ H R' Q ((f δ M).bind k))
    (hk : ∀ a M1 ρ1 H1 b, Ext ρ H ρ1 H1 → Rep c ρ1 M1 H1 → RS c ρ1 H1 δ σ → R ρ1 H1 a b → f δ M = .ok a M1 → Post c (WE W σ) ρ1 H1 R' Q (k a M1) → T b H1) : t σ H T := by
  refine S ρ M H δ σ T P s ?_
  cases e : f δ M with
  | ok a M1 =>
    rw [e] at h
    intro ρ1 H1 b e1 P1 r1
    exact hk a M1 ρ1 H1 b e1 P1 (s.mono e1) r1 e (Post.mono e1 h)
  | ex x M1 =>
    rw [e] at h
    exact h
  | bad =>
    rw [e] at h
    exact h
def PostS (c : Ctx) (W : WX) (ρ : List Addr) (H : Hp) (Dn : Ends) : Ro → Prop
  | .nx δ M => ∀ ρ' H' σ', Ext ρ H ρ' H' → Rep c ρ' M H' → RS c ρ' H' δ σ' → Dn.nx σ' H'
  | .rt d M => ∀ ρ' H' v, Ext ρ H ρ' H' → Rep c ρ' M H' → RD c ρ' H' d v → Dn.rt v H'
  | .bk δ M => ∀ ρ' H' σ', Ext ρ H ρ' H' → Rep c ρ' M H' → RS c ρ' H' δ σ' → Dn.bk σ' H'
  | .ct δ M => ∀ ρ' H' σ', Ext ρ H ρ' H' → Rep c ρ' M H' → RS c ρ' H' δ σ' → Dn.ct σ' H'
  | .ex e δ M => ∀ ρ' H' σ' cls od, Ext ρ H ρ' H' → Rep c ρ' M H' → RS c ρ' H' δ σ' → RX c ρ' H' e cls od → W cls od σ' H'
  | .bad => False
theorem PostS.mono {W : WX} {ρ ρ' : List Addr} {H H' : Hp} {Dn : Ends} {r : Ro} (e : Ext ρ H ρ' H') (h : PostS c W ρ H Dn r) : PostS c W ρ' H' Dn r := by
  cases r with
  | nx δ M => exact fun ρ2 H2 b e2 => h ρ2 H2 b (e.trans e2)
  | rt δ M => exact fun ρ2 H2 b e2 => h ρ2 H2 b (e.trans e2)
  | bk δ M => exact fun ρ2 H2 b e2 => h ρ2 H2 b (e.trans e2)
  | ct δ M => exact fun ρ2 H2 b e2 => h ρ2 H2 b (e.trans e2)
  | ex x δ M => exact fun ρ2 H2 s cls od e2 => h ρ2 H2 s cls od (e.trans e2)
  | bad => exact h
def SimS (c : Ctx) (W : WX) (t : TS) (f : FS) : Prop :=
  ∀ ρ M H δ σ Dn, Rep c ρ M H → RS c ρ H δ σ → PostS c W ρ H Dn (f δ M) → t Dn σ H
/-- an expression within a statement -/
theorem Sim.ro {W : WX} {R : List Addr → Hp → α → β → Prop} {t : St → Hp → (β → Hp → Prop) → Prop} {f : DSt → DM → Rs α} (S : Sim c W R t f)
    {ρ : List Addr} {M : DM} {H : Hp} {δ : DSt} {σ : St} {Dn : Ends} {k : α → DM → Ro} {T : β → Hp → Prop} (P : Rep c ρ M H) (s : RS c ρ H δ σ)
    (h : PostS c W ρ H Dn ((f δ M).ro δ k))
    (hk : ∀ a M1 ρ1 H1 b, Ext ρ H ρ1 H1 → Rep c ρ1 M1 H1 → RS c ρ1 H1 δ σ → R ρ1 H1 a b → f δ M = .ok a M1 → PostS c W ρ1 H1 Dn (k a M1) → T b H1) : t σ H T := by
  refine S ρ M H δ σ T P s ?_
  cases e : f δ M with
  | ok a M1 =>
    rw [e] at h
    intro ρ1 H1 b e1 P1 r1
    exact hk a M1 ρ1 H1 b e1 P1 (s.mono e1) r1 e (PostS.mono e1 h)
  | ex x M1 =>
    rw [e] at h
    intro ρ1 H1 cls od e1 P1 rx
    exact h ρ1 H1 σ cls od e1 P1 (s.mono e1) rx
  | bad =>
    rw [e] at h
    exact h
end
abbrev RB : List Addr → Hp → Bool → Bool → Prop := fun _ _ a b => a = b

/-! ### where one stands, and the judgements -/
structure In (c : Ctx) (X : Cx) (W : WX) (k : Nat) (N : List Str) (sc : Scope) : Prop where
  hP : X.prog = c.P
  hw : X.w = c.w
  hK : X.K = c.K
  hmg : X.mg = c.mg
  hb : X.base = c.base
  hN : X.N = N
  nd : N.Nodup
  hsc : X.env.scope = sc
  calm : X.calm = true
  room : Room k X.A
  take : Takes X W
  own : PassesOwn (model X.prog X.w) X.A X.env X.xe
  hfn : ∀ x, X.fn x = true
  stk : X.stack = X.env :: X.outer
  fr : X.env.frame = some X.env.locals
/-- a local name at slot i -/
structure Nm (N : List Str) (sc : Scope) (i : Nat) (x : Str) : Prop where
  at_ : N[i]? = some x
  loc : sc.names.lookup x = some .local ∨ sc.names.lookup x = some .cell
  db : (x == ("__debug__" : Str)) = false
  cd : (x == ("__classdict__" : Str)) = false
/-- a module's or built-in name -/
structure Gn (sc : Scope) (x : Str) : Prop where
  gl : sc.names.lookup x = some .globalImplicit
  db : (x == ("__debug__" : Str)) = false

section
variable {c : Ctx} {X : Cx} {W : WX}
def VE (c : Ctx) (X : Cx) (W : WX) (e : Expr) (f : FE) : Prop := ∃ t, PE X e t ∧ Sim c W (RD c) t f
def VT (c : Ctx) (X : Cx) (W : WX) (e : Expr) (f : FT) : Prop := ∃ t, PT X e t ∧ Sim c W RB t f
def VW (c : Ctx) (X : Cx) (W : WX) (e : Expr) (f : FT) : Prop := ∃ t, PW X e t ∧ Sim c W RB t f
def VA (c : Ctx) (X : Cx) (W : WX) (es : List Expr) (f : FA) : Prop := (∃ t, PA X es t ∧ Sim c W (RDs c) t f) ∧ ∀ δ M ds M', f δ M = .ok ds M' → ds.length = es.length
def VS (c : Ctx) (X : Cx) (W : WX) (st : Stmt) (f : FS) : Prop := ∃ t, PS X st t ∧ SimS c W t f
def VSs (c : Ctx) (X : Cx) (W : WX) (st : List Stmt) (f : FS) : Prop := ∃ t, PSs X st t ∧ SimS c W t f
end

/-! ### names and constants -/
def eVar (i : Nat) : FE := fun δ M => match δ[i]? with
  | some (some d) => .ok d M
  | _ => .bad
def eC (d : D) : FE := fun _ M => .ok d M
section
variable {c : Ctx} {X : Cx} {W : WX} {k : Nat} {N : List Str} {sc : Scope}
theorem In.loc (I : In c X W k N sc) {i : Nat} {x : Str} (n : Nm N sc i x) : Loc X.env.scope x := by
  rw [I.hsc]; exact n.loc
theorem In.vis (I : In c X W k N sc) {i : Nat} {x : Str} (n : Nm N sc i x) : Vis X.env.scope x := by
  rcases I.loc n with h | h
  · exact .inl h
  · exact .inr (.inl h)
theorem In.gl (I : In c X W k N sc) {x : Str} (n : Gn sc x) : Gl X x := by
  show X.env.scope.names.lookup x = _
  rw [I.hsc]; exact n.gl
theorem ve_var (I : In c X W k N sc) {i : Nat} {x : Str} {pos : Pos} (n : Nm N sc i x) : VE c X W (.Name x pos) (eVar i) := by
  refine ⟨_, pe_var (by rw [I.hN]; exact n.at_) (I.vis n) n.db n.cd, ?_⟩
  intro ρ M H δ σ Q P s h
  show ∃ v, σ[i]? = some (some v) ∧ Q v H
  unfold eVar at h
  split at h
  · rename_i d e
    obtain ⟨v, h1, h2⟩ := s.get i d e
    exact ⟨v, h1, h ρ H v .refl P h2⟩
  · exact h.elim
theorem ve_c {e : Expr} {v : V} {d : D} (h : PE X e (tC v)) (r : ∀ ρ H, RD c ρ H d v) : VE c X W e (eC d) := by
  refine ⟨_, h, ?_⟩
  intro ρ M H δ σ Q P s h
  exact h ρ H v .refl P (r ρ H)
theorem ve_int {i : Int} {j : Nat} {pos : Pos} : VE c X W (.Constant (.int i) j pos) (eC (.int i)) := ve_c pe_int fun _ _ => by simp only [RD]
theorem ve_bl {i : Bool} {j : Nat} {pos : Pos} : VE c X W (.Constant (.bool i) j pos) (eC (.bl i)) := ve_c pe_bl fun _ _ => by simp only [RD]
theorem ve_non {j : Nat} {pos : Pos} : VE c X W (.Constant .none j pos) (eC .non) := ve_c pe_non fun _ _ => by simp only [RD]
theorem ve_str {x : Str} {j : Nat} {pos : Pos} : VE c X W (.Constant (.str x) j pos) (eC (.str x)) := ve_c pe_str fun _ _ => by simp only [RD]
/-- a constant of the module -/
structure Glob (c : Ctx) (x : Str) (d : D) : Prop where
  ex : ∃ v u, c.mg x = some u ∧ RelV v u ∧ ∀ ρ H, RD c ρ H d v
theorem ve_glob (I : In c X W k N sc) {x : Str} {d : D} {pos : Pos} (n : Gn sc x) (g : Glob c x d) : VE c X W (.Name x pos) (eC d) := by
  obtain ⟨v, u, h1, h2, h3⟩ := g.ex
  exact ve_c (pe_glob (I.gl n) (by rw [I.hmg]; exact h1) h2 n.db) h3
/-- a built-in type's name as a value -/
theorem ve_bty (I : In c X W k N sc) {x : Str} {T : String} {pos : Pos} (n : Gn sc x) (hm : c.mg x = none) (hv : bootBuiltins x = some (.type T)) (hn : x ≠ "__name__" := by decide) : VE c X W (.Name x pos) (eC (.ty T)) :=
  ve_c (v := .ty T) (pe_bltn (I.gl n) (by rw [I.hmg]; exact hm) hv rfl hn n.db) fun _ _ => by simp only [RD]
end

/-! ### one, two parts -/
def e1 (op : D → DM → Rs D) (a : FE) : FE := fun δ M => (a δ M).bind op
def e2 (op : D → D → DM → Rs D) (a b : FE) : FE := fun δ M => (a δ M).bind fun x M1 => (b δ M1).bind fun y M2 => op x y M2
/-- an operation by values that does what a function says -/
def Op1 (c : Ctx) (W : WX) (r : V → Hp → VK → Prop) (op : D → DM → Rs D) : Prop :=
  ∀ ρ M H σ x v Q, Rep c ρ M H → RD c ρ H x v → Post c (WE W σ) ρ H (RD c) Q (op x M) → r v H Q
def Op2 (c : Ctx) (W : WX) (r : V → V → Hp → VK → Prop) (op : D → D → DM → Rs D) : Prop :=
  ∀ ρ M H σ x y v u Q, Rep c ρ M H → RD c ρ H x v → RD c ρ H y u → Post c (WE W σ) ρ H (RD c) Q (op x y M) → r v u H Q
section
variable {c : Ctx} {X : Cx} {W : WX} {k : Nat} {N : List Str} {sc : Scope} {a b : Expr} {fa fb : FE} {pos : Pos}
theorem sim2 {ta tb : TE} {r : R2} {op : D → D → DM → Rs D} (ha : Sim c W (RD c) ta fa) (hb : Sim c W (RD c) tb fb) (ho : Op2 c W r op) : Sim c W (RD c) (tOp r ta tb) (e2 op fa fb) := by
  intro ρ M H δ σ Q P s h
  refine ha.bind P s h fun x M1 ρ1 H1 v e1 P1 s1 r1 _ h1 => ?_
  refine hb.bind P1 s1 h1 fun y M2 ρ2 H2 u e2 P2 s2 r2 _ h2 => ?_
  exact ho ρ2 M2 H2 σ x y v u Q P2 (RD.mono e2 _ _ r1) r2 h2
theorem sim1 {ta : TE} {r : V → Hp → VK → Prop} {op : D → DM → Rs D} (ha : Sim c W (RD c) ta fa) (ho : Op1 c W r op) : Sim c W (RD c) (tUn r ta) (e1 op fa) := by
  intro ρ M H δ σ Q P s h
  refine ha.bind P s h fun x M1 ρ1 H1 v e1 P1 s1 r1 _ h1 => ?_
  exact ho ρ1 M1 H1 σ x v Q P1 r1 h1
theorem ve_op {op : Operator} {r : R2} {g : D → D → DM → Rs D} (ho : OpR X (binaryOp op) r) (hg : Op2 c W r g) (ha : VE c X W a fa) (hb : VE c X W b fb) : VE c X W (.BinOp a op b pos) (e2 g fa fb) := by
  obtain ⟨ta, pa, sa⟩ := ha
  obtain ⟨tb, pb, sb⟩ := hb
  exact ⟨_, pe_op ho pa pb, sim2 (ta := ta) (tb := tb) sa sb hg⟩
theorem ve_cmp {op : CmpOp} {r : R2} {g : D → D → DM → Rs D} (ho : OpR X (compareOp op) r) (hg : Op2 c W r g) (ha : VE c X W a fa) (hb : VE c X W b fb) (hm : behindInMarks op b = false) : VE c X W (.Compare a [op] [b] pos) (e2 g fa fb) := by
  obtain ⟨ta, pa, sa⟩ := ha
  obtain ⟨tb, pb, sb⟩ := hb
  exact ⟨_, pe_cmpR ho pa pb hm, sim2 sa sb hg⟩
/-- a truth value as a test -/
def tb (f : FE) : FT := fun δ M => (f δ M).bind fun x M1 => match x with
  | .bl b => .ok b M1
  | _ => .bad
theorem sim_tb {t : TE} {f : FE} (h : Sim c W (RD c) t f) : Sim c W RB (tTest t) (tb f) := by
  intro ρ M H δ σ Q P s q
  refine h.bind P s q fun x M1 ρ1 H1 v e1 P1 s1 r1 _ h1 => ?_
  cases x with
  | bl b =>
    simp only [RD] at r1
    subst r1
    exact ⟨b, rfl, h1 ρ1 H1 b .refl P1 rfl⟩
  | _ => exact h1.elim
theorem vt_cmp {op : CmpOp} {r : R2} {g : D → D → DM → Rs D} (ho : OpR X (compareOp op) r) (hg : Op2 c W r g) (ha : VE c X W a fa) (hb : VE c X W b fb) (hm : behindInMarks op b = false) : VT c X W (.Compare a [op] [b] pos) (tb (e2 g fa fb)) := by
  obtain ⟨ta, pa, sa⟩ := ha
  obtain ⟨tb, pb, sb⟩ := hb
  exact ⟨_, pt_cmpR ho pa pb hm, sim_tb (sim2 sa sb hg)⟩
theorem vt_val {f : FE} (h : VE c X W a f) (he : ∀ whole, isTrue a X.env whole = (do let v ← whole; standAt a.pos; holding [v] (truthy v)) := by intro _; rfl) : VT c X W a (tb f) := by
  obtain ⟨t, p, s⟩ := h
  exact ⟨_, pt_val p he, sim_tb s⟩
def tNotF (f : FT) : FT := fun δ M => (f δ M).bind fun b M1 => .ok (!b) M1
def tAndF (f g : FT) : FT := fun δ M => (f δ M).bind fun b M1 => if b = true then g δ M1 else .ok false M1
def tOrF (f g : FT) : FT := fun δ M => (f δ M).bind fun b M1 => if b = true then .ok true M1 else g δ M1
theorem vt_not {f : FT} (h : VT c X W a f) : VT c X W (.UnaryOp .Not a pos) (tNotF f) := by
  obtain ⟨t, p, s⟩ := h
  refine ⟨_, pt_not p, fun ρ M H δ σ Q P r q => ?_⟩
  refine s.bind P r q fun x M1 ρ1 H1 v e1 P1 s1 r1 _ h1 => ?_
  cases r1
  exact h1 ρ1 H1 _ .refl P1 rfl
theorem vw_and1 {f : FT} (h : VT c X W a f) : VW c X W (.BoolOp .And [a] pos) f := let ⟨t, p, s⟩ := h; ⟨t, pw_and1 p, s⟩
theorem vw_or1 {f : FT} (h : VT c X W a f) : VW c X W (.BoolOp .Or [a] pos) f := let ⟨t, p, s⟩ := h; ⟨t, pw_or1 p, s⟩
theorem vw_and {rest : List Expr} {f g : FT} (h : VT c X W a f) (h' : VW c X W (.BoolOp .And (b :: rest) pos) g) : VW c X W (.BoolOp .And (a :: b :: rest) pos) (tAndF f g) := by
  obtain ⟨t, p, s⟩ := h
  obtain ⟨t', p', s'⟩ := h'
  refine ⟨_, pw_and p p', fun ρ M H δ σ Q P r q => ?_⟩
  refine s.bind P r q fun x M1 ρ1 H1 v e1 P1 s1 r1 _ h1 => ?_
  cases r1
  cases x with
  | true => rw [if_pos rfl] at h1 ⊢; exact s' ρ1 M1 H1 δ σ Q P1 s1 h1
  | false => rw [if_neg Bool.false_ne_true] at h1 ⊢; exact h1 ρ1 H1 _ .refl P1 rfl
theorem vw_or {rest : List Expr} {f g : FT} (h : VT c X W a f) (h' : VW c X W (.BoolOp .Or (b :: rest) pos) g) : VW c X W (.BoolOp .Or (a :: b :: rest) pos) (tOrF f g) := by
  obtain ⟨t, p, s⟩ := h
  obtain ⟨t', p', s'⟩ := h'
  refine ⟨_, pw_or p p', fun ρ M H δ σ Q P r q => ?_⟩
  refine s.bind P r q fun x M1 ρ1 H1 v e1 P1 s1 r1 _ h1 => ?_
  cases r1
  cases x with
  | true => rw [if_pos rfl] at h1 ⊢; exact h1 ρ1 H1 _ .refl P1 rfl
  | false => rw [if_neg Bool.false_ne_true] at h1 ⊢; exact s' ρ1 M1 H1 δ σ Q P1 s1 h1
theorem VW.vt {e : Expr} {f : FT} (h : VW c X W e f) : VT c X W e f := let ⟨t, p, s⟩ := h; ⟨t, p.pt, s⟩
/-- and, or, not as values: bools -/
def eNot (f : FE) : FE := fun δ M => (f δ M).bind fun x M1 => match x with
  | .bl b => .ok (.bl (!b)) M1
  | _ => .bad
def eAnd (f g : FE) : FE := fun δ M => (f δ M).bind fun x M1 => match x with
  | .bl b => if b = true then g δ M1 else .ok (.bl false) M1
  | _ => .bad
def eOr (f g : FE) : FE := fun δ M => (f δ M).bind fun x M1 => match x with
  | .bl b => if b = true then .ok (.bl true) M1 else g δ M1
  | _ => .bad
theorem ve_one {op : BoolOp} {f : FE} (h : VE c X W a f) : VE c X W (.BoolOp op [a] pos) f := let ⟨t, p, s⟩ := h; ⟨t, pe_one p, s⟩
theorem ve_not {f : FE} (h : VE c X W a f) : VE c X W (.UnaryOp .Not a pos) (eNot f) := by
  obtain ⟨t, p, s⟩ := h
  refine ⟨_, pe_not p, fun ρ M H δ σ Q P r q => ?_⟩
  refine s.bind P r q fun x M1 ρ1 H1 v e1 P1 s1 r1 _ h1 => ?_
  cases x with
  | bl b =>
    simp only [RD] at r1
    subst r1
    exact ⟨b, rfl, h1 ρ1 H1 _ .refl P1 (by simp only [RD])⟩
  | _ => exact h1.elim
theorem ve_and {rest : List Expr} {f g : FE} (h : VE c X W a f) (h' : VE c X W (.BoolOp .And (b :: rest) pos) g) : VE c X W (.BoolOp .And (a :: b :: rest) pos) (eAnd f g) := by
  obtain ⟨t, p, s⟩ := h
  obtain ⟨t', p', s'⟩ := h'
  refine ⟨_, pe_and p p', fun ρ M H δ σ Q P r q => ?_⟩
  refine s.bind P r q fun x M1 ρ1 H1 v e1 P1 s1 r1 _ h1 => ?_
  cases x with
  | bl b =>
    simp only [RD] at r1
    subst r1
    refine ⟨b, rfl, ?_⟩
    cases b with
    | true => simp only [if_true] at h1 ⊢; exact s' ρ1 M1 H1 δ σ Q P1 s1 h1
    | false => simp only [Bool.false_eq_true, if_false] at h1 ⊢; exact h1 ρ1 H1 _ .refl P1 (by simp only [RD])
  | _ => exact h1.elim
theorem ve_or {rest : List Expr} {f g : FE} (h : VE c X W a f) (h' : VE c X W (.BoolOp .Or (b :: rest) pos) g) : VE c X W (.BoolOp .Or (a :: b :: rest) pos) (eOr f g) := by
  obtain ⟨t, p, s⟩ := h
  obtain ⟨t', p', s'⟩ := h'
  refine ⟨_, pe_or p p', fun ρ M H δ σ Q P r q => ?_⟩
  refine s.bind P r q fun x M1 ρ1 H1 v e1 P1 s1 r1 _ h1 => ?_
  cases x with
  | bl b =>
    simp only [RD] at r1
    subst r1
    refine ⟨b, rfl, ?_⟩
    cases b with
    | true => simp only [if_true] at h1 ⊢; exact h1 ρ1 H1 _ .refl P1 (by simp only [RD])
    | false => simp only [Bool.false_eq_true, if_false] at h1 ⊢; exact s' ρ1 M1 H1 δ σ Q P1 s1 h1
  | _ => exact h1.elim
/-- a if t else b -/
def eIf (t : FT) (f g : FE) : FE := fun δ M => (t δ M).bind fun b M1 => if b = true then f δ M1 else g δ M1
theorem ve_if {e : Expr} {t : FT} {f g : FE} (ht : VT c X W e t) (ha : VE c X W a f) (hb : VE c X W b g) : VE c X W (.IfExp e a b pos) (eIf t f g) := by
  obtain ⟨t, p, s⟩ := ht
  obtain ⟨t1, p1, s1⟩ := ha
  obtain ⟨t2, p2, s2⟩ := hb
  refine ⟨_, pe_ifExp p p1 p2, fun ρ M H δ σ Q P r q => ?_⟩
  refine s.bind P r q fun x M1 ρ1 H1 v e1 P1 r1 q1 _ h1 => ?_
  cases q1
  cases x with
  | true => rw [if_pos rfl] at h1 ⊢; exact s1 ρ1 M1 H1 δ σ Q P1 r1 h1
  | false => rw [if_neg Bool.false_ne_true] at h1 ⊢; exact s2 ρ1 M1 H1 δ σ Q P1 r1 h1

/-! ### argument lists, displays -/
def aNil : FA := fun _ M => .ok [] M
def aCons (f : FE) (g : FA) : FA := fun δ M => (f δ M).bind fun x M1 => (g δ M1).bind fun xs M2 => .ok (x :: xs) M2
theorem va_nil : VA c X W [] aNil := by
  refine ⟨⟨_, pa_nil, fun ρ M H δ σ Q P r q => ?_⟩, fun δ M ds M' h => ?_⟩
  · exact q ρ H [] .refl P (by simp only [RDs])
  · cases h; rfl
theorem va_cons {es : List Expr} {f : FE} {g : FA} (h : VE c X W a f) (h' : VA c X W es g) (hs : starEach (a :: es) X.env = (false, eval a X.env) :: starEach es X.env := by rfl) : VA c X W (a :: es) (aCons f g) := by
  obtain ⟨t, p, s⟩ := h
  obtain ⟨⟨t', p', s'⟩, hl⟩ := h'
  refine ⟨⟨_, pa_cons p p' hs, fun ρ M H δ σ Q P r q => ?_⟩, fun δ M ds M' h => ?_⟩
  · refine s.bind P r q fun x M1 ρ1 H1 v e1 P1 s1 r1 _ h1 => ?_
    refine s'.bind P1 s1 h1 fun xs M2 ρ2 H2 vs e2 P2 s2 r2 _ h2 => ?_
    exact h2 ρ2 H2 (v :: vs) .refl P2 (by simp only [RDs]; exact ⟨v, vs, rfl, RD.mono e2 _ _ r1, r2⟩)
  · unfold aCons at h
    cases e : f δ M with
    | ok x M1 =>
      rw [e] at h
      simp only [Rs.bind] at h
      cases e' : g δ M1 with
      | ok xs M2 =>
        rw [e'] at h
        cases h
        rw [List.length_cons, List.length_cons, hl _ _ _ _ e']
      | ex x M2 => rw [e'] at h; cases h
      | bad => rw [e'] at h; cases h
    | ex x M1 => rw [e] at h; cases h
    | bad => rw [e] at h; cases h
def eTup (f : FA) : FE := fun δ M => (f δ M).bind fun xs M1 => .ok (.tup xs) M1
def eLst (f : FA) : FE := fun δ M => (f δ M).bind fun xs M1 => .ok (.obj M1.length) (M1 ++ [.lst xs])
theorem post_tup {E : XK} {ρ : List Addr} {M : DM} {H : Hp} {Q : VK} {ds : List D} {xs : List V} {p : Addr} (P : Rep c ρ M H) (r : RDs c ρ H ds xs) (hp : H p = none) (h : Post c E ρ H (RD c) Q (.ok (.tup ds) M)) : Q (.ref p) (upd H p (.tup xs)) :=
  h ρ _ (.ref p) (.new hp) (P.new hp) (by simp only [RD]; exact ⟨p, xs, rfl, .inl upd_same, RDs.mono (.new hp) _ _ r⟩)
theorem post_lst {E : XK} {ρ : List Addr} {M : DM} {H : Hp} {Q : VK} {ds : List D} {xs : List V} {p : Addr} (P : Rep c ρ M H) (r : RDs c ρ H ds xs) (hp : H p = none) (h : Post c E ρ H (RD c) Q (.ok (.obj M.length) (M ++ [.lst ds]))) : Q (.ref p) (upd H p (.lst xs)) :=
  h (ρ ++ [p]) _ (.ref p) (.alloc hp) (P.alloc hp ⟨xs, upd_same, RDs.mono (.alloc hp) _ _ r⟩) (RD.new P)
theorem small_len {n : Nat} (h : n ≤ 1000) : n ≤ sizeLine := by rw [sizeLine_eq]; omega
theorem ve_tup {es : List Expr} {x1 : Nat} {f : FA} (h : VA c X W es f) (hl : es.length ≤ 1000 := by decide) : VE c X W (.Tuple es x1 pos) (eTup f) := by
  obtain ⟨⟨t, p, s⟩, hn⟩ := h
  refine ⟨_, pe_tup p, fun ρ M H δ σ Q P r q => ?_⟩
  refine s.bind P r q fun xs M1 ρ1 H1 vs e1 P1 s1 r1 e h1 => ?_
  have z : vs.length = es.length := by rw [← RDs.len _ _ r1, hn _ _ _ _ e]
  exact ⟨by rw [z]; exact small_len hl, fun p hp => post_tup P1 r1 hp h1⟩
theorem ve_lst {es : List Expr} {f : FA} (h : VA c X W es f) (hl : es.length ≤ 1000 := by decide) : VE c X W (.List es pos) (eLst f) := by
  obtain ⟨⟨t, p, s⟩, hn⟩ := h
  refine ⟨_, pe_lst p, fun ρ M H δ σ Q P r q => ?_⟩
  refine s.bind P r q fun xs M1 ρ1 H1 vs e1 P1 s1 r1 e h1 => ?_
  have z : vs.length = es.length := by rw [← RDs.len _ _ r1, hn _ _ _ _ e]
  exact ⟨by rw [z]; exact small_len hl, fun p hp => post_lst P1 r1 hp h1⟩
end
end DL

set_option Elab.async false
set_option linter.all false
set_option maxRecDepth 100000
set_option maxHeartbeats 2000000
namespace DL
open PySem PySem.Spec L2
open PyProof.Rows hiding St

/-! ### == of data -/
section
variable (M : DM)
def toPy : Nat → D → Option PyData
  | _, .non => some .none
  | _, .bl b => some (.bool b)
  | _, .int i => some (.int i)
  | _, .str s => some (.str s)
  | 0, _ => none
  | n + 1, .tup ds => (ds.mapM (toPy n)).map .tuple
  | n + 1, .rol ds => (ds.mapM (toPy n)).map .list
  | n + 1, .obj i => match M[i]? with
    | some (.lst ds) => (ds.mapM (toPy n)).map .list
    | _ => none
  | _ + 1, .cl _ => none
  | _ + 1, .ty _ => none
end
theorem mapM_cons_some {f : D → Option PyData} {d : D} {ds : List D} {ps : List PyData} (h : (d :: ds).mapM f = some ps) : ∃ p qs, f d = some p ∧ ds.mapM f = some qs ∧ ps = p :: qs := by
  rw [List.mapM_cons] at h
  cases e : f d with
  | none => rw [e] at h; cases h
  | some p =>
    rw [e] at h
    cases e' : ds.mapM f with
    | none => rw [e'] at h; cases h
    | some qs => rw [e'] at h; cases h; exact ⟨p, qs, rfl, rfl, rfl⟩
section
variable {c : Ctx} {ρ : List Addr} {M : DM} {H : Hp}
theorem toPy_all {n : Nat} (ih : ∀ (d : D) (p : PyData) (v : V), toPy M n d = some p → RD c ρ H d v → Dp c.K H v p ∧ p.plain = true ∧ p.depth ≤ n) :
    ∀ (ds : List D) (ps : List PyData) (vs : List V), ds.mapM (toPy M n) = some ps → RDs c ρ H ds vs → DpAll c.K H vs ps ∧ PyData.plainAll ps = true ∧ PyData.depthAll ps ≤ n
  | [], ps, vs, h, r => by
    cases h
    simp only [RDs] at r
    subst r
    exact ⟨.nil, rfl, Nat.zero_le _⟩
  | d :: ds, ps, vs, h, r => by
    obtain ⟨p, qs, h1, h2, rfl⟩ := mapM_cons_some h
    simp only [RDs] at r
    obtain ⟨x, xs, rfl, r1, r2⟩ := r
    obtain ⟨a1, a2, a3⟩ := ih d p x h1 r1
    obtain ⟨b1, b2, b3⟩ := toPy_all ih ds qs xs h2 r2
    refine ⟨.cons a1 b1, ?_, ?_⟩
    · simp only [PyData.plainAll, a2, b2, Bool.and_self]
    · show max p.depth (PyData.depthAll qs) ≤ n
      omega
theorem toPy_ok (P : Rep c ρ M H) : ∀ (n : Nat) (d : D) (p : PyData) (v : V), toPy M n d = some p → RD c ρ H d v → Dp c.K H v p ∧ p.plain = true ∧ p.depth ≤ n := by
  have lst : ∀ {n : Nat} {ds : List D} {p : PyData} {a : Addr} {xs : List V} (ih : ∀ (d : D) (p : PyData) (v : V), toPy M n d = some p → RD c ρ H d v → Dp c.K H v p ∧ p.plain = true ∧ p.depth ≤ n),
      (ds.mapM (toPy M n)).map PyData.list = some p → SqL c.K H a xs → RDs c ρ H ds xs → Dp c.K H (.ref a) p ∧ p.plain = true ∧ p.depth ≤ n + 1 := by
    intro n ds p a xs ih h hs r
    cases e : ds.mapM (toPy M n) with
    | none => rw [e] at h; cases h
    | some ps =>
      rw [e] at h
      cases h
      obtain ⟨b1, b2, b3⟩ := toPy_all ih ds ps xs e r
      exact ⟨.lst hs b1, b2, by show PyData.depthAll ps + 1 ≤ n + 1; omega⟩
  intro n
  induction n with
  | zero =>
    intro d p v h r
    cases d with
    | non => cases h; simp only [RD] at r; subst r; exact ⟨.non, rfl, Nat.zero_le _⟩
    | bl b => cases h; simp only [RD] at r; subst r; exact ⟨.bl b, rfl, Nat.zero_le _⟩
    | int i => cases h; simp only [RD] at r; subst r; exact ⟨.int i, rfl, Nat.zero_le _⟩
    | str s => cases h; simp only [RD] at r; subst r; exact ⟨.str s, rfl, Nat.zero_le _⟩
    | _ => cases h
  | succ n ih =>
    intro d p v h r
    cases d with
    | non => cases h; simp only [RD] at r; subst r; exact ⟨.non, rfl, Nat.zero_le _⟩
    | bl b => cases h; simp only [RD] at r; subst r; exact ⟨.bl b, rfl, Nat.zero_le _⟩
    | int i => cases h; simp only [RD] at r; subst r; exact ⟨.int i, rfl, Nat.zero_le _⟩
    | str s => cases h; simp only [RD] at r; subst r; exact ⟨.str s, rfl, Nat.zero_le _⟩
    | tup ds =>
      simp only [RD] at r
      obtain ⟨a, xs, rfl, h1, h2⟩ := r
      cases e : ds.mapM (toPy M n) with
      | none => simp only [toPy, e] at h; cases h
      | some ps =>
        simp only [toPy, e] at h
        cases h
        obtain ⟨b1, b2, b3⟩ := toPy_all ih ds ps xs e h2
        exact ⟨.tup h1.sq b1, b2, by show PyData.depthAll ps + 1 ≤ n + 1; omega⟩
    | rol ds =>
      simp only [RD] at r
      obtain ⟨a, xs, rfl, h1, h2⟩ := r
      exact lst ih h h1.sq h2
    | obj i =>
      simp only [RD] at r
      obtain ⟨a, rfl, h1⟩ := r
      simp only [toPy] at h
      cases e : M[i]? with
      | none => rw [e] at h; cases h
      | some mo =>
        rw [e] at h
        cases mo with
        | lst ds =>
          obtain ⟨xs, q1, q2⟩ := P.at_ i _ a e h1
          exact lst ih h (.of q1) q2
        | _ => cases h
    | _ => cases h
end
def eqD (x y : D) (M : DM) : Rs D := match toPy M 100 x, toPy M 100 y with
  | some p, some q => .ok (.bl (PyData.eqv p q)) M
  | _, _ => .bad
def neD (x y : D) (M : DM) : Rs D := match toPy M 100 x, toPy M 100 y with
  | some p, some q => .ok (.bl (!PyData.eqv p q)) M
  | _, _ => .bad
def anyEq (M : DM) (x : D) (ds : List D) : Option Bool := match toPy M 100 x, ds.mapM (toPy M 100) with
  | some p, some qs => some (qs.any fun q => PyData.eqv q p)
  | _, _ => none
/-- the items of a list or tuple -/
def itemsD (x : D) (M : DM) : Option (List D) := match x with
  | .tup ds => some ds
  | .rol ds => some ds
  | .obj i => match M[i]? with
    | some (.lst ds) => some ds
    | _ => none
  | _ => none
def inSeqD (x y : D) (M : DM) : Rs D := match itemsD y M with
  | some ds => match anyEq M x ds with
    | some b => .ok (.bl b) M
    | none => .bad
  | none => .bad
def ninSeqD (x y : D) (M : DM) : Rs D := match itemsD y M with
  | some ds => match anyEq M x ds with
    | some b => .ok (.bl (!b)) M
    | none => .bad
  | none => .bad
def rEqP (K : PySem.W.Frag) : R2 := fun x y H Q => ∃ d e, Dp K H x d ∧ Dp K H y e ∧ d.plain = true ∧ e.plain = true ∧ d.depth ≤ 100 ∧ Q (.bl (PyData.eqv d e)) H
def rNeP (K : PySem.W.Frag) : R2 := fun x y H Q => ∃ d e, Dp K H x d ∧ Dp K H y e ∧ d.plain = true ∧ e.plain = true ∧ d.depth ≤ 100 ∧ Q (.bl (!PyData.eqv d e)) H
/-- the items of a sequence stand at v -/
def SqV (K : PySem.W.Frag) (H : Hp) (v : V) (xs : List V) : Prop := ∃ a, v = .ref a ∧ (SqL K H a xs ∨ SqT K H a xs)
def rInP (K : PySem.W.Frag) (neg : Bool) : R2 := fun x y H Q => ∃ d es xs, Dp K H x d ∧ SqV K H y xs ∧ DpAll K H xs es ∧ d.plain = true ∧ PyData.plainAll es = true ∧ d.depth ≤ 100 ∧
  Q (.bl (if neg = true then !(es.any fun q => PyData.eqv q d) else es.any fun q => PyData.eqv q d)) H
section
variable {X : Cx}
theorem op_eqP (hu : X.A.units + 200 < cLine) : OpR X (compareOp .Eq) (rEqP X.K) := by
  intro pins s σ H x y v u Q I rx ry h
  obtain ⟨d, e, hd, he, sd, se, dd, q⟩ := h
  obtain ⟨as, r1⟩ := Dp.reads I d x v hd rx
  obtain ⟨bs, r2⟩ := Dp.reads I e y u he ry
  refine SeqAt.eq_plain r1 r2 sd se ?_ ⟨.bl _, H, I, rfl, q⟩
  have : min d.depth e.depth ≤ d.depth := Nat.min_le_left _ _
  omega
theorem op_neP (hu : X.A.units + 200 < cLine) : OpR X (compareOp .NotEq) (rNeP X.K) := by
  intro pins s σ H x y v u Q I rx ry h
  obtain ⟨d, e, hd, he, sd, se, dd, q⟩ := h
  obtain ⟨as, r1⟩ := Dp.reads I d x v hd rx
  obtain ⟨bs, r2⟩ := Dp.reads I e y u he ry
  refine SeqAt.ne_plain r1 r2 sd se ?_ ⟨.bl _, H, I, rfl, q⟩
  have : min d.depth e.depth ≤ d.depth := Nat.min_le_left _ _
  omega
theorem op_inP (hu : X.A.units + 200 < cLine) : OpR X (compareOp .In) (rInP X.K false) := by
  intro pins s σ H x y v u Q I rx ry h
  obtain ⟨d, es, xs, hd, ⟨a, rfl, hs⟩, he, sd, se, dd, q⟩ := h
  obtain ⟨as, r1⟩ := Dp.reads I d x v hd rx
  have hm : min (PyData.depthAll es) d.depth ≤ d.depth := Nat.min_le_right _ _
  rcases hs with hs | hs
  · obtain ⟨bs, r2⟩ := Dp.reads I (.list es) _ u (.lst hs he) ry
    exact SeqAt.in_list_data r2 r1 se sd (by omega) ⟨.bl _, H, I, rfl, q⟩
  · obtain ⟨bs, r2⟩ := Dp.reads I (.tuple es) _ u (.tup hs he) ry
    exact SeqAt.in_tuple_data r2 r1 se sd (by omega) ⟨.bl _, H, I, rfl, q⟩
theorem op_ninP (hu : X.A.units + 200 < cLine) : OpR X (compareOp .NotIn) (rInP X.K true) := by
  intro pins s σ H x y v u Q I rx ry h
  obtain ⟨d, es, xs, hd, ⟨a, rfl, hs⟩, he, sd, se, dd, q⟩ := h
  obtain ⟨as, r1⟩ := Dp.reads I d x v hd rx
  have hm : min (PyData.depthAll es) d.depth ≤ d.depth := Nat.min_le_right _ _
  rcases hs with hs | hs
  · obtain ⟨bs, r2⟩ := Dp.reads I (.list es) _ u (.lst hs he) ry
    exact SeqAt.notIn_list_data r2 r1 se sd (by omega) ⟨.bl _, H, I, rfl, q⟩
  · obtain ⟨bs, r2⟩ := Dp.reads I (.tuple es) _ u (.tup hs he) ry
    exact SeqAt.notIn_tuple_data r2 r1 se sd (by omega) ⟨.bl _, H, I, rfl, q⟩
end
theorem Room_u200 {k : Nat} {A : Around} (r : Room k A) : A.units + 200 < cLine := by have := r.un; omega
section
variable {c : Ctx} {X : Cx} {W : WX} {k : Nat} {N : List Str} {sc : Scope} {a b : Expr} {fa fb : FE} {pos : Pos}
theorem RDs.sq {ρ : List Addr} {M : DM} {H : Hp} {y : D} {v : V} {ds : List D} (P : Rep c ρ M H) (r : RD c ρ H y v) (h : itemsD y M = some ds) : ∃ xs, SqV c.K H v xs ∧ RDs c ρ H ds xs := by
  cases y with
  | tup es =>
    cases h
    simp only [RD] at r
    obtain ⟨a, xs, rfl, h1, h2⟩ := r
    exact ⟨xs, ⟨a, rfl, .inr h1.sq⟩, h2⟩
  | rol es =>
    cases h
    simp only [RD] at r
    obtain ⟨a, xs, rfl, h1, h2⟩ := r
    exact ⟨xs, ⟨a, rfl, .inl h1.sq⟩, h2⟩
  | obj i =>
    simp only [RD] at r
    obtain ⟨a, rfl, h1⟩ := r
    simp only [itemsD] at h
    cases e : M[i]? with
    | none => rw [e] at h; cases h
    | some mo =>
      rw [e] at h
      cases mo with
      | lst es =>
        cases h
        obtain ⟨xs, q1, q2⟩ := P.at_ i _ a e h1
        exact ⟨xs, ⟨a, rfl, .inl (.of q1)⟩, q2⟩
      | _ => cases h
  | _ => cases h
theorem o_eq : Op2 c W (rEqP c.K) eqD := by
  intro ρ M H σ x y v u Q P rx ry h
  unfold eqD at h
  split at h
  · rename_i p q e1 e2
    obtain ⟨a1, a2, a3⟩ := toPy_ok P _ _ _ _ e1 rx
    obtain ⟨b1, b2, b3⟩ := toPy_ok P _ _ _ _ e2 ry
    exact ⟨p, q, a1, b1, a2, b2, a3, h ρ H _ .refl P (by simp only [RD])⟩
  · exact h.elim
theorem o_ne : Op2 c W (rNeP c.K) neD := by
  intro ρ M H σ x y v u Q P rx ry h
  unfold neD at h
  split at h
  · rename_i p q e1 e2
    obtain ⟨a1, a2, a3⟩ := toPy_ok P _ _ _ _ e1 rx
    obtain ⟨b1, b2, b3⟩ := toPy_ok P _ _ _ _ e2 ry
    exact ⟨p, q, a1, b1, a2, b2, a3, h ρ H _ .refl P (by simp only [RD])⟩
  · exact h.elim
theorem anyEq_ok {ρ : List Addr} {M : DM} {H : Hp} {x : D} {v : V} {ds : List D} {xs : List V} {r : Bool} (P : Rep c ρ M H) (rx : RD c ρ H x v) (rs : RDs c ρ H ds xs) (h : anyEq M x ds = some r) :
    ∃ d es, Dp c.K H v d ∧ DpAll c.K H xs es ∧ d.plain = true ∧ PyData.plainAll es = true ∧ d.depth ≤ 100 ∧ (es.any fun q => PyData.eqv q d) = r := by
  unfold anyEq at h
  split at h
  · rename_i p q e1 e2
    obtain ⟨a1, a2, a3⟩ := toPy_ok P _ _ _ _ e1 rx
    obtain ⟨b1, b2, b3⟩ := toPy_all (fun d p v h r => toPy_ok P 100 d p v h r) ds q xs e2 rs
    cases h
    exact ⟨p, q, a1, b1, a2, b2, a3, rfl⟩
  · cases h
theorem o_inSeq : Op2 c W (rInP c.K false) inSeqD := by
  intro ρ M H σ x y v u Q P rx ry h
  unfold inSeqD at h
  split at h
  · rename_i ds e
    split at h
    · rename_i r e'
      obtain ⟨xs, hs, rs⟩ := RDs.sq P ry e
      obtain ⟨d, es, h1, h2, h3, h4, h5, h6⟩ := anyEq_ok P rx rs e'
      exact ⟨d, es, xs, h1, hs, h2, h3, h4, h5, by simp only [h6]; exact h ρ H _ .refl P (by simp only [RD]; rfl)⟩
    · exact h.elim
  · exact h.elim
theorem o_ninSeq : Op2 c W (rInP c.K true) ninSeqD := by
  intro ρ M H σ x y v u Q P rx ry h
  unfold ninSeqD at h
  split at h
  · rename_i ds e
    split at h
    · rename_i r e'
      obtain ⟨xs, hs, rs⟩ := RDs.sq P ry e
      obtain ⟨d, es, h1, h2, h3, h4, h5, h6⟩ := anyEq_ok P rx rs e'
      exact ⟨d, es, xs, h1, hs, h2, h3, h4, h5, by simp only [h6]; exact h ρ H _ .refl P (by simp only [RD]; rfl)⟩
    · exact h.elim
  · exact h.elim
theorem In.hu (I : In c X W k N sc) : X.A.units + 200 < cLine := Room_u200 I.room
theorem ve_eq (I : In c X W k N sc) (ha : VE c X W a fa) (hb : VE c X W b fb) : VE c X W (.Compare a [.Eq] [b] pos) (e2 eqD fa fb) := ve_cmp (by have h := op_eqP I.hu; rw [I.hK] at h; exact h) o_eq ha hb (nomark _)
theorem ve_ne (I : In c X W k N sc) (ha : VE c X W a fa) (hb : VE c X W b fb) : VE c X W (.Compare a [.NotEq] [b] pos) (e2 neD fa fb) := ve_cmp (by have h := op_neP I.hu; rw [I.hK] at h; exact h) o_ne ha hb (nomark _)
theorem vt_eq (I : In c X W k N sc) (ha : VE c X W a fa) (hb : VE c X W b fb) : VT c X W (.Compare a [.Eq] [b] pos) (tb (e2 eqD fa fb)) := vt_cmp (by have h := op_eqP I.hu; rw [I.hK] at h; exact h) o_eq ha hb (nomark _)
theorem vt_ne (I : In c X W k N sc) (ha : VE c X W a fa) (hb : VE c X W b fb) : VT c X W (.Compare a [.NotEq] [b] pos) (tb (e2 neD fa fb)) := vt_cmp (by have h := op_neP I.hu; rw [I.hK] at h; exact h) o_ne ha hb (nomark _)
theorem ve_inSeq (I : In c X W k N sc) (ha : VE c X W a fa) (hb : VE c X W b fb) (hm : behindInMarks .In b = false := by rfl) : VE c X W (.Compare a [.In] [b] pos) (e2 inSeqD fa fb) := ve_cmp (by have h := op_inP I.hu; rw [I.hK] at h; exact h) o_inSeq ha hb hm
theorem vt_inSeq (I : In c X W k N sc) (ha : VE c X W a fa) (hb : VE c X W b fb) (hm : behindInMarks .In b = false := by rfl) : VT c X W (.Compare a [.In] [b] pos) (tb (e2 inSeqD fa fb)) := vt_cmp (by have h := op_inP I.hu; rw [I.hK] at h; exact h) o_inSeq ha hb hm
theorem ve_ninSeq (I : In c X W k N sc) (ha : VE c X W a fa) (hb : VE c X W b fb) (hm : behindInMarks .NotIn b = false := by rfl) : VE c X W (.Compare a [.NotIn] [b] pos) (e2 ninSeqD fa fb) := ve_cmp (by have h := op_ninP I.hu; rw [I.hK] at h; exact h) o_ninSeq ha hb hm
theorem vt_ninSeq (I : In c X W k N sc) (ha : VE c X W a fa) (hb : VE c X W b fb) (hm : behindInMarks .NotIn b = false := by rfl) : VT c X W (.Compare a [.NotIn] [b] pos) (tb (e2 ninSeqD fa fb)) := vt_cmp (by have h := op_ninP I.hu; rw [I.hK] at h; exact h) o_ninSeq ha hb hm

/-! ### order, is None -/
def ordD (p : Int → Int → Bool) (x y : D) (M : DM) : Rs D := match x, y with
  | .int i, .int j => .ok (.bl (p i j)) M
  | _, _ => .bad
abbrev ltD := ordD fun i j => decide (i < j)
abbrev leD := ordD fun i j => decide (i ≤ j)
abbrev gtD := ordD fun i j => decide (j < i)
abbrev geD := ordD fun i j => decide (j ≤ i)
theorem o_ord {p : Int → Int → Bool} : Op2 c W (rI0 fun i j => .bl (p i j)) (ordD p) := by
  intro ρ M H σ x y v u Q P rx ry h
  unfold ordD at h
  split at h
  · rename_i i j
    simp only [RD] at rx ry
    exact ⟨i, j, rx, ry, h ρ H _ .refl P (by simp only [RD])⟩
  · exact h.elim
theorem ve_lt (ha : VE c X W a fa) (hb : VE c X W b fb) : VE c X W (.Compare a [.Lt] [b] pos) (e2 ltD fa fb) := ve_cmp op_lt o_ord ha hb (nomark _)
theorem ve_le (ha : VE c X W a fa) (hb : VE c X W b fb) : VE c X W (.Compare a [.LtE] [b] pos) (e2 leD fa fb) := ve_cmp op_le o_ord ha hb (nomark _)
theorem ve_gt (ha : VE c X W a fa) (hb : VE c X W b fb) : VE c X W (.Compare a [.Gt] [b] pos) (e2 gtD fa fb) := ve_cmp op_gt o_ord ha hb (nomark _)
theorem ve_ge (ha : VE c X W a fa) (hb : VE c X W b fb) : VE c X W (.Compare a [.GtE] [b] pos) (e2 geD fa fb) := ve_cmp op_ge o_ord ha hb (nomark _)
theorem vt_lt (ha : VE c X W a fa) (hb : VE c X W b fb) : VT c X W (.Compare a [.Lt] [b] pos) (tb (e2 ltD fa fb)) := vt_cmp op_lt o_ord ha hb (nomark _)
theorem vt_le (ha : VE c X W a fa) (hb : VE c X W b fb) : VT c X W (.Compare a [.LtE] [b] pos) (tb (e2 leD fa fb)) := vt_cmp op_le o_ord ha hb (nomark _)
theorem vt_gt (ha : VE c X W a fa) (hb : VE c X W b fb) : VT c X W (.Compare a [.Gt] [b] pos) (tb (e2 gtD fa fb)) := vt_cmp op_gt o_ord ha hb (nomark _)
theorem vt_ge (ha : VE c X W a fa) (hb : VE c X W b fb) : VT c X W (.Compare a [.GtE] [b] pos) (tb (e2 geD fa fb)) := vt_cmp op_ge o_ord ha hb (nomark _)
def isNonD : D → Bool
  | .non => true
  | _ => false
def isN (x y : D) (M : DM) : Rs D := match y with
  | .non => .ok (.bl (isNonD x)) M
  | _ => .bad
def isnN (x y : D) (M : DM) : Rs D := match y with
  | .non => .ok (.bl (!isNonD x)) M
  | _ => .bad
theorem isNon_ok {ρ : List Addr} {H : Hp} {x : D} {v : V} (r : RD c ρ H x v) : decide (v = .non) = isNonD x := by
  cases x with
  | tup ds => simp only [RD] at r; obtain ⟨a, xs, rfl, _⟩ := r; rfl
  | rol ds => simp only [RD] at r; obtain ⟨a, xs, rfl, _⟩ := r; rfl
  | obj i => simp only [RD] at r; obtain ⟨a, rfl, _⟩ := r; rfl
  | _ => simp only [RD] at r; subst r; rfl
theorem o_isN : Op2 c W (fun x y H Q => y = .non ∧ Q (.bl (decide (x = .non))) H) isN := by
  intro ρ M H σ x y v u Q P rx ry h
  unfold isN at h
  split at h
  · simp only [RD] at ry
    exact ⟨ry, h ρ H _ .refl P (by simp only [RD]; rw [isNon_ok rx])⟩
  · exact h.elim
theorem o_isnN : Op2 c W (fun x y H Q => y = .non ∧ Q (.bl (!decide (x = .non))) H) isnN := by
  intro ρ M H σ x y v u Q P rx ry h
  unfold isnN at h
  split at h
  · simp only [RD] at ry
    exact ⟨ry, h ρ H _ .refl P (by simp only [RD]; rw [isNon_ok rx])⟩
  · exact h.elim
theorem ve_isN (ha : VE c X W a fa) (hb : VE c X W b fb) : VE c X W (.Compare a [.Is] [b] pos) (e2 isN fa fb) := ve_cmp op_isN o_isN ha hb (nomark _)
theorem vt_isN (ha : VE c X W a fa) (hb : VE c X W b fb) : VT c X W (.Compare a [.Is] [b] pos) (tb (e2 isN fa fb)) := vt_cmp op_isN o_isN ha hb (nomark _)
theorem ve_isnN (ha : VE c X W a fa) (hb : VE c X W b fb) : VE c X W (.Compare a [.IsNot] [b] pos) (e2 isnN fa fb) := ve_cmp op_notN o_isnN ha hb (nomark _)
theorem vt_isnN (ha : VE c X W a fa) (hb : VE c X W b fb) : VT c X W (.Compare a [.IsNot] [b] pos) (tb (e2 isnN fa fb)) := vt_cmp op_notN o_isnN ha hb (nomark _)

/-! ### arithmetic -/
def addD (x y : D) (M : DM) : Rs D := match x, y with
  | .int i, .int j => .ok (.int (i + j)) M
  | .str i, .str j => if i.length + j.length ≤ sizeLine then .ok (.str (i ++ j)) M else .bad
  | .tup xs, .tup ys => if xs.length + ys.length ≤ sizeLine then .ok (.tup (xs ++ ys)) M else .bad
  | .obj i, .obj j => match M[i]?, M[j]? with
    | some (.lst xs), some (.lst ys) => if xs.length + ys.length ≤ sizeLine then .ok (.obj M.length) (M ++ [.lst (xs ++ ys)]) else .bad
    | _, _ => .bad
  | _, _ => .bad
def rAddA (K : PySem.W.Frag) : R2 := fun x y H Q => (rI0 (fun i j => .int (i + j)) x y H Q ∨ (∃ i j, x = .str i ∧ y = .str j ∧ i.length + j.length ≤ sizeLine ∧ Q (.str (i ++ j)) H)) ∨ (rCatA K x y H Q ∨ rCat x y H Q)
theorem op_addA : OpR X (binaryOp .Add) (rAddA X.K) := (op_add.or op_add_str).or (op_catA.or op_cat)
theorem o_add : Op2 c W (rAddA c.K) addD := by
  intro ρ M H σ x y v u Q P rx ry h
  unfold addD at h
  split at h
  · rename_i i j
    simp only [RD] at rx ry
    exact .inl (.inl ⟨i, j, rx, ry, h ρ H _ .refl P (by simp only [RD])⟩)
  · rename_i i j
    simp only [RD] at rx ry
    split at h
    · rename_i hz
      exact .inl (.inr ⟨i, j, rx, ry, hz, h ρ H _ .refl P (by simp only [RD])⟩)
    · exact h.elim
  · rename_i xs ys
    split at h
    · rename_i hz
      simp only [RD] at rx ry
      obtain ⟨a1, vs1, rfl, t1, r1⟩ := rx
      obtain ⟨a2, vs2, rfl, t2, r2⟩ := ry
      have l1 := RDs.len _ _ r1
      have l2 := RDs.len _ _ r2
      refine .inr (.inl ⟨a1, a2, vs1, vs2, rfl, rfl, t1.sq, t2.sq, by omega, fun e => ?_, fun _ e => ?_, fun _ _ p hp => ?_⟩)
      · subst e
        have : xs = [] := List.eq_nil_of_length_eq_zero l1
        subst this
        exact h ρ H _ .refl P (by simp only [RD]; exact ⟨a2, vs2, rfl, t2, r2⟩)
      · subst e
        have : ys = [] := List.eq_nil_of_length_eq_zero l2
        subst this
        rw [List.append_nil] at h
        exact h ρ H _ .refl P (by simp only [RD]; exact ⟨a1, vs1, rfl, t1, r1⟩)
      · exact post_tup P (RDs.append _ _ _ _ r1 r2) hp h
    · exact h.elim
  · rename_i i j
    split at h
    · rename_i xs ys e1 e2
      split at h
      · rename_i hz
        simp only [RD] at rx ry
        obtain ⟨a1, rfl, t1⟩ := rx
        obtain ⟨a2, rfl, t2⟩ := ry
        obtain ⟨vs1, q1, r1⟩ := P.at_ _ _ _ e1 t1
        obtain ⟨vs2, q2, r2⟩ := P.at_ _ _ _ e2 t2
        have l1 := RDs.len _ _ r1
        have l2 := RDs.len _ _ r2
        exact .inr (.inr ⟨a1, a2, vs1, vs2, rfl, rfl, q1, q2, by omega, fun p hp => post_lst P (RDs.append _ _ _ _ r1 r2) hp h⟩)
      · exact h.elim
    · exact h.elim
  · exact h.elim
theorem ve_add (I : In c X W k N sc) (ha : VE c X W a fa) (hb : VE c X W b fb) : VE c X W (.BinOp a .Add b pos) (e2 addD fa fb) := ve_op (by have h := op_addA (X := X); rw [I.hK] at h; exact h) o_add ha hb
/-- no greater than k -/
def lim (k : Nat) (i : Int) : Bool := Nat.ble i.natAbs k
theorem lim_le {k : Nat} {i : Int} (h : lim k i = true) : i.natAbs ≤ k := Nat.le_of_ble_eq_true h
theorem lim_of {k : Nat} {i : Int} (h : i.natAbs ≤ k) : lim k i = true := Nat.ble_eq_true_of_le h
/-- ints under a condition -/
def arD (C : Int → Int → Bool) (g : Int → Int → Int) (x y : D) (M : DM) : Rs D := match x, y with
  | .int i, .int j => if C i j = true then .ok (.int (g i j)) M else .bad
  | _, _ => .bad
theorem o_ar {C : Int → Int → Prop} {C' : Int → Int → Bool} {g : Int → Int → Int} (hC : ∀ i j, C' i j = true → C i j) : Op2 c W (rI C fun i j => .int (g i j)) (arD C' g) := by
  intro ρ M H σ x y v u Q P rx ry h
  unfold arD at h
  split at h
  · rename_i i j
    split at h
    · rename_i hc
      simp only [RD] at rx ry
      exact ⟨i, j, rx, ry, hC _ _ hc, h ρ H _ .refl P (by simp only [RD])⟩
    · exact h.elim
  · exact h.elim
abbrev subD := arD (fun _ _ => true) fun i j => i - j
abbrev mulD := arD (fun i j => lim 18446744073709551615 i || lim 18446744073709551615 j) fun i j => i * j
abbrev fdivD := arD (fun _ j => decide (0 < j) && lim 1073741823 j) fun i j => i / j
abbrev modD := arD (fun _ j => decide (0 < j)) fun i j => i % j
abbrev powD := arD (fun i j => decide (0 ≤ j) && lim 1000000 j && lim 18446744073709551615 i) fun i j => i ^ j.toNat
theorem op_subA : OpR X (binaryOp .Sub) (rI (fun _ _ => True) fun i j => .int (i - j)) := opI fun _ _ _ _ _ _ _ _ q => sub_int q
theorem ve_sub (ha : VE c X W a fa) (hb : VE c X W b fb) : VE c X W (.BinOp a .Sub b pos) (e2 subD fa fb) := ve_op op_subA (o_ar fun _ _ _ => trivial) ha hb
theorem mul_lim {i : Int} (h : lim 18446744073709551615 i = true) : -(2 ^ 64) < i ∧ i < 2 ^ 64 := by
  have := lim_le h
  omega
theorem ve_mul (ha : VE c X W a fa) (hb : VE c X W b fb) : VE c X W (.BinOp a .Mult b pos) (e2 mulD fa fb) := ve_op op_mul (o_ar fun i j h => by
  rcases (Bool.or_eq_true _ _).mp h with h | h
  · exact .inl (mul_lim h)
  · exact .inr (mul_lim h)) ha hb
theorem ve_fdiv (ha : VE c X W a fa) (hb : VE c X W b fb) : VE c X W (.BinOp a .FloorDiv b pos) (e2 fdivD fa fb) := ve_op op_fdiv (o_ar fun i j h => by
  rw [Bool.and_eq_true] at h
  have h1 := of_decide_eq_true h.1
  have h2 := lim_le h.2
  exact ⟨h1, by omega⟩) ha hb
theorem ve_mod (ha : VE c X W a fa) (hb : VE c X W b fb) : VE c X W (.BinOp a .Mod b pos) (e2 modD fa fb) := ve_op op_mod (o_ar fun _ _ h => of_decide_eq_true h) ha hb
theorem ve_pow (ha : VE c X W a fa) (hb : VE c X W b fb) : VE c X W (.BinOp a .Pow b pos) (e2 powD fa fb) := ve_op op_pow (o_ar fun i j h => by
  rw [Bool.and_eq_true, Bool.and_eq_true] at h
  have h1 := of_decide_eq_true h.1.1
  have h2 := lim_le h.1.2
  have h3 := lim_le h.2
  exact ⟨h1, by omega, by omega⟩) ha hb
def negD (x : D) (M : DM) : Rs D := match x with
  | .int i => .ok (.int (-i)) M
  | _ => .bad
theorem ve_neg (ha : VE c X W a fa) : VE c X W (.UnaryOp .USub a pos) (e1 negD fa) := by
  obtain ⟨t, p, s⟩ := ha
  refine ⟨_, pe_un un_neg p, sim1 (ta := t) s ?_⟩
  intro ρ M H σ x v Q P rx h
  cases x with
  | int i =>
    simp only [RD] at rx
    exact ⟨i, rx, h ρ H _ .refl P (by simp only [RD])⟩
  | _ => exact h.elim

/-! ### subscripts -/
def ixItems (x : D) (k : Int) (M : DM) : Rs D := match itemsD x M with
  | some ds => match atI ds k with
    | some d => .ok d M
    | none => .bad
  | none => .bad
def ixD (x y : D) (M : DM) : Rs D := match y with
  | .int k => match x with
    | .str s => if s.length ≤ sizeLine then match atI s.cps.toList k with
        | some q => .ok (.str ⟨#[q]⟩) M
        | none => .bad
      else .bad
    | x => ixItems x k M
  | _ => .bad
theorem RDs.atI {ρ : List Addr} {H : Hp} {ds : List D} {vs : List V} {k : Int} {d : D} (r : RDs c ρ H ds vs) (h : atI ds k = some d) : ∃ v, L2.atI vs k = some v ∧ RD c ρ H d v := by
  unfold L2.atI at h ⊢
  rw [← RDs.len _ _ r]
  cases e : ixN ds.length k with
  | none => rw [e] at h; cases h
  | some j =>
    rw [e] at h
    exact RDs.get _ _ r j d h
theorem o_ix : Op2 c W (rIx c.K) ixD := by
  intro ρ M H σ x y v u Q P rx ry h
  cases y with
  | int k =>
    simp only [RD] at ry
    have seq : ∀ ds d, itemsD x M = some ds → atI ds k = some d → Post c (WE W σ) ρ H (RD c) Q (.ok d M) → rIx c.K v u H Q := fun ds d e e' q => by
      obtain ⟨xs, ⟨a, rfl, hs⟩, rs⟩ := RDs.sq P rx e
      obtain ⟨w, h1, h2⟩ := RDs.atI rs e'
      rcases hs with hs | hs
      · exact .inl ⟨a, xs, k, w, rfl, ry, hs, h1, q ρ H _ .refl P h2⟩
      · exact .inr (.inl ⟨a, xs, k, w, rfl, ry, hs, h1, q ρ H _ .refl P h2⟩)
    have other : Post c (WE W σ) ρ H (RD c) Q (ixItems x k M) → rIx c.K v u H Q := fun q => by
      unfold ixItems at q
      split at q
      · rename_i ds e
        split at q
        · rename_i d e'
          exact seq ds d e e' q
        · exact q.elim
      · exact q.elim
    cases x with
    | str s =>
      simp only [RD] at rx
      simp only [ixD] at h
      split at h
      · rename_i hz
        split at h
        · rename_i q e
          exact .inr (.inr ⟨s, k, q, rx, ry, hz, e, h ρ H _ .refl P (by simp only [RD])⟩)
        · exact h.elim
      · exact h.elim
    | _ => exact other h
  | _ => exact h.elim
theorem ve_ix (I : In c X W k N sc) (ha : VE c X W a fa) (hb : VE c X W b fb) (hs : PlainIx b := by exact fun _ _ => rfl) : VE c X W (.Subscript a b pos) (e2 ixD fa fb) := by
  obtain ⟨ta, pa, sa⟩ := ha
  obtain ⟨tb, pb, sb⟩ := hb
  exact ⟨_, pe_ix (by have h := ix_seq (X := X); rw [I.hK] at h; exact h) pa pb hs, sim2 (ta := ta) (tb := tb) sa sb o_ix⟩

/-! ### calls by values -/
def eCall (g : List D → DM → Rs D) (f : FA) : FE := fun δ M => (f δ M).bind g
def OpL (c : Ctx) (W : WX) (r : List V → Hp → VK → Prop) (g : List D → DM → Rs D) : Prop :=
  ∀ ρ M H σ xs vs Q, Rep c ρ M H → RDs c ρ H xs vs → Post c (WE W σ) ρ H (RD c) Q (g xs M) → r vs H Q
theorem sim_call {t : TA} {f : FA} {r : List V → Hp → VK → Prop} {g : List D → DM → Rs D} (s : Sim c W (RDs c) t f) (hg : OpL c W r g) : Sim c W (RD c) (tCB r t) (eCall g f) := by
  intro ρ M H δ σ Q P r' h
  refine s.bind P r' h fun xs M1 ρ1 H1 vs e1 P1 s1 r1 _ h1 => ?_
  exact hg ρ1 M1 H1 σ xs vs Q P1 r1 h1
theorem ve_callB {x : Str} {p : Pos} {e : Expr} {es : List Expr} {id : String} {r : List V → Hp → VK → Prop} {g : List D → DM → Rs D} {f : FA} (I : In c X W k N sc) (hc : CallR X (.builtin id) r) (hg : OpL c W r g) (n : Gn sc x) (hm : c.mg x = none)
    (hv : bootBuiltins x = some (.builtin id)) (ha : VA c X W (e :: es) f) (hn : x ≠ "__name__" := by decide)
    (he : starEach (e :: es) X.env = (false, eval e X.env) :: starEach es X.env := by rfl) (hpl : (backTo pos (starEach es X.env)).any (·.1) = false := by rfl) : VE c X W (.Call (.Name x p) (e :: es) [] pos) (eCall g f) := by
  obtain ⟨⟨t, pa, s⟩, _⟩ := ha
  exact ⟨_, pe_callB hc (I.gl n) (by rw [I.hmg]; exact hm) hv pa hn n.db he hpl, sim_call s hg⟩
theorem ve_callTy {x : Str} {p : Pos} {e : Expr} {es : List Expr} {T : String} {r : List V → Hp → VK → Prop} {g : List D → DM → Rs D} {f : FA} (I : In c X W k N sc) (hc : CallR X (.type T) r) (hg : OpL c W r g) (n : Gn sc x) (hm : c.mg x = none)
    (hv : bootBuiltins x = some (.type T)) (ha : VA c X W (e :: es) f) (hn : x ≠ "__name__" := by decide)
    (he : starEach (e :: es) X.env = (false, eval e X.env) :: starEach es X.env := by rfl) (hpl : (backTo pos (starEach es X.env)).any (·.1) = false := by rfl) : VE c X W (.Call (.Name x p) (e :: es) [] pos) (eCall g f) := by
  obtain ⟨⟨t, pa, s⟩, _⟩ := ha
  exact ⟨_, pe_callTy hc (I.gl n) (by rw [I.hmg]; exact hm) hv pa hn n.db he hpl, sim_call s hg⟩
def intD (xs : List D) (M : DM) : Rs D := match xs with
  | [.int i] => .ok (.int i) M
  | [.bl k] => .ok (.int (if k then 1 else 0)) M
  | _ => .bad
theorem rds1 {ρ : List Addr} {H : Hp} {d : D} {vs : List V} (r : RDs c ρ H [d] vs) : ∃ v, vs = [v] ∧ RD c ρ H d v := by
  simp only [RDs] at r
  obtain ⟨x, xs, rfl, h1, rfl⟩ := r
  exact ⟨x, rfl, h1⟩
theorem rds2 {ρ : List Addr} {H : Hp} {d e : D} {vs : List V} (r : RDs c ρ H [d, e] vs) : ∃ v u, vs = [v, u] ∧ RD c ρ H d v ∧ RD c ρ H e u := by
  simp only [RDs] at r
  obtain ⟨x, xs, rfl, h1, y, ys, rfl, h2, rfl⟩ := r
  exact ⟨x, y, rfl, h1, h2⟩
theorem ve_int_ {e : Expr} {f : FA} {p : Pos} (I : In c X W k N sc) (n : Gn sc "int") (hm : c.mg "int" = none) (ha : VA c X W [e] f) (he : starEach [e] X.env = [(false, eval e X.env)] := by rfl) : VE c X W (.Call (.Name "int" p) [e] [] pos) (eCall intD f) := by
  refine ve_callTy I call_int1 ?_ n hm PyProof.Rows.boot_int ha (he := he)
  intro ρ M H σ xs vs Q P r h
  unfold intD at h
  split at h
  · obtain ⟨v, rfl, r1⟩ := rds1 r
    simp only [RD] at r1
    exact .inl ⟨_, by rw [r1], h ρ H _ .refl P (by simp only [RD])⟩
  · obtain ⟨v, rfl, r1⟩ := rds1 r
    simp only [RD] at r1
    exact .inr ⟨_, by rw [r1], h ρ H _ .refl P (by simp only [RD])⟩
  · exact h.elim
def lenD (xs : List D) (M : DM) : Rs D := match xs with
  | [.str s] => if s.length ≤ sizeLine then .ok (.int s.length) M else .bad
  | [x] => match itemsD x M with
    | some ds => .ok (.int ds.length) M
    | none => .bad
  | _ => .bad
theorem ve_len {e : Expr} {f : FA} {p : Pos} (I : In c X W k N sc) (n : Gn sc "len") (hm : c.mg "len" = none) (ha : VA c X W [e] f) (he : starEach [e] X.env = [(false, eval e X.env)] := by rfl) : VE c X W (.Call (.Name "len" p) [e] [] pos) (eCall lenD f) := by
  refine ve_callB I (by have h := call_len (X := X); rw [I.hK] at h; exact h) ?_ n hm PySem.boot_len ha (he := he)
  intro ρ M H σ xs vs Q P r h
  unfold lenD at h
  split at h
  · rename_i s
    obtain ⟨v, rfl, r1⟩ := rds1 r
    simp only [RD] at r1
    split at h
    · rename_i hz
      exact ⟨v, s.length, rfl, by subst r1; exact ⟨hz, rfl⟩, h ρ H _ .refl P (by simp only [RD])⟩
    · exact h.elim
  · rename_i x _
    obtain ⟨v, rfl, r1⟩ := rds1 r
    split at h
    · rename_i ds e
      obtain ⟨ys, ⟨a, rfl, hs⟩, rs⟩ := RDs.sq P r1 e
      have hl := RDs.len _ _ rs
      refine ⟨.ref a, ds.length, rfl, ?_, h ρ H _ .refl P (by simp only [RD])⟩
      rcases hs with hs | hs
      · exact .inl ⟨ys, hs, hl⟩
      · exact .inr ⟨ys, hs, hl⟩
    · exact h.elim
  · exact h.elim
/-- list(x): a new list -/
def listD (xs : List D) (M : DM) : Rs D := match xs with
  | [x] => match itemsD x M with
    | some ds => .ok (.obj M.length) (M ++ [.lst ds])
    | none => .bad
  | _ => .bad
theorem ve_list {e : Expr} {f : FA} {p : Pos} (I : In c X W k N sc) (n : Gn sc "list") (hm : c.mg "list" = none) (ha : VA c X W [e] f) (he : starEach [e] X.env = [(false, eval e X.env)] := by rfl) : VE c X W (.Call (.Name "list" p) [e] [] pos) (eCall listD f) := by
  refine ve_callTy I (by have h := call_list_of (X := X); rw [I.hK] at h; exact h) ?_ n hm PyProof.Rows.boot_list ha (he := he)
  intro ρ M H σ xs vs Q P r h
  unfold listD at h
  split at h
  · obtain ⟨v, rfl, r1⟩ := rds1 r
    split at h
    · rename_i ds e
      obtain ⟨ys, ⟨a, rfl, hs⟩, rs⟩ := RDs.sq P r1 e
      exact ⟨a, ys, rfl, hs, fun l hl => post_lst P rs hl h⟩
    · exact h.elim
  · exact h.elim
def tupleD (xs : List D) (M : DM) : Rs D := match xs with
  | [x] => match itemsD x M with
    | some ds => .ok (.tup ds) M
    | none => .bad
  | _ => .bad
theorem ve_tuple {e : Expr} {f : FA} {p : Pos} (I : In c X W k N sc) (n : Gn sc "tuple") (hm : c.mg "tuple" = none) (ha : VA c X W [e] f) (he : starEach [e] X.env = [(false, eval e X.env)] := by rfl) : VE c X W (.Call (.Name "tuple" p) [e] [] pos) (eCall tupleD f) := by
  refine ve_callTy I (by have h := call_tuple_of (X := X); rw [I.hK] at h; exact h) ?_ n hm PyProof.Rows.boot_tuple ha (he := he)
  intro ρ M H σ xs vs Q P r h
  unfold tupleD at h
  split at h
  · rename_i x
    obtain ⟨v, rfl, r1⟩ := rds1 r
    split at h
    · rename_i ds e
      cases x with
      | tup es =>
        cases e
        have r2 := r1
        simp only [RD] at r1
        obtain ⟨a, ys, rfl, t, rs⟩ := r1
        exact ⟨a, ys, rfl, .inr ⟨t.sq, h ρ H _ .refl P r2⟩⟩
      | rol es =>
        cases e
        simp only [RD] at r1
        obtain ⟨a, ys, rfl, t, rs⟩ := r1
        exact ⟨a, ys, rfl, .inl ⟨t.sq, fun l hl => post_tup P rs hl h⟩⟩
      | obj i =>
        simp only [RD] at r1
        obtain ⟨a, rfl, h1⟩ := r1
        simp only [itemsD] at e
        cases e2 : M[i]? with
        | none => rw [e2] at e; cases e
        | some mo =>
          rw [e2] at e
          cases mo with
          | lst es =>
            cases e
            obtain ⟨ys, q1, q2⟩ := P.at_ i _ a e2 h1
            exact ⟨a, ys, rfl, .inl ⟨.of q1, fun l hl => post_tup P q2 hl h⟩⟩
          | _ => cases e
      | _ => cases e
    · exact h.elim
  · exact h.elim
/-- isinstance of data and a built-in type -/
def tyName (x : D) (M : DM) : Option String := match x with
  | .non => some "NoneType"
  | .bl _ => some "bool"
  | .int _ => some "int"
  | .str _ => some "str"
  | .tup _ => some "tuple"
  | .rol _ => some "list"
  | .obj i => match M[i]? with
    | some (.lst _) => some "list"
    | some (.dic _) => some "dict"
    | _ => none
  | _ => none
def isiNames : List String := ["NoneType", "bool", "int", "str", "tuple", "list", "dict"]
/-- isinstance of a built-in type's value and a built-in type -/
def isiTab (a b : String) : Option Bool := if isiNames.contains a = true then if isiNames.tail.contains b = true then some (a == b || (a == "bool" && b == "int")) else none else none
theorem isiTab_all : (isiNames.all fun a => isiNames.tail.all fun b => kitB a b == some (a == b || (a == "bool" && b == "int"))) = true := by decide +kernel
theorem isiTab_ok {a b : String} {r : Bool} (h : isiTab a b = some r) : kitB a b = some r := by
  unfold isiTab at h
  split at h
  · rename_i ha
    split at h
    · rename_i hb
      cases h
      have h1 := List.all_eq_true.mp isiTab_all a (List.contains_iff_mem.mp ha)
      have h2 := List.all_eq_true.mp h1 b (List.contains_iff_mem.mp hb)
      exact beq_iff_eq.mp h2
    · cases h
  · cases h
def isiD (xs : List D) (M : DM) : Rs D := match xs with
  | [x, .ty T] => match tyName x M with
    | some n => match isiTab n T with
      | some b => .ok (.bl b) M
      | none => .bad
    | none => .bad
  | _ => .bad
theorem tyName_ok {ρ : List Addr} {M : DM} {H : Hp} {x : D} {v : V} {n : String} (P : Rep c ρ M H) (r : RD c ρ H x v) (h : tyName x M = some n) : TyX c.K H v (.type n) := by
  cases x with
  | non => cases h; simp only [RD] at r; subst r; exact .base .non
  | bl b => cases h; simp only [RD] at r; subst r; exact .base (.bl b)
  | int b => cases h; simp only [RD] at r; subst r; exact .base (.int b)
  | str b => cases h; simp only [RD] at r; subst r; exact .base (.str b)
  | tup ds =>
    cases h
    simp only [RD] at r
    obtain ⟨a, xs, rfl, t, _⟩ := r
    rcases t with t | ⟨o, its, m, h1, h2, _⟩
    · exact .base (.tup t)
    · exact .kTuple h1 h2
  | rol ds =>
    cases h
    simp only [RD] at r
    obtain ⟨a, xs, rfl, t, _⟩ := r
    rcases t with ⟨o, t⟩ | ⟨o, its, m, h1, h2, _⟩
    · exact .base (.frz t)
    · exact .kList h1 h2
  | obj i =>
    simp only [RD] at r
    obtain ⟨a, rfl, h1⟩ := r
    simp only [tyName] at h
    cases e : M[i]? with
    | none => rw [e] at h; cases h
    | some mo =>
      rw [e] at h
      cases mo with
      | lst es =>
        cases h
        obtain ⟨ys, q1, q2⟩ := P.at_ i _ a e h1
        exact .base (.lst q1)
      | dic es =>
        cases h
        obtain ⟨ys, q1, q2⟩ := P.at_ i _ a e h1
        exact .base (.dK q1)
      | _ => cases h
  | _ => cases h
theorem ve_isi {e e' : Expr} {f : FA} {p : Pos} (I : In c X W k N sc) (n : Gn sc "isinstance") (hm : c.mg "isinstance" = none) (ha : VA c X W [e, e'] f) (he : starEach [e, e'] X.env = (false, eval e X.env) :: starEach [e'] X.env := by rfl)
    (hpl : (backTo pos (starEach [e'] X.env)).any (·.1) = false := by rfl) : VE c X W (.Call (.Name "isinstance" p) [e, e'] [] pos) (eCall isiD f) := by
  refine ve_callB I (by have h := call_isi (X := X); rw [I.hK] at h; exact h) ?_ n hm (by decide +kernel) ha (he := he) (hpl := hpl)
  intro ρ M H σ xs vs Q P r h
  unfold isiD at h
  split at h
  · rename_i x T
    obtain ⟨v, u, rfl, r1, r2⟩ := rds2 r
    split at h
    · rename_i m e
      split at h
      · rename_i b e'
        simp only [RD] at r2
        subst r2
        exact ⟨v, _, _, _, b, rfl, .ty T, tyName_ok P r1 e, kit_ty (isiTab_ok e'), h ρ H _ .refl P (by simp only [RD])⟩
      · exact h.elim
    · exact h.elim
  · exact h.elim
end
end DL

set_option Elab.async false
set_option linter.all false
set_option maxRecDepth 100000
set_option maxHeartbeats 2000000
namespace DL
open PySem PySem.Spec L2
open PyProof.Rows hiding St

/-! ### blocks, small statements -/
def sNil : FS := fun δ M => .nx δ M
def sSeq (f g : FS) : FS := fun δ M => (f δ M).seq g
def sExpr (f : FE) : FS := fun δ M => (f δ M).ro δ fun _ M1 => .nx δ M1
def sRet (f : FE) : FS := fun δ M => (f δ M).ro δ fun d M1 => .rt d M1
def sRetN : FS := fun _ M => .rt .non M
def sIf (t : FT) (f g : FS) : FS := fun δ M => (t δ M).ro δ fun b M1 => if b = true then f δ M1 else g δ M1
def sSet (i : Nat) (f : FE) : FS := fun δ M => (f δ M).ro δ fun d M1 => .nx (δ.set i (some d)) M1
def sBad : FS := fun _ _ => .bad
def sBreak : FS := fun δ M => .bk δ M
def sCont : FS := fun δ M => .ct δ M
/-- o[i] = e of a list -/
def putD (o i d : D) (M : DM) : Option DM := match o, i with
  | .obj n, .int k => match M[n]? with
    | some (.lst ds) => match ixN ds.length k with
      | some j => some (M.set n (.lst (ds.set j d)))
      | none => none
    | _ => none
  | _, _ => none
def sSub (fe fo fi : FE) : FS := fun δ M => (fe δ M).ro δ fun d M1 => (fo δ M1).ro δ fun o M2 => (fi δ M2).ro δ fun i M3 => match putD o i d M3 with
  | some M4 => .nx δ M4
  | none => .bad
section
variable {c : Ctx} {X : Cx} {W : WX} {k : Nat} {N : List Str} {sc : Scope} {e : Expr} {f : FE} {pos : Pos} {st : Stmt} {rest : List Stmt} {fs gs : FS}
theorem vss_nil : VSs c X W [] sNil := ⟨_, pss_nil, fun ρ M H δ σ Dn P s h => h ρ H σ .refl P s⟩
theorem vss_cons (h1 : VS c X W st fs) (h2 : VSs c X W rest gs) : VSs c X W (st :: rest) (sSeq fs gs) := by
  obtain ⟨t, p, s⟩ := h1
  obtain ⟨u, q, r⟩ := h2
  refine ⟨_, pss_cons p q, fun ρ M H δ σ Dn P rs h => ?_⟩
  refine s ρ M H δ σ _ P rs ?_
  unfold sSeq at h
  cases e : fs δ M with
  | nx δ1 M1 =>
    rw [e] at h
    intro ρ1 H1 σ1 e1 P1 r1
    exact r ρ1 M1 H1 δ1 σ1 Dn P1 r1 (PostS.mono e1 h)
  | rt d M1 => rw [e] at h; exact h
  | bk δ1 M1 => rw [e] at h; exact h
  | ct δ1 M1 => rw [e] at h; exact h
  | ex x δ1 M1 => rw [e] at h; exact h
  | bad => rw [e] at h; exact h
theorem vss_one (h1 : VS c X W st fs) : VSs c X W [st] fs := let ⟨t, p, s⟩ := h1; ⟨t, pss_one p, s⟩
theorem vs_pass : VS c X W (.Pass pos) sNil := ⟨_, ps_pass, fun ρ M H δ σ Dn P s h => h ρ H σ .refl P s⟩
theorem vs_break : VS c X W (.Break pos) sBreak := ⟨_, ps_break, fun ρ M H δ σ Dn P s h => h ρ H σ .refl P s⟩
theorem vs_cont : VS c X W (.Continue pos) sCont := ⟨_, ps_continue, fun ρ M H δ σ Dn P s h => h ρ H σ .refl P s⟩
theorem vs_doc {x : Str} {j : Nat} {pos' : Pos} : VS c X W (.Expr (.Constant (.str x) j pos) pos') sNil := ⟨_, ps_doc, fun ρ M H δ σ Dn P s h => h ρ H σ .refl P s⟩
theorem vs_never : VS c X W st sBad := ⟨_, ps_never, fun ρ M H δ σ Dn P s h => h.elim⟩
theorem vs_expr (he : VE c X W e f) (hs : swapsWith e none pos.line X.env = pure false := by rfl) : VS c X W (.Expr e pos) (sExpr f) := by
  obtain ⟨t, p, s⟩ := he
  refine ⟨_, ps_expr p hs, fun ρ M H δ σ Dn P r h => ?_⟩
  exact s.ro P r h fun d M1 ρ1 H1 v e1 P1 s1 r1 _ h1 => h1 ρ1 H1 σ .refl P1 s1
theorem vs_ret (he : VE c X W e f) : VS c X W (.Return (some e) pos) (sRet f) := by
  obtain ⟨t, p, s⟩ := he
  refine ⟨_, ps_ret p, fun ρ M H δ σ Dn P r h => ?_⟩
  exact s.ro P r h fun d M1 ρ1 H1 v e1 P1 s1 r1 _ h1 => h1 ρ1 H1 v .refl P1 r1
theorem vs_retN : VS c X W (.Return none pos) sRetN := ⟨_, ps_retN, fun ρ M H δ σ Dn P r h => h ρ H .non .refl P (by simp only [RD])⟩
theorem vs_if {a b : List Stmt} {t : FT} (ht : VT c X W e t) (ha : VSs c X W a fs) (hb : VSs c X W b gs) : VS c X W (.If e a b pos) (sIf t fs gs) := by
  obtain ⟨t, p, s⟩ := ht
  obtain ⟨t1, p1, s1⟩ := ha
  obtain ⟨t2, p2, s2⟩ := hb
  refine ⟨_, ps_if p p1 p2, fun ρ M H δ σ Dn P r h => ?_⟩
  refine s.ro P r h fun x M1 ρ1 H1 v e1 P1 r1 q1 _ h1 => ?_
  cases q1
  cases x with
  | true => rw [if_pos rfl] at h1 ⊢; exact s1 ρ1 M1 H1 δ σ Dn P1 r1 h1
  | false => rw [if_neg Bool.false_ne_true] at h1 ⊢; exact s2 ρ1 M1 H1 δ σ Dn P1 r1 h1
theorem In.nd' (I : In c X W k N sc) : X.N.Nodup := by rw [I.hN]; exact I.nd
theorem In.at' (I : In c X W k N sc) {i : Nat} {x : Str} (n : Nm N sc i x) : X.N[i]? = some x := by rw [I.hN]; exact n.at_
theorem vs_set (I : In c X W k N sc) {i : Nat} {x : Str} {pos' : Pos} (n : Nm N sc i x) (he : VE c X W e f) (hs : swapsWith e (some (.Name x pos')) pos.line X.env = pure false := by rfl) : VS c X W (.Assign [.Name x pos'] e pos) (sSet i f) := by
  obtain ⟨t, p, s⟩ := he
  refine ⟨_, ps_set I.nd' (I.at' n) (I.loc n) p hs (.inl (I.hfn x)), fun ρ M H δ σ Dn P r h => ?_⟩
  exact s.ro P r h fun d M1 ρ1 H1 v e1 P1 s1 r1 _ h1 => h1 ρ1 H1 _ .refl P1 (s1.set i r1)
theorem post_write {W : WX} {ρ : List Addr} {M : DM} {H : Hp} {i : Nat} {a : Addr} {ds ds' : List D} {xs' : List V} (P : Rep c ρ M H) (h1 : ρ[i]? = some a) (r : RDs c ρ H ds' xs') :
    Rep c ρ (M.set i (.lst ds')) (upd H a (.lst xs')) ∧ Ext ρ H ρ (upd H a (.lst xs')) := by
  have m := (P.there (List.mem_of_getElem? h1)).choose_spec.2
  have e : Ext ρ H ρ (upd H a (.lst xs')) := Ext.write m
  exact ⟨P.write h1 ⟨xs', upd_same, RDs.mono e _ _ r⟩, e⟩
theorem vs_sub (I : In c X W k N sc) {o i : Expr} {fo fi : FE} {pos' : Pos} (he : VE c X W e f) (ho : VE c X W o fo) (hi : VE c X W i fi)
    (ha : ∀ v, assign (.Subscript o i pos') X.env v = (do
      let ov ← holding [v] (eval o X.env)
      let iv ← holding [v, ov] (eval i X.env)
      standAt pos'
      holding [v, ov, iv] (setItem ov iv v)
      release [v, ov, iv] []) := by intro _; rfl)
    (hs : swapsWithSole [.Subscript o i pos'] e pos.line X.env = pure false := by rfl) (hw : swappedStores [.Subscript o i pos'] e X.env = pure none := by rfl)
    (h1 : (assignEach [.Subscript o i pos'] X.env).map (·.2) = [assign (.Subscript o i pos') X.env] := by rfl) : VS c X W (.Assign [.Subscript o i pos'] e pos) (sSub f fo fi) := by
  obtain ⟨t, p, s⟩ := he
  obtain ⟨t1, p1, s1⟩ := ho
  obtain ⟨t2, p2, s2⟩ := hi
  refine ⟨_, ps_asg p (pg_sub p1 p2 set_list ha) hs hw h1, fun ρ M H δ σ Dn P r h => ?_⟩
  refine s.ro P r h fun d M1 ρ1 H1 v e1 P1 s1' r1 q7 h1 => ?_
  clear q7
  refine s1.ro P1 s1' h1 fun o M2 ρ2 H2 ov e2 P2 s2' r2 q8 h2 => ?_
  clear q8
  refine s2.ro P2 s2' h2 fun i M3 ρ3 H3 iv e3 P3 s3' r3 q9 h3 => ?_
  clear q9
  unfold putD at h3
  cases o with
  | obj n =>
    cases i with
    | int j =>
      simp only at h3
      cases eM : M3[n]? with
      | none => simp only [eM] at h3; exact h3.elim
      | some mo =>
        cases mo with
        | lst ds =>
          simp only [eM] at h3
          cases em : ixN ds.length j with
          | none => simp only [em] at h3; exact h3.elim
          | some m =>
            simp only [em] at h3
            simp only [RD] at r3
            have r2' := RD.mono e3 _ _ r2
            simp only [RD] at r2'
            obtain ⟨a, rfl, ha⟩ := r2'
            obtain ⟨xs, q1, q2⟩ := P3.at_ _ _ _ eM ha
            have rv := RD.mono (e2.trans e3) _ _ r1
            obtain ⟨P4, e4⟩ := post_write (W := W) (ds := ds) P3 ha (RDs.set _ _ q2 m _ _ rv)
            refine ⟨a, xs, j, m, rfl, r3, q1, by rw [← RDs.len _ _ q2]; exact em, ?_⟩
            exact h3 ρ3 _ σ e4 P4 (s3'.mono e4)
        | _ => simp only [eM] at h3; exact h3.elim
    | _ => exact h3.elim
  | _ => exact h3.elim

/-! ### methods of lists -/
def tyD (T : String) (x : D) (M : DM) : Bool := match x with
  | .str _ => T == "str"
  | .int _ => T == "int"
  | .rol _ => T == "list"
  | .obj i => match M[i]? with
    | some (.lst _) => T == "list"
    | some (.dic _) => T == "dict"
    | _ => false
  | _ => false
theorem tyD_ok {ρ : List Addr} {M : DM} {H : Hp} {x : D} {v : V} {T : String} (P : Rep c ρ M H) (r : RD c ρ H x v) (h : tyD T x M = true) : tyV c.K T v H := by
  cases x with
  | str s => simp only [RD] at r; subst r; exact beq_iff_eq.mp h
  | int s => simp only [RD] at r; subst r; exact beq_iff_eq.mp h
  | rol ds =>
    simp only [RD] at r
    obtain ⟨a, xs, rfl, t, _⟩ := r
    exact .inl ⟨beq_iff_eq.mp h, xs, t.sq⟩
  | obj i =>
    simp only [RD] at r
    obtain ⟨a, rfl, h1⟩ := r
    simp only [tyD] at h
    cases e : M[i]? with
    | none => rw [e] at h; cases h
    | some mo =>
      rw [e] at h
      cases mo with
      | lst es =>
        obtain ⟨ys, q1, q2⟩ := P.at_ i _ a e h1
        exact .inl ⟨beq_iff_eq.mp h, ys, .of q1⟩
      | dic es =>
        obtain ⟨ys, q1, q2⟩ := P.at_ i _ a e h1
        exact .inr (.inr (.inl ⟨beq_iff_eq.mp h, .inl ⟨ys, q1⟩⟩))
      | _ => cases h
  | _ => cases h
def eMt (T : String) (g : D → List D → DM → Rs D) (fo : FE) (fa : FA) : FE := fun δ M => (fo δ M).bind fun x M1 => if tyD T x M1 = true then (fa δ M1).bind fun xs M2 => g x xs M2 else .bad
def OpM (c : Ctx) (W : WX) (r : V → List V → Hp → VK → Prop) (g : D → List D → DM → Rs D) : Prop :=
  ∀ ρ M H σ x v xs vs Q, Rep c ρ M H → RD c ρ H x v → RDs c ρ H xs vs → Post c (WE W σ) ρ H (RD c) Q (g x xs M) → r v vs H Q
theorem ve_bm {o : Expr} {es : List Expr} {name : Str} {apos cpos : Pos} {T id : String} {r : V → List V → Hp → VK → Prop} {g : D → List D → DM → Rs D} {fo : FE} {fa : FA} (I : In c X W k N sc) (pa : PlainAttrs T) (slot : Slot T name id)
    (hty : typeOf (.builtin id) = pure (.type "method_descriptor")) (hm : MtR X id r) (hg : OpM c W r g) (ho : VE c X W o fo) (ha : VA c X W (e :: es) fa)
    (hbase : attributeBase o name X.env (eval o X.env) = eval o X.env := by rfl)
    (hfew : ((backTo cpos (starEach (e :: es) X.env)).all (fun x => !x.1) && (backToKw cpos (keywordEach [] X.env)).all (fun x => x.1.isSome)
      && decide ((e :: es).length + ([] : List Keyword).length + (if ([] : List Keyword).isEmpty then 0 else 1) < 30)) = true := by rfl)
    (hline : (apos.endLine == cpos.line) = true := by rfl) (hs : starEach (e :: es) X.env = (false, eval e X.env) :: starEach es X.env := by rfl) (hplain : (backTo cpos (starEach es X.env)).any (·.1) = false := by rfl) :
    VE c X W (.Call (.Attribute o name apos) (e :: es) [] cpos) (eMt T g fo fa) := by
  obtain ⟨t, p, s⟩ := ho
  obtain ⟨⟨t1, p1, s1⟩, _⟩ := ha
  refine ⟨_, pe_bm pa slot hty hm p p1 hbase hfew hline hs hplain, fun ρ M H δ σ Q P r h => ?_⟩
  refine s.bind P r h fun x M1 ρ1 H1 v e1 P1 s1' r1 _ h1 => ?_
  split at h1
  · rename_i ty
    refine ⟨by rw [I.hK]; exact tyD_ok P1 r1 ty, ?_⟩
    refine s1.bind P1 s1' h1 fun xs M2 ρ2 H2 vs e2 P2 s2' r2 _ h2 => ?_
    exact hg ρ2 M2 H2 σ x v xs vs Q P2 (RD.mono e2 _ _ r1) r2 h2
  · exact h1.elim
def appendD (x : D) (xs : List D) (M : DM) : Rs D := match x, xs with
  | .obj n, [y] => match M[n]? with
    | some (.lst ds) => if ds.length < sizeLine then .ok .non (M.set n (.lst (ds ++ [y]))) else .bad
    | _ => .bad
  | _, _ => .bad
theorem o_append : OpM c W rAppend appendD := by
  intro ρ M H σ x v xs vs Q P rx rs h
  unfold appendD at h
  split at h
  · rename_i n y
    split at h
    · rename_i ds eM
      split at h
      · rename_i hz
        simp only [RD] at rx
        obtain ⟨a, rfl, ha⟩ := rx
        obtain ⟨y', rfl, ry⟩ := rds1 rs
        obtain ⟨zs, q1, q2⟩ := P.at_ _ _ _ eM ha
        obtain ⟨P4, e4⟩ := post_write (W := W) (ds := ds) P ha (RDs.append _ _ _ _ q2 (RDs.one ry))
        exact ⟨a, zs, y', rfl, rfl, q1, by rw [← RDs.len _ _ q2]; exact hz, h ρ _ .non e4 P4 (by simp only [RD])⟩
      · exact h.elim
    · exact h.elim
  · exact h.elim
theorem ve_append {o : Expr} {apos cpos : Pos} {fo : FE} {fa : FA} (I : In c X W k N sc) (ho : VE c X W o fo) (ha : VA c X W [e] fa)
    (hbase : attributeBase o "append" X.env (eval o X.env) = eval o X.env := by rfl)
    (hfew : ((backTo cpos (starEach [e] X.env)).all (fun x => !x.1) && (backToKw cpos (keywordEach [] X.env)).all (fun x => x.1.isSome)
      && decide ([e].length + ([] : List Keyword).length + (if ([] : List Keyword).isEmpty then 0 else 1) < 30)) = true := by rfl)
    (hline : (apos.endLine == cpos.line) = true := by rfl) (hs : starEach [e] X.env = (false, eval e X.env) :: starEach [] X.env := by rfl) :
    VE c X W (.Call (.Attribute o "append" apos) [e] [] cpos) (eMt "list" appendD fo fa) :=
  ve_bm I PySem.F.plainAttrs_list PySem.F.slot_list_append PySem.F.type_list_append mt_append o_append ho ha hbase hfew hline hs rfl

/-! ### targets -/
abbrev FG := D → DSt → DM → Option (DSt × DM)
def SimG (c : Ctx) (t : TG) (g : FG) : Prop := ∀ ρ M H δ σ d v Q, Rep c ρ M H → RS c ρ H δ σ → RD c ρ H d v →
  (match g d δ M with | some (δ', M') => ∀ ρ' H' σ', Ext ρ H ρ' H' → Rep c ρ' M' H' → RS c ρ' H' δ' σ' → Q σ' H' | _ => False) → t v σ H Q
def VG (c : Ctx) (X : Cx) (tg : Expr) (g : FG) : Prop := ∃ t, PG X tg t ∧ SimG c t g
def gNm (i : Nat) : FG := fun d δ M => some (δ.set i (some d), M)
theorem vg_name (I : In c X W k N sc) {i : Nat} {x : Str} (n : Nm N sc i x) : VG c X (.Name x pos) (gNm i) :=
  ⟨_, pg_name I.nd' (I.at' n) (I.loc n) (.inl (I.hfn x)), fun ρ M H δ σ d v Q P s r h => h ρ H _ .refl P (s.set i r)⟩
/-- (a, b, ..) = a tuple -/
def gNms : List Nat → List D → DSt → Option DSt
  | [], [], δ => some δ
  | i :: is, d :: ds, δ => gNms is ds (δ.set i (some d))
  | _, _, _ => none
def gTupN (is : List Nat) : FG := fun d δ M => match d with
  | .tup ds => match gNms is ds δ with
    | some δ' => some (δ', M)
    | none => none
  | _ => none
def VGs (c : Ctx) (X : Cx) (tgs : List Expr) (is : List Nat) : Prop := (∃ t, PGs X tgs t ∧ ∀ ρ M H δ σ ds vs Q δ', Rep c ρ M H → RS c ρ H δ σ → RDs c ρ H ds vs → gNms is ds δ = some δ' →
  (∀ σ', RS c ρ H δ' σ' → Q σ' H) → t vs σ H Q) ∧ is.length = tgs.length
theorem vgs_nil : VGs c X [] [] := by
  refine ⟨⟨_, pgs_nil, fun ρ M H δ σ ds vs Q δ' P s r e h => ?_⟩, rfl⟩
  cases ds with
  | nil =>
    cases e
    simp only [RDs] at r
    exact ⟨r, h _ s⟩
  | cons d ds => cases e
theorem vgs_cons (I : In c X W k N sc) {i : Nat} {x : Str} {es : List Expr} {is : List Nat} (n : Nm N sc i x) (h : VGs c X es is)
    (hs : (assignEach (.Name x pos :: es) X.env).map (·.2) = assign (.Name x pos) X.env :: (assignEach es X.env).map (·.2) := by rfl) : VGs c X (.Name x pos :: es) (i :: is) := by
  obtain ⟨⟨t, p, s⟩, hl⟩ := h
  refine ⟨⟨_, pgs_cons (pg_name I.nd' (I.at' n) (I.loc n) (.inl (I.hfn x))) p hs, fun ρ M H δ σ ds vs Q δ' P r rd e h => ?_⟩, by rw [List.length_cons, List.length_cons, hl]⟩
  cases ds with
  | nil => cases e
  | cons d ds =>
    simp only [RDs] at rd
    obtain ⟨v, vs', rfl, r1, r2⟩ := rd
    exact ⟨v, vs', rfl, s ρ M H _ _ ds vs' Q δ' P (r.set i r1) r2 e h⟩
theorem gNms_len : ∀ {is : List Nat} {ds : List D} {δ δ' : DSt}, gNms is ds δ = some δ' → is.length = ds.length
  | [], [], _, _, _ => rfl
  | _ :: is, _ :: ds, _, _, h => by rw [List.length_cons, List.length_cons, gNms_len (is := is) (ds := ds) h]
  | [], _ :: _, _, _, h => nomatch h
  | _ :: _, [], _, _, h => nomatch h
theorem vg_tup (I : In c X W k N sc) {es : List Expr} {m : Nat} {is : List Nat} (h : VGs c X es is) (hn : (assignEach es X.env).length = es.length := by rfl) (hst : (assignEach es X.env).findIdx? (·.1) = none := by rfl) : VG c X (.Tuple es m pos) (gTupN is) := by
  obtain ⟨⟨t, p, s⟩, hl⟩ := h
  refine ⟨_, pg_tup I.calm p hn hst, fun ρ M H δ σ d v Q P r rd h => ?_⟩
  cases d with
  | tup ds =>
    simp only [gTupN] at h
    cases e : gNms is ds δ with
    | none => rw [e] at h; exact h.elim
    | some δ' =>
      rw [e] at h
      simp only [RD] at rd
      obtain ⟨a, xs, rfl, t1, r1⟩ := rd
      refine ⟨a, xs, rfl, by rw [I.hK]; exact t1.sq, by rw [← RDs.len _ _ r1, ← gNms_len e, hl], ?_⟩
      exact s ρ M H δ σ ds xs Q δ' P r r1 e fun σ' s' => h ρ H σ' .refl P s'
  | _ => exact h.elim
/-- target = value, one target -/
def sAsg (f : FE) (g : FG) : FS := fun δ M => (f δ M).ro δ fun d M1 => match g d δ M1 with
  | some (δ', M2) => .nx δ' M2
  | none => .bad
theorem vs_asg {tg : Expr} {g : FG} (he : VE c X W e f) (hg : VG c X tg g) (hs : swapsWithSole [tg] e pos.line X.env = pure false := by rfl) (hw : swappedStores [tg] e X.env = pure none := by rfl)
    (h1 : (assignEach [tg] X.env).map (·.2) = [assign tg X.env] := by rfl) : VS c X W (.Assign [tg] e pos) (sAsg f g) := by
  obtain ⟨t, p, s⟩ := he
  obtain ⟨t1, p1, s1⟩ := hg
  refine ⟨_, ps_asg p p1 hs hw h1, fun ρ M H δ σ Dn P r h => ?_⟩
  refine s.ro P r h fun d M1 ρ1 H1 v e1 P1 s1' r1 _ h1 => ?_
  refine s1 ρ1 M1 H1 δ σ d v Dn.nx P1 s1' r1 ?_
  cases e : g d δ M1 with
  | some q =>
    obtain ⟨δ', M'⟩ := q
    rw [e] at h1
    exact fun ρ' H' σ' e' P' s' => h1 ρ' H' σ' e' P' s'
  | none => rw [e] at h1; exact h1

/-! ### for -/
/-- over items that stand still -/
def forDs (g : FG) (body : FS) : List D → DSt → DM → Ro
  | [], δ, M => .nx δ M
  | d :: ds, δ, M => match g d δ M with
    | none => .bad
    | some (δ1, M1) => match body δ1 M1 with
      | .nx δ2 M2 => forDs g body ds δ2 M2
      | .ct δ2 M2 => forDs g body ds δ2 M2
      | .bk δ2 M2 => .nx δ2 M2
      | .rt d M2 => .rt d M2
      | .ex x δ2 M2 => .ex x δ2 M2
      | .bad => .bad
/-- over a list of ours as it stands at each turn -/
def forObj (n : Nat) (g : FG) (body : FS) : Nat → Nat → DSt → DM → Ro
  | 0, _, _, _ => .bad
  | m + 1, i, δ, M => match M[n]? with
    | some (.lst ds) => match ds[i]? with
      | none => .nx δ M
      | some d => match g d δ M with
        | none => .bad
        | some (δ1, M1) => match body δ1 M1 with
          | .nx δ2 M2 => forObj n g body m (i + 1) δ2 M2
          | .ct δ2 M2 => forObj n g body m (i + 1) δ2 M2
          | .bk δ2 M2 => .nx δ2 M2
          | .rt d M2 => .rt d M2
          | .ex x δ2 M2 => .ex x δ2 M2
          | .bad => .bad
    | _ => .bad
/-- over lo, lo + 1, .., n of them -/
def forR (g : FG) (body : FS) : Nat → Int → DSt → DM → Ro
  | 0, _, δ, M => .nx δ M
  | n + 1, i, δ, M => match g (.int i) δ M with
    | none => .bad
    | some (δ1, M1) => match body δ1 M1 with
      | .nx δ2 M2 => forR g body n (i + 1) δ2 M2
      | .ct δ2 M2 => forR g body n (i + 1) δ2 M2
      | .bk δ2 M2 => .nx δ2 M2
      | .rt d M2 => .rt d M2
      | .ex x δ2 M2 => .ex x δ2 M2
      | .bad => .bad
def fuelOf (fu : DSt → DM → Nat) (x : D) (δ : DSt) (M : DM) : Nat := fu δ M + match itemsD x M with
  | some ds => ds.length + 1
  | none => 0
/-- for tg in e: a list or tuple; fu: turns beyond the list's first length -/
def sFor (fu : DSt → DM → Nat) (f : FE) (g : FG) (body : FS) : FS := fun δ M => (f δ M).ro δ fun x M1 => match x with
  | .tup ds => forDs g body ds δ M1
  | .rol ds => forDs g body ds δ M1
  | .obj n => forObj n g body (fuelOf fu x δ M1) 0 δ M1
  | _ => .bad
def rngOk (n : Int) : Bool := lim 4611686018427387903 n
def sForR (f : FE) (g : FG) (body : FS) : FS := fun δ M => (f δ M).ro δ fun x M1 => match x with
  | .int n => if rngOk n = true then forR g body n.toNat 0 δ M1 else .bad
  | _ => .bad
/-- what is walked: a list or a tuple -/
def iSeq (K : PySem.W.Frag) (tl : TE) : TI := fun σ H R => tl σ H fun x H1 => (∃ a, x = .ref a ∧ (∃ xs, SqL K H1 a xs) ∧ R (Itl K a) H1) ∨ (∃ a, x = .ref a ∧ (∃ xs, SqT K H1 a xs) ∧ R (Itt K a) H1)
theorem pi_seq {tg l : Expr} {tl : TE} (hl : PE X l tl) : PI X tg l (iSeq X.K tl) := by
  refine ⟨fun pins s σ H R I h => ?_⟩
  refine thn (hl.run pins s σ H _ I h) fun v s1 ⟨x, H1, I1, r1, q1⟩ => ?_
  rcases q1 with ⟨a, e, ⟨xs, hq⟩, q⟩ | ⟨a, e, ⟨xs, hq⟩, q⟩
  · subst e
    cases r1
    obtain ⟨its, rv, p, hz⟩ := I1.list hq
    refine wpAny_pyIter_list p.isList ?_
    refine ⟨s1.heap.objs.size, [s1.heap.objs.size], _, _, H1, rfl, I1.kept (t' := s1.toks) fun b o e => Heap.get?_push_of_some _ e, turn_list a _, ⟨_, Heap.get?_push_size _ rfl, rfl, rfl⟩, fun b hb => ?_, q⟩
    have e : b = s1.heap.objs.size := by simpa using hb
    subst e
    exact I1.fpOk (Nat.le_refl _) (I1.hok.fresh (Nat.le_refl _))
  · subst e
    cases r1
    obtain ⟨its, rv, p, hz⟩ := I1.tuple hq
    refine wpAny_pyIter_tuple (show s1.heap.IsTuple a its.toArray from p) ?_
    refine ⟨s1.heap.objs.size, [s1.heap.objs.size], _, _, H1, rfl, I1.kept (t' := s1.toks) fun b o e => Heap.get?_push_of_some _ e, turn_tuple a _, ⟨_, Heap.get?_push_size _ rfl, rfl, rfl⟩, fun b hb => ?_, q⟩
    have e : b = s1.heap.objs.size := by simpa using hb
    subst e
    exact I1.fpOk (Nat.le_refl _) (I1.hok.fresh (Nat.le_refl _))
/-- one turn: the target, then the body, towards what is wanted of the next turn -/
theorem turn_sim {tg : TG} {g : FG} {t : TS} {body : FS} {ρ : List Addr} {M : DM} {H : Hp} {δ : DSt} {σ : St} {d : D} {v : V} {Dn : Ends} {Nw : St → Hp → Prop} {next : DSt → DM → Ro} (sg : SimG c tg g) (sb : SimS c W t body) (P : Rep c ρ M H) (s : RS c ρ H δ σ)
    (r : RD c ρ H d v) (h : PostS c W ρ H Dn (match g d δ M with
      | none => .bad
      | some (δ1, M1) => match body δ1 M1 with
        | .nx δ2 M2 => next δ2 M2
        | .ct δ2 M2 => next δ2 M2
        | .bk δ2 M2 => .nx δ2 M2
        | .rt d M2 => .rt d M2
        | .ex x δ2 M2 => .ex x δ2 M2
        | .bad => .bad))
    (hN : ∀ ρ' M' H' δ' σ', Ext ρ H ρ' H' → Rep c ρ' M' H' → RS c ρ' H' δ' σ' → PostS c W ρ' H' Dn (next δ' M') → Nw σ' H') :
    tg v σ H fun σ2 H2 => t { Dn with nx := Nw, ct := Nw, bk := Dn.nx } σ2 H2 := by
  refine sg ρ M H δ σ d v _ P s r ?_
  cases e : g d δ M with
  | none => rw [e] at h; exact h
  | some q =>
    obtain ⟨δ1, M1⟩ := q
    rw [e] at h
    intro ρ1 H1 σ1 e1 P1 s1
    refine sb ρ1 M1 H1 δ1 σ1 _ P1 s1 ?_
    have h' := PostS.mono e1 h
    simp only at h'
    cases e2 : body δ1 M1 with
    | nx δ2 M2 =>
      rw [e2] at h'
      intro ρ2 H2 σ2 e2 P2 s2
      exact hN ρ2 M2 H2 δ2 σ2 (e1.trans e2) P2 s2 (PostS.mono e2 h')
    | ct δ2 M2 =>
      rw [e2] at h'
      intro ρ2 H2 σ2 e2 P2 s2
      exact hN ρ2 M2 H2 δ2 σ2 (e1.trans e2) P2 s2 (PostS.mono e2 h')
    | bk δ2 M2 => rw [e2] at h'; exact h'
    | rt d M2 => rw [e2] at h'; exact h'
    | ex x δ2 M2 => rw [e2] at h'; exact h'
    | bad => rw [e2] at h'; exact h'
theorem RolAt.now {ρ : List Addr} {H : Hp} {y : D} {ds : List D} {v : V} (r : RD c ρ H y v) (h : y = .tup ds ∨ y = .rol ds) : ∃ a xs, v = .ref a ∧ RDs c ρ H ds xs ∧ ((y = .tup ds ∧ TupAt c.K H a xs) ∨ (y = .rol ds ∧ RolAt c.K H a xs)) := by
  rcases h with rfl | rfl
  · simp only [RD] at r
    obtain ⟨a, xs, e, t, q⟩ := r
    exact ⟨a, xs, e, q, .inl ⟨rfl, t⟩⟩
  · simp only [RD] at r
    obtain ⟨a, xs, e, t, q⟩ := r
    exact ⟨a, xs, e, q, .inr ⟨rfl, t⟩⟩
/-- a loop over items that stand still -/
theorem for_still {J : It} {tg : TG} {g : FG} {t : TS} {body : FS} {ρ : List Addr} {M : DM} {H : Hp} {δ : DSt} {σ : St} {ds : List D} {xs : List V} {Dn : Ends} (sg : SimG c tg g) (sb : SimS c W t body) (P : Rep c ρ M H) (s : RS c ρ H δ σ) (rs : RDs c ρ H ds xs)
    (hgo : ∀ ρ' H' i, Ext ρ H ρ' H' → i < xs.length → J.go i H') (hst : ∀ ρ' H', Ext ρ H ρ' H' → J.stop xs.length H') (hy : ∀ ρ' H' H2 i x, Ext ρ H ρ' H' → J.yld i H' x H2 → H2 = H' ∧ xs[i]? = some x)
    (h : PostS c W ρ H Dn (forDs g body ds δ M)) :
    ∃ Wv : Nat → Nat → St → Hp → Prop, (∃ m, Wv 0 m σ H) ∧ ∀ i m σ H, Wv i m σ H →
      (J.stop i H ∧ Dn.nx σ H) ∨ (J.go i H ∧ ∃ Nv : St → Hp → Prop, (∀ σ' H', Nv σ' H' → ∃ m', m' < m ∧ Wv (i + 1) m' σ' H') ∧ ∀ x H', J.yld i H x H' → tg x σ H' fun σ2 H2 => t { Dn with nx := Nv, ct := Nv, bk := Dn.nx } σ2 H2) := by
  have hl := RDs.len _ _ rs
  refine ⟨fun i m σ' H' => ∃ ρ' M' δ', m = ds.length - i ∧ i ≤ ds.length ∧ Ext ρ H ρ' H' ∧ Rep c ρ' M' H' ∧ RS c ρ' H' δ' σ' ∧ PostS c W ρ' H' Dn (forDs g body (ds.drop i) δ' M'), ⟨ds.length, ρ, M, δ, by simp, Nat.zero_le _, .refl, P, s, by simpa using h⟩, ?_⟩
  rintro i m σ1 H1 ⟨ρ1, M1, δ1, rfl, hi, e1, P1, s1, h1⟩
  by_cases hlt : i < ds.length
  · refine .inr ⟨hgo ρ1 H1 i e1 (hl ▸ hlt), fun σ' H' => ∃ ρ' M' δ', Ext ρ H ρ' H' ∧ Rep c ρ' M' H' ∧ RS c ρ' H' δ' σ' ∧ PostS c W ρ' H' Dn (forDs g body (ds.drop (i + 1)) δ' M'), ?_, fun x H2 y => ?_⟩
    · rintro σ' H' ⟨ρ', M', δ', a1, a2, a3, a4⟩
      exact ⟨ds.length - (i + 1), by omega, ρ', M', δ', rfl, hlt, a1, a2, a3, a4⟩
    · obtain ⟨rfl, hx⟩ := hy ρ1 H1 H2 i x e1 y
      have hd : ds[i]? = some ds[i] := List.getElem?_eq_getElem hlt
      obtain ⟨v, hv, rv⟩ := RDs.get _ _ rs i _ hd
      rw [hv] at hx
      cases hx
      rw [List.drop_eq_getElem_cons hlt] at h1
      refine turn_sim (next := fun δ2 M2 => forDs g body (ds.drop (i + 1)) δ2 M2) sg sb P1 s1 (RD.mono e1 _ _ rv) h1 fun ρ' M' H' δ' σ' e' P' s' h' => ?_
      exact ⟨ρ', M', δ', e1.trans e', P', s', h'⟩
  · have e : i = ds.length := by omega
    subst e
    rw [List.drop_length] at h1
    exact .inl ⟨by rw [hl]; exact hst ρ1 H1 e1, h1 ρ1 H1 σ1 .refl P1 s1⟩
theorem Itl_still {ρ ρ' : List Addr} {H H' : Hp} {a : Addr} {xs : List V} (I1 : RolAt c.K H a xs) (e : Ext ρ H ρ' H') : SqL c.K H' a xs := (RolAt.mono e I1).sq
theorem vs_for (I : In c X W k N sc) (fu : DSt → DM → Nat) {tg iter : Expr} {body : List Stmt} {g : FG} {fb : FS} (he : VE c X W iter f) (hg : VG c X tg g) (hb : VSs c X W body fb) (hs : ∀ x, foldedSetIterable iter X.env x = pure x := by intro _; rfl) :
    VS c X W (.For tg iter body [] pos) (sFor fu f g fb) := by
  obtain ⟨t, p, s⟩ := he
  obtain ⟨tgt, pg, sg⟩ := hg
  obtain ⟨tb, pb, sb⟩ := hb
  refine ⟨_, ps_for I.own I.calm (pi_seq p) pg pb hs, fun ρ M H δ σ Dn P r h => ?_⟩
  refine s.ro P r h fun d M1 ρ1 H1 v e1 P1 s1 r1 _ h1 => ?_
  cases d with
  | tup ds =>
    simp only [RD] at r1
    obtain ⟨a, xs, rfl, ta, rs⟩ := r1
    rw [I.hK]
    refine .inr ⟨a, rfl, ⟨xs, ta.sq⟩, ?_⟩
    refine for_still sg sb P1 s1 rs (fun ρ' H' i e hi => ⟨xs, xs[i], (TupAt.mono e ta).sq, List.getElem?_eq_getElem hi⟩) (fun ρ' H' e => ⟨xs, (TupAt.mono e ta).sq, Nat.le_refl _⟩) (fun ρ' H' H2 i x e y => ⟨y.1, y.2 xs (TupAt.mono e ta).sq⟩) h1
  | rol ds =>
    simp only [RD] at r1
    obtain ⟨a, xs, rfl, ta, rs⟩ := r1
    rw [I.hK]
    refine .inl ⟨a, rfl, ⟨xs, ta.sq⟩, ?_⟩
    refine for_still sg sb P1 s1 rs (fun ρ' H' i e hi => ⟨xs, xs[i], (RolAt.mono e ta).sq, List.getElem?_eq_getElem hi⟩) (fun ρ' H' e => ⟨xs, (RolAt.mono e ta).sq, Nat.le_refl _⟩) (fun ρ' H' H2 i x e y => ⟨y.1, y.2 xs (RolAt.mono e ta).sq⟩) h1
  | obj n =>
    simp only [RD] at r1
    obtain ⟨a, rfl, ha⟩ := r1
    rw [I.hK]
    have look : ∀ {ρ' : List Addr} {M' : DM} {H' : Hp} {ds : List D}, Ext ρ1 H1 ρ' H' → Rep c ρ' M' H' → M'[n]? = some (.lst ds) → ∃ xs, H' a = some (.lst xs) ∧ RDs c ρ' H' ds xs := fun e P' q => P'.at_ n _ a q (e.get ha)
    have first : ∃ xs, SqL c.K H1 a xs := by
      cases q : fuelOf fu (.obj n) δ M1 with
      | zero => simp only [q, forObj] at h1; exact h1.elim
      | succ m =>
        simp only [q, forObj] at h1
        split at h1
        · rename_i ds eM
          obtain ⟨xs, q1, _⟩ := look .refl P1 eM
          exact ⟨xs, .of q1⟩
        · exact h1.elim
    refine .inl ⟨a, rfl, first, ?_⟩
    refine ⟨fun i m σ' H' => ∃ ρ' M' δ', Ext ρ1 H1 ρ' H' ∧ Rep c ρ' M' H' ∧ RS c ρ' H' δ' σ' ∧ PostS c W ρ' H' Dn (forObj n g fb m i δ' M'), ⟨_, ρ1, M1, δ, .refl, P1, s1, h1⟩, ?_⟩
    rintro i m σ2 H2 ⟨ρ2, M2, δ2, e2, P2, s2, h2⟩
    cases m with
    | zero => exact h2.elim
    | succ m =>
      simp only [forObj] at h2
      split at h2
      · rename_i ds eM
        obtain ⟨xs, q1, rs⟩ := look e2 P2 eM
        have hl := RDs.len _ _ rs
        split at h2
        · rename_i e9
          refine .inl ⟨⟨xs, .of q1, ?_⟩, h2 ρ2 H2 σ2 .refl P2 s2⟩
          have := List.getElem?_eq_none_iff.mp e9
          omega
        · rename_i d e9
          obtain ⟨v, hv, rv⟩ := RDs.get _ _ rs i d e9
          refine .inr ⟨⟨xs, v, .of q1, hv⟩, fun σ' H' => ∃ ρ' M' δ', Ext ρ1 H1 ρ' H' ∧ Rep c ρ' M' H' ∧ RS c ρ' H' δ' σ' ∧ PostS c W ρ' H' Dn (forObj n g fb m (i + 1) δ' M'), ?_, fun x H3 y => ?_⟩
          · intro σ' H' q
            exact ⟨m, Nat.lt_succ_self m, q⟩
          · obtain ⟨rfl, hx⟩ := y
            have hx' := hx xs (.of q1)
            rw [hv] at hx'
            cases hx'
            refine turn_sim (next := fun δ' M' => forObj n g fb m (i + 1) δ' M') sg sb P2 s2 rv h2 fun ρ' M' H' δ' σ' e' P' s' h' => ?_
            exact ⟨ρ', M', δ', e2.trans e', P', s', h'⟩
      · exact h2.elim
  | _ => exact h1.elim
theorem vs_forR (I : In c X W k N sc) {tg e : Expr} {body : List Stmt} {g : FG} {fb : FS} {p pos' : Pos} (n : Gn sc "range") (hm : c.mg "range" = none) (he : VE c X W e f) (hg : VG c X tg g) (hb : VSs c X W body fb)
    (hs : ∀ x, foldedSetIterable (.Call (.Name "range" p) [e] [] pos') X.env x = pure x := by intro _; rfl) (hst : starEach [e] X.env = [(false, eval e X.env)] := by rfl) :
    VS c X W (.For tg (.Call (.Name "range" p) [e] [] pos') body [] pos) (sForR f g fb) := by
  obtain ⟨t, p, s⟩ := he
  obtain ⟨tgt, pg, sg⟩ := hg
  obtain ⟨tb, pb, sb⟩ := hb
  refine ⟨_, ps_for I.own I.calm (pi_range1 (I.gl n) (by rw [I.hmg]; exact hm) (pa_cons p pa_nil hst) hst) pg pb hs, fun ρ M H δ σ Dn P r h => ?_⟩
  refine s.ro P r h fun d M1 ρ1 H1 v e1 P1 s1 r1 _ h1 => ?_
  cases d with
  | int j =>
    simp only [RD] at r1
    subst r1
    simp only at h1
    split at h1
    · rename_i hz
      have hz : -(2 ^ 62) ≤ j ∧ j < 2 ^ 62 := by
        have := lim_le hz
        omega
      refine ⟨j, rfl, hz.1, hz.2, ?_⟩
      refine ⟨fun i m σ' H' => ∃ ρ' M' δ', m = j.toNat - i ∧ i ≤ j.toNat ∧ Ext ρ1 H1 ρ' H' ∧ Rep c ρ' M' H' ∧ RS c ρ' H' δ' σ' ∧ PostS c W ρ' H' Dn (forR g fb (j.toNat - i) (i : Int) δ' M'), ⟨j.toNat, ρ1, M1, δ, by simp, Nat.zero_le _, .refl, P1, s1, by simpa using h1⟩, ?_⟩
      rintro i m σ2 H2 ⟨ρ2, M2, δ2, rfl, hi, e2, P2, s2, h2⟩
      by_cases hlt : i < j.toNat
      · obtain ⟨q, hq⟩ : ∃ q, j.toNat - i = q + 1 := ⟨j.toNat - i - 1, by omega⟩
        have hq' : j.toNat - (i + 1) = q := by omega
        rw [hq] at h2
        refine .inr ⟨hlt, fun σ' H' => ∃ ρ' M' δ', Ext ρ1 H1 ρ' H' ∧ Rep c ρ' M' H' ∧ RS c ρ' H' δ' σ' ∧ PostS c W ρ' H' Dn (forR g fb q ((i + 1 : Nat) : Int) δ' M'), ?_, fun x H3 y => ?_⟩
        · rintro σ' H' ⟨ρ', M', δ', a1, a2, a3, a4⟩
          exact ⟨q, by omega, ρ', M', δ', hq'.symm, hlt, a1, a2, a3, by rw [hq']; exact a4⟩
        · obtain ⟨rfl, rfl⟩ := y
          refine turn_sim (next := fun δ' M' => forR g fb q ((i : Int) + 1) δ' M') sg sb P2 s2 (by simp only [RD]; rw [Int.zero_add]) h2 fun ρ' M' H' δ' σ' e' P' s' h' => ?_
          exact ⟨ρ', M', δ', e2.trans e', P', s', by simpa using h'⟩
      · have e : i = j.toNat := by omega
        subst e
        rw [Nat.sub_self] at h2
        exact .inl ⟨Nat.le_refl _, h2 ρ2 H2 σ2 .refl P2 s2⟩
    · exact h1.elim
  | _ => exact h1.elim

/-! ### while -/
def whileF (t : FT) (body : FS) : Nat → DSt → DM → Ro
  | 0, _, _ => .bad
  | n + 1, δ, M => match t δ M with
    | .ok true M1 => match body δ M1 with
      | .nx δ2 M2 => whileF t body n δ2 M2
      | .ct δ2 M2 => whileF t body n δ2 M2
      | .bk δ2 M2 => .nx δ2 M2
      | .rt d M2 => .rt d M2
      | .ex x δ2 M2 => .ex x δ2 M2
      | .bad => .bad
    | .ok false M1 => .nx δ M1
    | .ex x M1 => .ex x δ M1
    | .bad => .bad
def sWhile (fu : DSt → DM → Nat) (t : FT) (body : FS) : FS := fun δ M => whileF t body (fu δ M) δ M
theorem vs_while (I : In c X W k N sc) (fu : DSt → DM → Nat) {body : List Stmt} {t : FT} {fb : FS} (ht : VT c X W e t) (hb : VSs c X W body fb) : VS c X W (.While e body [] pos) (sWhile fu t fb) := by
  obtain ⟨tt, p, s⟩ := ht
  obtain ⟨tb, pb, sb⟩ := hb
  refine ⟨_, ps_while I.own p pb, fun ρ M H δ σ Dn P r h => ?_⟩
  refine ⟨fun m σ' H' => ∃ ρ' M' δ', Ext ρ H ρ' H' ∧ Rep c ρ' M' H' ∧ RS c ρ' H' δ' σ' ∧ PostS c W ρ' H' Dn (whileF t fb m δ' M'), ⟨_, ρ, M, δ, .refl, P, r, h⟩, ?_⟩
  rintro m σ1 H1 ⟨ρ1, M1, δ1, e1, P1, s1, h1⟩
  cases m with
  | zero => exact h1.elim
  | succ m =>
    refine s ρ1 M1 H1 δ1 σ1 _ P1 s1 ?_
    simp only [whileF] at h1
    cases e2 : t δ1 M1 with
    | ok b M2 =>
      rw [e2] at h1
      intro ρ2 H2 b' e3 P2 rb
      cases rb
      have s2 := s1.mono e3
      cases b with
      | false =>
        simp only [Bool.false_eq_true, if_false]
        exact h1 ρ2 H2 σ1 e3 P2 s2
      | true =>
        simp only [if_true]
        refine ⟨fun σ' H' => ∃ ρ' M' δ', Ext ρ H ρ' H' ∧ Rep c ρ' M' H' ∧ RS c ρ' H' δ' σ' ∧ PostS c W ρ' H' Dn (whileF t fb m δ' M'), fun σ' H' q => ⟨m, Nat.lt_succ_self m, q⟩, ?_⟩
        refine sb ρ2 M2 H2 δ1 σ1 _ P2 s2 ?_
        have h2 := PostS.mono e3 h1
        simp only at h2
        have e13 := e1.trans e3
        cases e4 : fb δ1 M2 with
        | nx δ2 M3 =>
          rw [e4] at h2
          intro ρ3 H3 σ3 e5 P3 s3
          exact ⟨ρ3, M3, δ2, e13.trans e5, P3, s3, PostS.mono e5 h2⟩
        | ct δ2 M3 =>
          rw [e4] at h2
          intro ρ3 H3 σ3 e5 P3 s3
          exact ⟨ρ3, M3, δ2, e13.trans e5, P3, s3, PostS.mono e5 h2⟩
        | bk δ2 M3 => rw [e4] at h2; exact h2
        | rt d M3 => rw [e4] at h2; exact h2
        | ex x δ2 M3 => rw [e4] at h2; exact h2
        | bad => rw [e4] at h2; exact h2
    | ex x M2 =>
      rw [e2] at h1
      intro ρ2 H2 cls od e3 P2 rx
      exact h1 ρ2 H2 σ1 cls od e3 P2 (s1.mono e3) rx
    | bad => rw [e2] at h1; exact h1

/-! ### defs -/
/-- what a def promises: what g says -/
def spOf (c : Ctx) (n : Nat) (g : List D → DM → Rs D) : Sp := fun vs H Q E => ∃ ρ M ds, Rep c ρ M H ∧ RDs c ρ H ds vs ∧ ds.length = n ∧ Post c E ρ H (RD c) Q (g ds M)
/-- a def of the module that keeps it -/
structure Callee (c : Ctx) (x : Str) (k n : Nat) (g : List D → DM → Rs D) : Prop where
  ex : ∃ f fd ps, FnOk c.P c.w c.K c.mg c.base (L2.CX c.P c.w) k f fd ps (spOf c n g) ∧ c.mg x = some (.ref f) ∧ PySem.W.keepIn c.K (.ref f) = true ∧ Binds c.K fd ps []
theorem Callee.mono {x : Str} {j n : Nat} {g : List D → DM → Rs D} (C : Callee c x j n g) (h : j ≤ k) : Callee c x k n g := by
  obtain ⟨f, fd, ps, F, h1, h2, h3⟩ := C.ex
  exact ⟨f, fd, ps, F.mono h, h1, h2, h3⟩
theorem ve_call {x : Str} {p : Pos} {es : List Expr} {n : Nat} {g : List D → DM → Rs D} {fa : FA} (I : In c X W k N sc) (nm : Gn sc x) (C : Callee c x k n g) (ha : VA c X W (e :: es) fa) (hn : (e :: es).length = n := by rfl)
    (he : starEach (e :: es) X.env = (false, eval e X.env) :: starEach es X.env := by rfl) (hpl : (backTo pos (starEach es X.env)).any (·.1) = false := by rfl) : VE c X W (.Call (.Name x p) (e :: es) [] pos) (eCall g fa) := by
  obtain ⟨f, fd, ps, F, h1, h2, h3⟩ := C.ex
  obtain ⟨⟨t, pa, s⟩, hl⟩ := ha
  rw [← I.hP, ← I.hw, ← I.hK, ← I.hmg, ← I.hb] at F
  refine ⟨_, pe_callS F I.room (I.gl nm) (by rw [I.hmg]; exact h1) (by rw [I.hK]; exact h2) (by rw [I.hK]; exact h3) (fun σ => passAt I.take σ) pa nm.db he hpl, fun ρ M H δ σ Q P r h => ?_⟩
  refine s.bind P r h fun xs M1 ρ1 H1 vs e1 P1 s1 r1 e2 h1 => ?_
  exact ⟨ρ1, M1, xs, P1, r1, by rw [hl _ _ _ _ e2]; exact hn, h1⟩
theorem ve_call0 {x : Str} {p : Pos} {g : List D → DM → Rs D} (I : In c X W k N sc) (nm : Gn sc x) (C : Callee c x k 0 g) : VE c X W (.Call (.Name x p) [] [] pos) (eCall g aNil) := by
  obtain ⟨f, fd, ps, F, h1, h2, h3⟩ := C.ex
  rw [← I.hP, ← I.hw, ← I.hK, ← I.hmg, ← I.hb] at F
  refine ⟨tCallS (spOf c 0 g) (WE W) tNil, ⟨fun pins s σ H Q J h => ?_⟩, fun ρ M H δ σ Q P r h => ?_⟩
  · refine wpAny_Call_Name_kw (ld_glob J (I.gl nm) (by rw [I.hmg]; exact h1) ?_ nm.db)
    exact PySem.W.callWith_K0 J.kIn (by rw [I.hK]; exact h2) (run_fnS (us := []) F I.room (by rw [I.hK]; exact h3) (passAt I.take σ) J .nil h)
  · exact ⟨ρ, M, [], P, by simp only [RDs], rfl, h⟩
def dstart (N : List Str) (ds : List D) : DSt := ds.map some ++ List.replicate (N.length - ds.length) none
/-- a def's function from its body's -/
def fnD (n : Nat) (fb : FS) (ds : List D) (M : DM) : Rs D := (fb (ds.map some ++ List.replicate (n - ds.length) none) M).fin
theorem RS.start {ρ : List Addr} {H : Hp} {ds : List D} {vs : List V} (r : RDs c ρ H ds vs) : RS c ρ H (ds.map some ++ List.replicate (N.length - ds.length) none) (L2.start N vs) := by
  have hl := RDs.len _ _ r
  refine ⟨by simp [L2.start, hl], fun i d h => ?_⟩
  by_cases hi : i < ds.length
  · rw [List.getElem?_append_left (by simpa using hi), List.getElem?_map] at h
    cases e : ds[i]? with
    | none => rw [e] at h; cases h
    | some d' =>
      rw [e] at h
      cases h
      obtain ⟨v, h1, h2⟩ := RDs.get _ _ r i _ e
      refine ⟨v, ?_, h2⟩
      unfold L2.start
      rw [List.getElem?_append_left (by simpa [← hl] using hi), List.getElem?_map, h1]
      rfl
  · rw [List.getElem?_append_right (by simpa using hi), List.getElem?_replicate] at h
    split at h <;> cases h
theorem fnok_of {x qual : Str} {st : Stmt} {f : Addr} {fd : FuncData} {ps : List Str} {fb : FS} (F : Fun c.K x qual st f fd) (S : FnScope N ps (defScope st))
    (body : ∀ (X : Cx) (W : WX), In c X W k N (defScope st) → VSs c X W (defBody st) fb) : FnOk c.P c.w c.K c.mg c.base (L2.CX c.P c.w) (k + 1) f fd ps (spOf c ps.length (fnD N.length fb)) := by
  refine F.okX S (fun vs H Q E ⟨ρ, M, ds, P, r, hl, h⟩ => by rw [← RDs.len _ _ r, hl]) (fun cdv A outer s H vs Q E hr hsp => ?_)
  obtain ⟨ρ, M, ds, P, r, hl, h⟩ := hsp
  obtain ⟨t, p, sm⟩ := body (cxOf (L2.CX c.P c.w) c.P c.w c.K c.mg c.base N qual (defScope st) f cdv A outer s H E) (fun cls d _ H => E cls d H)
    ⟨rfl, rfl, rfl, rfl, rfl, rfl, S.nd, rfl, rfl, hr, takes_of rfl rfl rfl rfl, passes_of rfl, fun _ => rfl, rfl, rfl⟩
  refine ⟨t, p, ?_⟩
  refine sm ρ M H _ _ _ P (RS.start r) ?_
  unfold fnD at h
  cases e : fb (ds.map some ++ List.replicate (N.length - ds.length) none) M with
  | nx δ1 M1 =>
    rw [e] at h
    exact fun ρ' H' σ' e' P' s' => h ρ' H' .non e' P' (by simp only [RD])
  | rt d M1 =>
    rw [e] at h
    exact fun ρ' H' v e' P' r' => h ρ' H' v e' P' r'
  | bk δ1 M1 => rw [e] at h; exact h.elim
  | ct δ1 M1 => rw [e] at h; exact h.elim
  | ex x δ1 M1 =>
    rw [e] at h
    exact fun ρ' H' σ' cls od e' P' s' rx => h ρ' H' cls od e' P' rx
  | bad => rw [e] at h; exact h.elim
theorem callee_of {x qual : Str} {st : Stmt} {f : Addr} {fd : FuncData} {ps : List Str} {fb : FS} (F : Fun c.K x qual st f fd) (S : FnScope N ps (defScope st)) (hm : c.mg x = some (.ref f)) (hb : Binds c.K fd ps [])
    (body : ∀ (X : Cx) (W : WX), In c X W k N (defScope st) → VSs c X W (defBody st) fb) : Callee c x (k + 1) ps.length (fnD N.length fb) :=
  ⟨f, fd, ps, fnok_of F S body, hm, F.kp, hb⟩
/-- a def that is never called further down -/
theorem callee_none {x qual : Str} {st : Stmt} {f : Addr} {fd : FuncData} {ps : List Str} (F : Fun c.K x qual st f fd) (hm : c.mg x = some (.ref f)) (hb : Binds c.K fd ps []) (n k : Nat) : Callee c x k n (fun _ _ => .bad) :=
  ⟨f, fd, ps, ⟨fun vs H Q E ⟨ρ, M, ds, P, r, hl, h⟩ => h.elim, fun A outer s H args us vs Q E hr e0 hb r ⟨ρ, M, ds, P, r, hl, h⟩ => h.elim⟩, hm, F.kp, hb⟩
end
end DL

set_option Elab.async false
set_option linter.all false
set_option maxRecDepth 100000
set_option maxHeartbeats 2000000
namespace DL
open PySem PySem.Spec L2
open PyProof.Rows hiding St
/-- a plain def of the module -/
structure DefAt (c : Ctx) (x qual : Str) (st : Stmt) (ps : List Str) : Prop where
  ex : ∃ f fd, c.mg x = some (.ref f) ∧ Fun c.K x qual st f fd ∧ Binds c.K fd ps []
section
variable {c : Ctx} {k : Nat} {N ps : List Str} {x qual : Str} {st : Stmt} {fb : FS}
theorem callee_def (F : DefAt c x qual st ps) (S : FnScope N ps (defScope st)) (body : ∀ (X : Cx) (W : WX), In c X W k N (defScope st) → VSs c X W (defBody st) fb) : Callee c x (k + 1) ps.length (fnD N.length fb) := by
  obtain ⟨f, fd, h1, h2, h3⟩ := F.ex
  exact callee_of h2 S h1 h3 body
theorem callee_zero (F : DefAt c x qual st ps) (n k : Nat) : Callee c x k n (fun _ _ => .bad) := by
  obtain ⟨f, fd, h1, h2, h3⟩ := F.ex
  exact callee_none h2 h1 h3 n k
end
/-- the law's promise -/
def spLaw (K : PySem.W.Frag) : Sp := fun vs H Q _ => ∃ (a : Addr) (ns : List Int), vs = [.ref a] ∧ RolAt K H a (ns.map V.int) ∧ ns.length ≤ 63 ∧ ∀ H', Q (.bl true) H'
theorem rds_ints {c : Ctx} {ρ : List Addr} {H : Hp} : ∀ ns : List Int, RDs c ρ H (ns.map D.int) (ns.map V.int)
  | [] => by simp only [List.map_nil, RDs]
  | n :: ns => by
    simp only [List.map_cons, RDs]
    exact ⟨_, _, rfl, by simp only [RD], rds_ints ns⟩
/-- the law's function gives True -/
theorem law_sp {c : Ctx} {k : Nat} {f : Addr} {fd : FuncData} {ps : List Str} {g : List D → DM → Rs D} (F : FnOk c.P c.w c.K c.mg c.base (L2.CX c.P c.w) k f fd ps (spOf c 1 g)) (h : ∀ ns : List Int, ns.length ≤ 63 → ∃ M, g [.rol (ns.map .int)] [] = .ok (.bl true) M) :
    FnOk c.P c.w c.K c.mg c.base (L2.CX c.P c.w) k f fd ps (spLaw c.K) := by
  refine F.imp fun vs H Q E hs => ?_
  obtain ⟨a, ns, rfl, hr, hl, q⟩ := hs
  obtain ⟨M, hm⟩ := h ns hl
  refine ⟨[], [], [.rol (ns.map .int)], ⟨rfl, List.nodup_nil, fun i mo a h => by simp at h⟩, ?_, rfl, ?_⟩
  · simp only [RDs]
    exact ⟨_, [], rfl, by simp only [RD]; exact ⟨a, _, rfl, hr, rds_ints ns⟩, rfl⟩
  · rw [hm]
    intro ρ' H' b e P r
    simp only [RD] at r
    subst r
    exact q H'
theorem only_rol {K : PySem.W.Frag} {H : Hp} {a : Addr} {xs : List V} (hO : Only H) (h : SqL K H a xs) : RolAt K H a xs := by
  rcases h with (h | ⟨o, h⟩) | h
  · rcases hO a with z | ⟨o, ys, z⟩
    · rw [h] at z; cases z
    · rw [h] at z; cases z
  · exact .inl ⟨o, h⟩
  · exact .inr h
end DL

set_option Elab.async false
set_option linter.all false
set_option maxRecDepth 100000
set_option maxHeartbeats 4000000
namespace DL
open PySem PySem.Spec L2
open PyProof.Rows hiding St
/-! ### the plain side -/
theorem ofString_inj {a b : String} : (Str.ofString a = Str.ofString b) = (a = b) := by
  refine propext ⟨fun h => ?_, fun h => by rw [h]⟩
  rw [Str.ofString_eq_toList, Str.ofString_eq_toList] at h
  have h1 : a.toList.map Char.toNat = b.toList.map Char.toNat := by
    have := congrArg (fun s : Str => s.cps.toList) h
    simpa using this
  have h2 : a.toList = b.toList := by
    refine (List.map_inj_right (f := Char.toNat) ?_).mp h1
    intro x y e
    exact Char.ext (UInt32.toNat_inj.mp e)
  exact String.toList_inj.mp h2
def Rs.sat {α : Type} (r : Rs α) (Q : α → DM → Prop) : Prop := match r with
  | .ok a M => Q a M
  | _ => False
theorem sat_ok {α : Type} {a : α} {M : DM} {Q : α → DM → Prop} : (Rs.ok a M).sat Q = Q a M := rfl
theorem sat_eq {α : Type} {r : Rs α} {a : α} {M : DM} {Q : α → DM → Prop} (h : r = .ok a M) (q : Q a M) : r.sat Q := by rw [h]; exact q
theorem sat_bind {α β : Type} {r : Rs α} {k : α → DM → Rs β} {Q : β → DM → Prop} : ((r.bind k).sat Q) = r.sat fun a M => (k a M).sat Q := by
  cases r <;> rfl
theorem sat_mono {α : Type} {r : Rs α} {Q Q' : α → DM → Prop} (h : r.sat Q) (q : ∀ a M, Q a M → Q' a M) : r.sat Q' := by
  cases r with
  | ok a M => exact q _ _ h
  | ex e M => exact h
  | bad => exact h
theorem sat_get {α : Type} {r : Rs α} {Q : α → DM → Prop} (h : r.sat Q) : ∃ a M, r = .ok a M ∧ Q a M := by
  cases r with
  | ok a M => exact ⟨a, M, rfl, h⟩
  | ex e M => exact h.elim
  | bad => exact h.elim
/-- behind a statement: what holds where it goes on, where it returns, where it breaks off -/
def Ro.sat (r : Ro) (Q : Ro → Prop) : Prop := match r with
  | .bad => False
  | .ex _ _ _ => False
  | r => Q r
theorem ro_sat_mono {r : Ro} {Q Q' : Ro → Prop} (h : r.sat Q) (q : ∀ r, Q r → Q' r) : r.sat Q' := by
  cases r <;> first | exact h.elim | exact q _ h
def seqQ (k : DSt → DM → Ro) (R : Ro → Prop) (r : Ro) : Prop := match r with
  | .nx δ M => (k δ M).sat R
  | r => R r
def finQ (Q : D → DM → Prop) (r : Ro) : Prop := match r with
  | .nx _ M => Q .non M
  | .rt d M => Q d M
  | _ => False
theorem sat_fin {r : Ro} {Q : D → DM → Prop} : (r.fin).sat Q = r.sat (finQ Q) := by cases r <;> rfl
theorem sat_seq {r : Ro} {k : DSt → DM → Ro} {R : Ro → Prop} : (r.seq k).sat R = r.sat (seqQ k R) := by cases r <;> rfl
theorem sat_ro {α : Type} {r : Rs α} {δ : DSt} {k : α → DM → Ro} {R : Ro → Prop} : (r.ro δ k).sat R = r.sat fun a M => (k a M).sat R := by cases r <;> rfl
theorem rsat_nx {δ : DSt} {M : DM} {R : Ro → Prop} : (Ro.nx δ M).sat R = R (.nx δ M) := rfl
theorem rsat_rt {d : D} {M : DM} {R : Ro → Prop} : (Ro.rt d M).sat R = R (.rt d M) := rfl
theorem rsat_ct {δ : DSt} {M : DM} {R : Ro → Prop} : (Ro.ct δ M).sat R = R (.ct δ M) := rfl
theorem rsat_bk {δ : DSt} {M : DM} {R : Ro → Prop} : (Ro.bk δ M).sat R = R (.bk δ M) := rfl
theorem seqQ_nx {δ : DSt} {M : DM} {k : DSt → DM → Ro} {R : Ro → Prop} : seqQ k R (.nx δ M) = (k δ M).sat R := rfl
theorem seqQ_rt {d : D} {M : DM} {k : DSt → DM → Ro} {R : Ro → Prop} : seqQ k R (.rt d M) = R (.rt d M) := rfl
theorem seqQ_ct {δ : DSt} {M : DM} {k : DSt → DM → Ro} {R : Ro → Prop} : seqQ k R (.ct δ M) = R (.ct δ M) := rfl
theorem seqQ_bk {δ : DSt} {M : DM} {k : DSt → DM → Ro} {R : Ro → Prop} : seqQ k R (.bk δ M) = R (.bk δ M) := rfl
theorem finQ_nx {δ : DSt} {M : DM} {Q : D → DM → Prop} : finQ Q (.nx δ M) = Q .non M := rfl
theorem finQ_rt {d : D} {M : DM} {Q : D → DM → Prop} : finQ Q (.rt d M) = Q d M := rfl
theorem bind_ok {α β : Type} {a : α} {M : DM} {k : α → DM → Rs β} : (Rs.ok a M).bind k = k a M := rfl
theorem ro_ok {α : Type} {a : α} {M : DM} {δ : DSt} {k : α → DM → Ro} : (Rs.ok a M).ro δ k = k a M := rfl
theorem seq_nx {δ : DSt} {M : DM} {k : DSt → DM → Ro} : (Ro.nx δ M).seq k = k δ M := rfl
theorem seq_rt {d : D} {M : DM} {k : DSt → DM → Ro} : (Ro.rt d M).seq k = .rt d M := rfl
theorem seq_ct {δ : DSt} {M : DM} {k : DSt → DM → Ro} : (Ro.ct δ M).seq k = .ct δ M := rfl
theorem seq_bk {δ : DSt} {M : DM} {k : DSt → DM → Ro} : (Ro.bk δ M).seq k = .bk δ M := rfl
theorem fin_nx {δ : DSt} {M : DM} : (Ro.nx δ M).fin = .ok .non M := rfl
theorem fin_rt {d : D} {M : DM} : (Ro.rt d M).fin = .ok d M := rfl
theorem ix0 {a : D} {l : List D} {M : DM} : ixD (.tup (a :: l)) (.int 0) M = .ok a M := by
  have h : (0 : Int) < ((a :: l).length : Int) := by rw [List.length_cons]; omega
  show ixItems (.tup (a :: l)) 0 M = _
  unfold ixItems
  simp only [itemsD, atI, ixN, Int.le_refl, if_true, h, Option.bind_some]
  rfl
theorem ixn {l : List D} {k : Nat} {a : D} {M : DM} (h : l[k]? = some a) : ixD (.tup l) (.int k) M = .ok a M := by
  show ixItems (.tup l) k M = _
  unfold ixItems
  simp only [itemsD]
  rw [atI_nat h]
theorem ix1 {a b : D} {l : List D} {M : DM} : ixD (.tup (a :: b :: l)) (.int 1) M = .ok b M := ixn (k := 1) rfl
theorem ix2 {a b c : D} {l : List D} {M : DM} : ixD (.tup (a :: b :: c :: l)) (.int 2) M = .ok c M := ixn (k := 2) rfl
theorem ix3 {a b c d : D} {l : List D} {M : DM} : ixD (.tup (a :: b :: c :: d :: l)) (.int 3) M = .ok d M := ixn (k := 3) rfl
theorem ix4 {a b c d e : D} {l : List D} {M : DM} : ixD (.tup (a :: b :: c :: d :: e :: l)) (.int 4) M = .ok e M := ixn (k := 4) rfl
/-- an item of a list of ours -/
theorem ixo {n k : Nat} {ds : List D} {a : D} {M : DM} (hM : M[n]? = some (.lst ds)) (h : ds[k]? = some a) : ixD (.obj n) (.int k) M = .ok a M := by
  show ixItems (.obj n) k M = _
  unfold ixItems
  simp only [itemsD, hM]
  rw [atI_nat h]
theorem ixs {s : Str} {k : Nat} {q : Nat} {M : DM} (hl : s.length ≤ sizeLine) (h : s.cps.toList[k]? = some q) : ixD (.str s) (.int k) M = .ok (.str ⟨#[q]⟩) M := by
  simp only [ixD, hl, if_true]
  rw [atI_nat h]
theorem eq_ss {a b : Str} {M : DM} : eqD (.str a) (.str b) M = .ok (.bl (decide (a = b))) M := by
  simp only [eqD, toPy, PyData.eqv]
  rfl
theorem eq_ii {a b : Int} {M : DM} : eqD (.int a) (.int b) M = .ok (.bl (decide (a = b))) M := by
  simp only [eqD, toPy, PyData.eqv]
  rfl
theorem eq_bb {a b : Bool} {M : DM} : eqD (.bl a) (.bl b) M = .ok (.bl (decide (a = b))) M := by
  simp only [eqD, toPy, PyData.eqv]
  rfl
theorem ne_ss {a b : Str} {M : DM} : neD (.str a) (.str b) M = .ok (.bl (!decide (a = b))) M := by
  simp only [neD, toPy, PyData.eqv]
  rfl
theorem ne_ii {a b : Int} {M : DM} : neD (.int a) (.int b) M = .ok (.bl (!decide (a = b))) M := by
  simp only [neD, toPy, PyData.eqv]
  rfl
theorem add_ii {a b : Int} {M : DM} : addD (.int a) (.int b) M = .ok (.int (a + b)) M := rfl
theorem add_ss {a b : Str} {M : DM} (h : a.length + b.length ≤ sizeLine) : addD (.str a) (.str b) M = .ok (.str (a ++ b)) M := by
  simp only [addD, h, if_true]
theorem sub_ii {a b : Int} {M : DM} : subD (.int a) (.int b) M = .ok (.int (a - b)) M := rfl
theorem mul_ii {a b : Int} {M : DM} (h : lim 18446744073709551615 b = true) : mulD (.int a) (.int b) M = .ok (.int (a * b)) M := by
  simp only [mulD, arD, h, Bool.or_true, if_true]
theorem mod_ii {a b : Int} {M : DM} (h : 0 < b) : modD (.int a) (.int b) M = .ok (.int (a % b)) M := by
  simp only [modD, arD, decide_eq_true h, if_true]
theorem fdiv_ii {a b : Int} {M : DM} (h : 0 < b) (h' : lim 1073741823 b = true) : fdivD (.int a) (.int b) M = .ok (.int (a / b)) M := by
  simp only [fdivD, arD, decide_eq_true h, h', Bool.and_self, if_true]
theorem ord_ii {p : Int → Int → Bool} {a b : Int} {M : DM} : ordD p (.int a) (.int b) M = .ok (.bl (p a b)) M := rfl
theorem isN_ {x : D} {M : DM} : isN x .non M = .ok (.bl (isNonD x)) M := rfl
theorem int_i {i : Int} {M : DM} : intD [.int i] M = .ok (.int i) M := rfl
theorem ixo0 {n : Nat} {a : D} {l : List D} {M : DM} (h : n < M.length) : ixD (.obj n) (.int 0) (M.set n (.lst (a :: l))) = .ok a (M.set n (.lst (a :: l))) := ixo (k := 0) (List.getElem?_set_self h) rfl
theorem ixo1 {n : Nat} {a b : D} {l : List D} {M : DM} (h : n < M.length) : ixD (.obj n) (.int 1) (M.set n (.lst (a :: b :: l))) = .ok b (M.set n (.lst (a :: b :: l))) := ixo (k := 1) (List.getElem?_set_self h) rfl
theorem ixo2 {n : Nat} {a b c : D} {l : List D} {M : DM} (h : n < M.length) : ixD (.obj n) (.int 2) (M.set n (.lst (a :: b :: c :: l))) = .ok c (M.set n (.lst (a :: b :: c :: l))) := ixo (k := 2) (List.getElem?_set_self h) rfl
theorem ixo3 {n : Nat} {a b c d : D} {l : List D} {M : DM} (h : n < M.length) : ixD (.obj n) (.int 3) (M.set n (.lst (a :: b :: c :: d :: l))) = .ok d (M.set n (.lst (a :: b :: c :: d :: l))) := ixo (k := 3) (List.getElem?_set_self h) rfl
theorem ixo4 {n : Nat} {a b c d e : D} {l : List D} {M : DM} (h : n < M.length) : ixD (.obj n) (.int 4) (M.set n (.lst (a :: b :: c :: d :: e :: l))) = .ok e (M.set n (.lst (a :: b :: c :: d :: e :: l))) := ixo (k := 4) (List.getElem?_set_self h) rfl
theorem put_at {n k : Nat} {ds : List D} {M : DM} {d : D} (h : M[n]? = some (.lst ds)) (hk : k < ds.length) : putD (.obj n) (.int k) d M = some (M.set n (.lst (ds.set k d))) := by
  have e : ixN ds.length (k : Int) = some k := by
    unfold ixN
    rw [if_pos (by omega), if_pos (by omega)]
    simp
  simp only [putD, h, e]
theorem put1 {n : Nat} {a b d : D} {l : List D} {M : DM} (h : M[n]? = some (.lst (a :: b :: l))) : putD (.obj n) (.int 1) d M = some (M.set n (.lst (a :: d :: l))) := put_at (k := 1) h (by simp only [List.length_cons]; omega)
theorem put2 {n : Nat} {a b c d : D} {l : List D} {M : DM} (h : M[n]? = some (.lst (a :: b :: c :: l))) : putD (.obj n) (.int 2) d M = some (M.set n (.lst (a :: b :: d :: l))) := put_at (k := 2) h (by simp only [List.length_cons]; omega)
theorem put3 {n : Nat} {a b c e d : D} {l : List D} {M : DM} (h : M[n]? = some (.lst (a :: b :: c :: e :: l))) : putD (.obj n) (.int 3) d M = some (M.set n (.lst (a :: b :: c :: d :: l))) := put_at (k := 3) h (by simp only [List.length_cons]; omega)
theorem put4 {n : Nat} {a b c e f d : D} {l : List D} {M : DM} (h : M[n]? = some (.lst (a :: b :: c :: e :: f :: l))) : putD (.obj n) (.int 4) d M = some (M.set n (.lst (a :: b :: c :: e :: d :: l))) := put_at (k := 4) h (by simp only [List.length_cons]; omega)
theorem puts1 {n : Nat} {a b d : D} {l : List D} {M : DM} (h : n < M.length) : putD (.obj n) (.int 1) d (M.set n (.lst (a :: b :: l))) = some (M.set n (.lst (a :: d :: l))) := by rw [put1 (List.getElem?_set_self h), List.set_set]
theorem puts2 {n : Nat} {a b c d : D} {l : List D} {M : DM} (h : n < M.length) : putD (.obj n) (.int 2) d (M.set n (.lst (a :: b :: c :: l))) = some (M.set n (.lst (a :: b :: d :: l))) := by rw [put2 (List.getElem?_set_self h), List.set_set]
theorem puts3 {n : Nat} {a b c e d : D} {l : List D} {M : DM} (h : n < M.length) : putD (.obj n) (.int 3) d (M.set n (.lst (a :: b :: c :: e :: l))) = some (M.set n (.lst (a :: b :: c :: d :: l))) := by rw [put3 (List.getElem?_set_self h), List.set_set]
theorem puts4 {n : Nat} {a b c e f d : D} {l : List D} {M : DM} (h : n < M.length) : putD (.obj n) (.int 4) d (M.set n (.lst (a :: b :: c :: e :: f :: l))) = some (M.set n (.lst (a :: b :: c :: e :: d :: l))) := by rw [put4 (List.getElem?_set_self h), List.set_set]
/-- the first step of a for -/
theorem itemsD_tup {ds : List D} {M : DM} : itemsD (.tup ds) M = some ds := rfl
theorem itemsD_rol {ds : List D} {M : DM} : itemsD (.rol ds) M = some ds := rfl
/-- behind a turn -/
def loopQ (N : DSt → DM → Prop) (R : Ro → Prop) (r : Ro) : Prop := match r with
  | .nx δ M => N δ M
  | .ct δ M => N δ M
  | .bk δ M => R (.nx δ M)
  | r => R r
theorem loopQ_nx {N : DSt → DM → Prop} {R : Ro → Prop} {δ : DSt} {M : DM} : loopQ N R (.nx δ M) = N δ M := rfl
theorem loopQ_ct {N : DSt → DM → Prop} {R : Ro → Prop} {δ : DSt} {M : DM} : loopQ N R (.ct δ M) = N δ M := rfl
theorem loopQ_bk {N : DSt → DM → Prop} {R : Ro → Prop} {δ : DSt} {M : DM} : loopQ N R (.bk δ M) = R (.nx δ M) := rfl
theorem loopQ_rt {N : DSt → DM → Prop} {R : Ro → Prop} {d : D} {M : DM} : loopQ N R (.rt d M) = R (.rt d M) := rfl
theorem turn_sat {g : FG} {body : FS} {d : D} {δ : DSt} {M : DM} {N : DSt → DM → Prop} {R : Ro → Prop} {next : DSt → DM → Ro} (h : ∃ δ1 M1, g d δ M = some (δ1, M1) ∧ (body δ1 M1).sat (loopQ N R)) (hn : ∀ δ' M', N δ' M' → (next δ' M').sat R) :
    Ro.sat (match g d δ M with
      | none => .bad
      | some (δ1, M1) => match body δ1 M1 with
        | .nx δ2 M2 => next δ2 M2
        | .ct δ2 M2 => next δ2 M2
        | .bk δ2 M2 => .nx δ2 M2
        | .rt d M2 => .rt d M2
        | .ex x δ2 M2 => .ex x δ2 M2
        | .bad => .bad) R := by
  obtain ⟨δ1, M1, e1, h1⟩ := h
  simp only [e1]
  cases e : body δ1 M1 with
  | nx δ2 M2 => rw [e] at h1; exact hn δ2 M2 h1
  | ct δ2 M2 => rw [e] at h1; exact hn δ2 M2 h1
  | bk δ2 M2 => rw [e] at h1; exact h1
  | rt d M2 => rw [e] at h1; exact h1
  | ex x δ2 M2 => rw [e] at h1; exact h1
  | bad => rw [e] at h1; exact h1
/-- a loop over items that stand still, by an invariant -/
theorem forDs_sat {g : FG} {body : FS} {R : Ro → Prop} (J : Nat → DSt → DM → Prop) : ∀ (ds : List D) (i : Nat) (δ : DSt) (M : DM)
    (step : ∀ j d δ M, ds[j]? = some d → J (i + j) δ M → ∃ δ1 M1, g d δ M = some (δ1, M1) ∧ (body δ1 M1).sat (loopQ (J (i + j + 1)) R)) (fin : ∀ δ M, J (i + ds.length) δ M → R (.nx δ M)) (h : J i δ M), (forDs g body ds δ M).sat R
  | [], i, δ, M, _, fin, h => fin δ M h
  | d :: ds, i, δ, M, step, fin, h => by
    refine turn_sat (next := fun δ' M' => forDs g body ds δ' M') (step 0 d δ M rfl h) fun δ' M' q => ?_
    refine forDs_sat J ds (i + 1) δ' M' (fun j d δ M hd hJ => ?_) (fun δ M q => fin δ M (by rw [List.length_cons, show i + (ds.length + 1) = i + 1 + ds.length by omega]; exact q)) q
    have := step (j + 1) d δ M (by simpa using hd) (by rw [show i + (j + 1) = i + 1 + j by omega]; exact hJ)
    rw [show i + (j + 1) + 1 = i + 1 + j + 1 by omega] at this
    exact this
theorem forObj_sat {n : Nat} {g : FG} {body : FS} {R : Ro → Prop} (ds : List D) (J : Nat → DSt → DM → Prop) (hJ : ∀ i δ M, J i δ M → M[n]? = some (.lst ds))
    (step : ∀ i d δ M, ds[i]? = some d → J i δ M → ∃ δ1 M1, g d δ M = some (δ1, M1) ∧ (body δ1 M1).sat (loopQ (J (i + 1)) R)) (fin : ∀ δ M, J ds.length δ M → R (.nx δ M)) : ∀ (m i : Nat) (δ : DSt) (M : DM), i ≤ ds.length → ds.length - i < m → J i δ M → (forObj n g body m i δ M).sat R
  | 0, i, δ, M, _, hm, _ => absurd hm (Nat.not_lt_zero _)
  | m + 1, i, δ, M, hi, hm, h => by
    simp only [forObj, hJ i δ M h]
    cases e : ds[i]? with
    | none =>
      have := List.getElem?_eq_none_iff.mp e
      have e' : i = ds.length := by omega
      subst e'
      exact fin δ M h
    | some d =>
      have hlt := (List.getElem?_eq_some_iff.mp e).1
      exact turn_sat (next := fun δ' M' => forObj n g body m (i + 1) δ' M') (step i d δ M e h) fun δ' M' q => forObj_sat ds J hJ step fin m (i + 1) δ' M' hlt (by omega) q
theorem forR_sat {g : FG} {body : FS} {R : Ro → Prop} (J : Nat → DSt → DM → Prop)
    : ∀ (n i : Nat) (δ : DSt) (M : DM) (step : ∀ j δ M, i ≤ j → j < i + n → J j δ M → ∃ δ1 M1, g (.int j) δ M = some (δ1, M1) ∧ (body δ1 M1).sat (loopQ (J (j + 1)) R)) (fin : ∀ δ M, J (i + n) δ M → R (.nx δ M)), J i δ M → (forR g body n (i : Int) δ M).sat R
  | 0, i, δ, M, _, fin, h => fin δ M h
  | n + 1, i, δ, M, step, fin, h => by
    show Ro.sat (match g (.int i) δ M with
      | none => .bad
      | some (δ1, M1) => match body δ1 M1 with
        | .nx δ2 M2 => forR g body n ((i : Int) + 1) δ2 M2
        | .ct δ2 M2 => forR g body n ((i : Int) + 1) δ2 M2
        | .bk δ2 M2 => .nx δ2 M2
        | .rt d M2 => .rt d M2
        | .ex x δ2 M2 => .ex x δ2 M2
        | .bad => .bad) R
    refine turn_sat (next := fun δ' M' => forR g body n ((i : Int) + 1) δ' M') (step i δ M (Nat.le_refl _) (by omega) h) fun δ' M' q => ?_
    rw [← Int.natCast_succ]
    exact forR_sat J n (i + 1) δ' M' (fun j δ M h1 h2 hJ => step j δ M (by omega) (by omega) hJ) (fun δ M q => fin δ M (by rw [show i + (n + 1) = i + 1 + n by omega]; exact q)) q
/-- for x in a tuple -/
theorem sforT_sat {fu : DSt → DM → Nat} {f : FE} {g : FG} {body : FS} {δ : DSt} {M M' : DM} {ds : List D} {R : Ro → Prop} (h : f δ M = .ok (.tup ds) M') (J : Nat → DSt → DM → Prop) (h0 : J 0 δ M')
    (step : ∀ j d δ M, ds[j]? = some d → J j δ M → ∃ δ1 M1, g d δ M = some (δ1, M1) ∧ (body δ1 M1).sat (loopQ (J (j + 1)) R)) (fin : ∀ δ M, J ds.length δ M → R (.nx δ M)) : (sFor fu f g body δ M).sat R := by
  unfold sFor
  rw [h]
  exact forDs_sat J ds 0 δ M' (fun j d δ M hd hJ => by rw [Nat.zero_add] at hJ ⊢; exact step j d δ M hd hJ) (fun δ M q => fin δ M (by rw [Nat.zero_add] at q; exact q)) h0
/-- for x in a list of ours -/
theorem sforO_sat {fu : DSt → DM → Nat} {f : FE} {g : FG} {body : FS} {δ : DSt} {M M' : DM} {n : Nat} (ds : List D) {R : Ro → Prop} (h : f δ M = .ok (.obj n) M') (J : Nat → DSt → DM → Prop) (hJ : ∀ i δ M, J i δ M → M[n]? = some (.lst ds)) (h0 : J 0 δ M')
    (step : ∀ j d δ M, ds[j]? = some d → J j δ M → ∃ δ1 M1, g d δ M = some (δ1, M1) ∧ (body δ1 M1).sat (loopQ (J (j + 1)) R)) (fin : ∀ δ M, J ds.length δ M → R (.nx δ M)) : (sFor fu f g body δ M).sat R := by
  unfold sFor
  rw [h]
  refine forObj_sat ds J hJ step fin _ 0 δ M' (Nat.zero_le _) ?_ h0
  unfold fuelOf
  simp only [itemsD, hJ 0 δ M' h0]
  show ds.length - 0 < fu δ M' + (ds.length + 1)
  omega
/-- for i in range(n) -/
theorem sforR_sat {f : FE} {g : FG} {body : FS} {δ : DSt} {M M' : DM} {n : Int} {R : Ro → Prop} (h : f δ M = .ok (.int n) M') (hn : rngOk n = true) (J : Nat → DSt → DM → Prop) (h0 : J 0 δ M')
    (step : ∀ (j : Nat) δ M, (j : Int) < n → J j δ M → ∃ δ1 M1, g (.int j) δ M = some (δ1, M1) ∧ (body δ1 M1).sat (loopQ (J (j + 1)) R)) (fin : ∀ δ M, J n.toNat δ M → R (.nx δ M)) : (sForR f g body δ M).sat R := by
  unfold sForR
  rw [h]
  simp only [ro_ok, hn, if_true]
  exact forR_sat J n.toNat 0 δ M' (fun j δ M _ h2 hJ => step j δ M (by omega) hJ) (fun δ M q => fin δ M (by rw [Nat.zero_add] at q; exact q)) h0
theorem len_o {n : Nat} {ds : List D} {M : DM} (h : M[n]? = some (.lst ds)) : lenD [.obj n] M = .ok (.int ds.length) M := by simp only [lenD, itemsD, h]
theorem len_t {ds : List D} {M : DM} : lenD [.tup ds] M = .ok (.int ds.length) M := rfl
theorem len_s {s : Str} {M : DM} (h : s.length ≤ sizeLine) : lenD [.str s] M = .ok (.int s.length) M := by simp only [lenD, h, if_true]
theorem pow_18 {M : DM} : powD (.int 10) (.int 18) M = .ok (.int 1000000000000000000) M := rfl
/-! step by step -/
theorem sseq_nx {f g : FS} {δ δ' : DSt} {M M' : DM} (h : f δ M = .nx δ' M') : sSeq f g δ M = g δ' M' := by unfold sSeq; rw [h]; rfl
theorem sseq_rt {f g : FS} {δ : DSt} {d : D} {M M' : DM} (h : f δ M = .rt d M') : sSeq f g δ M = .rt d M' := by unfold sSeq; rw [h]; rfl
theorem sif_no {t : FT} {f g : FS} {δ : DSt} {M M' : DM} (h : t δ M = .ok false M') : sIf t f g δ M = g δ M' := by unfold sIf; rw [h]; rfl
theorem sif_none {t : FT} {f : FS} {δ : DSt} {M M' : DM} (h : t δ M = .ok false M') : sIf t f sNil δ M = .nx δ M' := sif_no h
theorem sif_yes {t : FT} {f g : FS} {δ : DSt} {M M' : DM} (h : t δ M = .ok true M') : sIf t f g δ M = f δ M' := by unfold sIf; rw [h]; rfl
theorem tb_ok {f : FE} {δ : DSt} {M M' : DM} {b : Bool} (h : f δ M = .ok (.bl b) M') : tb f δ M = .ok b M' := by unfold tb; rw [h]; rfl
theorem tnot_ok {f : FT} {δ : DSt} {M M' : DM} {b : Bool} (h : f δ M = .ok b M') : tNotF f δ M = .ok (!b) M' := by unfold tNotF; rw [h]; rfl
theorem tand_no {f g : FT} {δ : DSt} {M M' : DM} (h : f δ M = .ok false M') : tAndF f g δ M = .ok false M' := by unfold tAndF; rw [h]; rfl
theorem tand_yes {f g : FT} {δ : DSt} {M M' : DM} (h : f δ M = .ok true M') : tAndF f g δ M = g δ M' := by unfold tAndF; rw [h]; rfl
theorem tor_no {f g : FT} {δ : DSt} {M M' : DM} (h : f δ M = .ok false M') : tOrF f g δ M = g δ M' := by unfold tOrF; rw [h]; rfl
theorem tor_yes {f g : FT} {δ : DSt} {M M' : DM} (h : f δ M = .ok true M') : tOrF f g δ M = .ok true M' := by unfold tOrF; rw [h]; rfl
theorem call1_eq {g : List D → DM → Rs D} {f : FE} {δ : DSt} {M M' : DM} {x : D} (h : f δ M = .ok x M') : eCall g (aCons f aNil) δ M = g [x] M' := by unfold eCall aCons; rw [h]; rfl
theorem call2_eq {g : List D → DM → Rs D} {f f' : FE} {δ : DSt} {M M' M2 : DM} {x y : D} (h : f δ M = .ok x M') (h' : f' δ M' = .ok y M2) : eCall g (aCons f (aCons f' aNil)) δ M = g [x, y] M2 := by
  unfold eCall aCons
  rw [h]
  simp only [Rs.bind, h', aNil]
theorem e2_eq {op : D → D → DM → Rs D} {f f' : FE} {δ : DSt} {M M' M2 : DM} {x y : D} (h : f δ M = .ok x M') (h' : f' δ M' = .ok y M2) : e2 op f f' δ M = op x y M2 := by
  unfold e2
  rw [h]
  simp only [Rs.bind, h']
theorem var_eq {i : Nat} {δ : DSt} {d : D} {M : DM} (h : δ[i]? = some (some d)) : eVar i δ M = .ok d M := by unfold eVar; rw [h]
theorem sforR_eq {f : FE} {g : FG} {body : FS} {δ : DSt} {M M' : DM} {n : Nat} {r : Ro} (h : f δ M = .ok (.int (n : Int)) M') (hn : rngOk n = true) (hr : forR g body n 0 δ M' = r) : sForR f g body δ M = r := by
  unfold sForR
  rw [h]
  show (if rngOk (n : Int) = true then forR g body (n : Int).toNat 0 δ M' else .bad) = r
  rw [if_pos hn, Int.toNat_natCast]
  exact hr
end DL

set_option Elab.async false
set_option linter.all false
set_option maxRecDepth 100000
set_option maxHeartbeats 4000000
namespace DL
open PySem PySem.Spec L2
open PyProof.Rows hiding St
/-! ### the draws of the laws -/
def f_law_mixed : FS :=
 (sSeq (sSet 3 (e2 modD (eCall intD (aCons (e2 addD (e2 addD (e2 mulD (eVar 0) (eC (D.int 48271))) (e2 mulD (eVar 1) (eC (D.int 69621)))) (eC (D.int 11))) aNil)) (eC (D.int 2147483647))))
 (sSeq (sSet 4 (e2 modD (eCall intD (aCons (e2 addD (e2 addD (e2 mulD (eVar 3) (eC (D.int 40692))) (e2 mulD (eVar 0) (eC (D.int 16807)))) (e2 mulD (eVar 1) (eC (D.int 30269)))) aNil)) (eC (D.int 2147483399))))
 (sSeq (sSet 5 (e2 modD (eCall intD (aCons (e2 addD (e2 mulD (eVar 4) (eC (D.int 39373))) (e2 fdivD (eVar 3) (eC (D.int 7)))) aNil)) (eC (D.int 1000000007))))
 (sRet (e2 modD (eCall intD (aCons (eVar 5) aNil)) (eVar 2))))))
def g_law_mixed : List D → DM → Rs D := fnD 6 f_law_mixed
def f_law_draw : FS :=
 (sSeq (sIf (tb (e2 gtD (e2 ixD (eVar 0) (eC (D.int 2))) (eC (D.int 0))))
  (sSeq (sSet 2 (e2 modD (eCall intD (aCons (e2 ixD (eVar 0) (eC (D.int 2))) aNil)) (eVar 1)))
 (sSeq (sSub (e2 fdivD (e2 ixD (eVar 0) (eC (D.int 2))) (eVar 1)) (eVar 0) (eC (D.int 2)))
 (sRet (eVar 2))))
  sNil)
 (sSeq (sIf (tb (e2 gtD (e2 ixD (eVar 0) (eC (D.int 4))) (eC (D.int 0))))
  (sSeq (sSub (e2 subD (e2 ixD (eVar 0) (eC (D.int 4))) (eC (D.int 1))) (eVar 0) (eC (D.int 4)))
 (sRet (eCall g_law_mixed (aCons (e2 ixD (eVar 0) (eC (D.int 3))) (aCons (e2 ixD (eVar 0) (eC (D.int 4))) (aCons (eVar 1) aNil))))))
  sNil)
 (sSeq (sIf (tb (e2 geD (e2 ixD (eVar 0) (eC (D.int 1))) (eCall lenD (aCons (e2 ixD (eVar 0) (eC (D.int 0))) aNil))))
  (sRet (eC (D.int 0)))
  sNil)
 (sSeq (sSet 3 (e2 ixD (e2 ixD (eVar 0) (eC (D.int 0))) (e2 ixD (eVar 0) (eC (D.int 1)))))
 (sSeq (sSub (e2 addD (e2 ixD (eVar 0) (eC (D.int 1))) (eC (D.int 1))) (eVar 0) (eC (D.int 1)))
 (sSeq (sIf (tb (e2 ltD (eVar 3) (eC (D.int 0))))
  (sSet 3 (e2 subD (e1 negD (eC (D.int 1))) (eVar 3)))
  sNil)
 (sSeq (sIf (tb (e2 geD (eVar 3) (e2 powD (eC (D.int 10)) (eC (D.int 18)))))
  (sSeq (sSub (e2 fdivD (eVar 3) (eVar 1)) (eVar 0) (eC (D.int 2)))
 (sRet (e2 modD (eCall intD (aCons (eVar 3) aNil)) (eVar 1))))
  sNil)
 (sSeq (sSub (eVar 3) (eVar 0) (eC (D.int 3)))
 (sSeq (sSub (eC (D.int 7)) (eVar 0) (eC (D.int 4)))
 (sRet (eCall g_law_mixed (aCons (eVar 3) (aCons (eC (D.int 7)) (aCons (eVar 1) aNil))))))))))))))
def g_law_draw : List D → DM → Rs D := fnD 4 f_law_draw
def f_law_pool : FS :=
 (sRet (eLst (aCons (eCall listD (aCons (eVar 0) aNil)) (aCons (eC (D.int 0)) (aCons (eC (D.int 0)) (aCons (eC (D.int 0)) (aCons (eC (D.int 0)) aNil)))))))
def g_law_pool : List D → DM → Rs D := fnD 1 f_law_pool
def f_law_same (G : List D → DM → Rs D) : FS :=
 (sSeq (sIf (tb (e2 isN (eVar 1) (eC D.non)))
  (sRet (e2 isN (eVar 0) (eC D.non)))
  sNil)
 (sSeq (sIf (tb (eCall isiD (aCons (eVar 1) (aCons (eC (D.ty "bool")) aNil))))
  (sRet (eAnd (eCall isiD (aCons (eVar 0) (aCons (eC (D.ty "bool")) aNil))) (e2 eqD (eVar 0) (eVar 1))))
  sNil)
 (sSeq (sIf (tb (eCall isiD (aCons (eVar 1) (aCons (eC (D.ty "int")) aNil))))
  (sRet (eAnd (eCall isiD (aCons (eVar 0) (aCons (eC (D.ty "int")) aNil))) (eAnd (eNot (eCall isiD (aCons (eVar 0) (aCons (eC (D.ty "bool")) aNil)))) (e2 eqD (eVar 0) (eVar 1)))))
  sNil)
 (sSeq (sIf (tb (eCall isiD (aCons (eVar 1) (aCons (eC (D.ty "str")) aNil))))
  (sRet (eAnd (eCall isiD (aCons (eVar 0) (aCons (eC (D.ty "str")) aNil))) (e2 eqD (eVar 0) (eVar 1))))
  sNil)
 (sSeq (sIf (tAndF (tb (eCall isiD (aCons (eVar 1) (aCons (eC (D.ty "tuple")) aNil)))) (tNotF (tb (eCall isiD (aCons (eVar 0) (aCons (eC (D.ty "tuple")) aNil))))))
  (sRet (eC (D.bl false)))
  sNil)
 (sSeq (sIf (tAndF (tb (eCall isiD (aCons (eVar 1) (aCons (eC (D.ty "list")) aNil)))) (tNotF (tb (eCall isiD (aCons (eVar 0) (aCons (eC (D.ty "list")) aNil))))))
  (sRet (eC (D.bl false)))
  sNil)
 (sSeq (sIf (tb (e2 neD (eCall lenD (aCons (eVar 0) aNil)) (eCall lenD (aCons (eVar 1) aNil))))
  (sRet (eC (D.bl false)))
  sNil)
 (sSeq (sForR (eCall lenD (aCons (eVar 1) aNil)) (gNm 2)
  (sIf (tNotF (tb (eCall G (aCons (e2 ixD (eVar 0) (eVar 2)) (aCons (e2 ixD (eVar 1) (eVar 2)) aNil)))))
  (sRet (eC (D.bl false)))
  sNil))
 (sRet (eC (D.bl true)))))))))))
def g_law_same : Nat → List D → DM → Rs D
  | 0 => fun _ _ => .bad
  | n + 1 => fnD 3 (f_law_same (g_law_same n))
local macro_rules | `(tactic| walk_at "dx") => `(tactic| simp (disch := first | decide | assumption | omega) only [sSeq, sIf, sRet, sRetN, sNil, sSet, sExpr, sAsg, gTupN, gNms, gNm, tb, tNotF, tAndF, tOrF, eNot, eAnd, eOr, eIf, eTup, eLst, aCons, aNil, eCall, e1, e2, eVar, eC, negD, bind_ok, ro_ok, seq_nx, seq_rt, seq_ct, seq_bk, fin_rt, fin_nx, sat_ok, sat_bind, sat_fin, sat_seq, sat_ro, rsat_nx, rsat_rt, rsat_ct, rsat_bk, seqQ_nx, seqQ_rt, seqQ_ct, seqQ_bk, finQ_nx, finQ_rt, sSub, ixo0, ixo1, ixo2, ixo3, ixo4, puts1, puts2, puts3, puts4, List.map_cons, List.map_nil, List.length_cons, List.length_nil, Nat.reduceAdd, Nat.reduceSub, List.replicate_succ, List.replicate_zero, List.nil_append, List.cons_append, List.getElem?_cons_zero, List.getElem?_cons_succ, List.set_cons_zero, List.set_cons_succ, ix0, ix1, ix2, ix3, ix4, eq_ss, eq_ii, eq_bb, ne_ss, ne_ii, add_ii, sub_ii, mul_ii, mod_ii, fdiv_ii, ord_ii, isN_, isNonD, int_i, if_true, if_false, Bool.false_eq_true, Bool.true_eq_false, Bool.not_true, Bool.not_false, decide_eq_true_eq, Bool.and_true, Bool.true_and, Bool.and_false, Bool.false_and, Bool.or_true, Bool.or_false, Bool.true_or, Bool.false_or, ofString_inj, String.reduceEq, decide_true, decide_false, Int.reduceLT, Int.reduceLE, Int.reduceEq, Int.reduceNeg, Int.reduceSub, Int.reduceAdd, Int.reducePow, Int.reduceMul, *])
/-- where the script's list and the pool stand -/
structure PoolAt (M : DM) : Prop where
  ex : ∃ (ns : List Int) (a b c e : Int), M[0]? = some (.lst (ns.map .int)) ∧ M[1]? = some (.lst [.obj 0, .int a, .int b, .int c, .int e]) ∧ 0 ≤ a ∧ ns.length ≤ 63
/-- the pool alone may have changed -/
structure Drew (M M' : DM) : Prop where
  at_ : PoolAt M'
  ex : ∃ mo, M' = M.set 1 mo
theorem Drew.refl {M : DM} (P : PoolAt M) : Drew M M := by
  obtain ⟨ns, a, b, c, e, h0, h1, _⟩ := P.ex
  exact ⟨P, _, (List.set_getElem?_self' h1).symm⟩
where
  List.set_getElem?_self' {l : DM} {i : Nat} {x : MO} (h : l[i]? = some x) : l.set i x = l := by
    obtain ⟨h1, h2⟩ := List.getElem?_eq_some_iff.mp h
    rw [← h2]
    exact List.set_getElem_self h1
theorem Drew.trans {M M1 M2 : DM} (a : Drew M M1) (b : Drew M1 M2) : Drew M M2 := by
  obtain ⟨m1, e1⟩ := a.ex
  obtain ⟨m2, e2⟩ := b.ex
  exact ⟨b.at_, m2, by rw [e2, e1, List.set_set]⟩
theorem Drew.len {M M' : DM} (a : Drew M M') : M'.length = M.length := by
  obtain ⟨m1, e1⟩ := a.ex
  rw [e1, List.length_set]
theorem Drew.get {M M' : DM} (a : Drew M M') {i : Nat} (h : i ≠ 1) : M'[i]? = M[i]? := by
  obtain ⟨m1, e1⟩ := a.ex
  rw [e1, List.getElem?_set_ne (Ne.symm h)]
theorem PoolAt.grow {M : DM} (P : PoolAt M) (l : DM) : PoolAt (M ++ l) := by
  obtain ⟨ns, a, b, c, e, h0, h1, h2⟩ := P.ex
  have l0 := (List.getElem?_eq_some_iff.mp h0).1
  have l1 := (List.getElem?_eq_some_iff.mp h1).1
  exact ⟨ns, a, b, c, e, by rw [List.getElem?_append_left l0]; exact h0, by rw [List.getElem?_append_left l1]; exact h1, h2⟩
theorem PoolAt.set {M : DM} (P : PoolAt M) {i : Nat} (mo : MO) (h0 : i ≠ 0) (h1 : i ≠ 1) : PoolAt (M.set i mo) := by
  obtain ⟨ns, a, b, c, e, q0, q1, h2⟩ := P.ex
  exact ⟨ns, a, b, c, e, by rw [List.getElem?_set_ne h0]; exact q0, by rw [List.getElem?_set_ne h1]; exact q1, h2⟩
theorem law_mixed_sat {x t L : Int} {M : DM} {Q : D → DM → Prop} (h : 0 < L) (q : ∀ r, 0 ≤ r → r < L → Q (.int r) M) : (g_law_mixed [.int x, .int t, .int L] M).sat Q := by
  unfold g_law_mixed f_law_mixed fnD
  simp (disch := first | decide | assumption) only [sSeq, sSet, sRet, e2, eC, eVar, eCall, aCons, aNil, bind_ok, ro_ok, seq_nx, seq_rt, fin_rt, List.map_cons, List.map_nil, List.length_cons, List.length_nil, Nat.reduceAdd, Nat.reduceSub, List.replicate_succ, List.replicate_zero, List.cons_append, List.nil_append,
      List.getElem?_cons_zero, List.getElem?_cons_succ, List.set_cons_zero, List.set_cons_succ, mul_ii, add_ii, int_i, mod_ii, fdiv_ii]
  exact q _ (Int.emod_nonneg _ (by omega)) (Int.emod_lt_of_pos _ h)
theorem law_draw_sat {L : Int} {M : DM} {Q : D → DM → Prop} (P : PoolAt M) (h : 0 < L ∧ L < 1073741824) (q : ∀ r M', 0 ≤ r → r < L → Drew M M' → Q (.int r) M') : (g_law_draw [.obj 1, .int L] M).sat Q := by
  obtain ⟨ns, a, b, c, e, h0, h1, ha, hns⟩ := P.ex
  have hL := h.1
  have hL' : lim 1073741823 L = true := lim_of (by omega)
  have i2 : ixD (.obj 1) (.int 2) M = .ok (.int b) M := ixo (k := 2) h1 rfl
  have i4 : ixD (.obj 1) (.int 4) M = .ok (.int e) M := ixo (k := 4) h1 rfl
  have i1 : ixD (.obj 1) (.int 1) M = .ok (.int a) M := ixo (k := 1) h1 rfl
  have i3 : ixD (.obj 1) (.int 3) M = .ok (.int c) M := ixo (k := 3) h1 rfl
  have i0 : ixD (.obj 1) (.int 0) M = .ok (.obj 0) M := ixo (k := 0) h1 rfl
  have done_ : ∀ {M' : DM} {a' b' c' e' : Int}, M' = M.set 1 (.lst [.obj 0, .int a', .int b', .int c', .int e']) → 0 ≤ a' → Drew M M' := fun {M' a' b' c' e'} eM h => by
    have l1 := (List.getElem?_eq_some_iff.mp h1).1
    exact ⟨⟨ns, a', b', c', e', by rw [eM, List.getElem?_set_ne (by decide)]; exact h0, by rw [eM, List.getElem?_set_self l1], h, hns⟩, _, eM⟩
  have l1 := (List.getElem?_eq_some_iff.mp h1).1
  have p2 := fun d => put2 (d := d) h1
  have p4 := fun d => put4 (d := d) h1
  have p1 := fun d => put1 (d := d) h1
  unfold g_law_draw f_law_draw fnD
  by_cases hb : 0 < b
  · walk_at "dx"
    exact q _ _ (Int.emod_nonneg _ (by omega)) (Int.emod_lt_of_pos _ hL) (done_ rfl ha)
  by_cases he : 0 < e
  · walk_at "dx"
    exact law_mixed_sat hL fun r h1 h2 => q r _ h1 h2 (done_ rfl ha)
  have hl := len_o h0
  rw [List.length_map] at hl
  by_cases hn : (ns.length : Int) ≤ a
  · walk_at "dx"
    exact q _ _ (Int.le_refl _) hL (done_ (by rw [Drew.refl.List.set_getElem?_self' h1]) ha)
  obtain ⟨x, hx⟩ : ∃ x, ixD (.obj 0) (.int a) M = .ok (.int x) M := by
    have ea : (a.toNat : Int) = a := by omega
    have hlt : a.toNat < ns.length := by omega
    have q : ixD (.obj 0) (.int (a.toNat : Int)) M = .ok (.int ns[a.toNat]) M := ixo h0 (by rw [List.getElem?_map, List.getElem?_eq_getElem hlt]; rfl)
    rw [ea] at q
    exact ⟨_, q⟩
  have last : ∀ x : Int, Q (.int (x % L)) (M.set 1 (.lst [.obj 0, .int (a + 1), .int (x / L), .int c, .int e])) := fun x => q _ _ (Int.emod_nonneg _ (by omega)) (Int.emod_lt_of_pos _ hL) (done_ rfl (by omega))
  have last2 : ∀ x : Int, (g_law_mixed [.int x, .int 7, .int L] (M.set 1 (.lst [.obj 0, .int (a + 1), .int b, .int x, .int 7]))).sat Q := fun x => law_mixed_sat hL fun r h1 h2 => q r _ h1 h2 (done_ rfl (by omega))
  have hP : ∀ M' : DM, powD (.int 10) (.int 18) M' = .ok (.int 1000000000000000000) M' := fun _ => rfl
  clear i3 p2 p4 done_ q hns P
  by_cases h8 : x < 0
  · by_cases h9 : 1000000000000000000 ≤ -1 - x
    · walk_at "dx"
    · walk_at "dx"
  · by_cases h9 : 1000000000000000000 ≤ x
    · walk_at "dx"
    · walk_at "dx"
/-- a list's items -/
def lstOf (M : DM) (x : D) : Option (List D) := match x with
  | .rol ds => some ds
  | .obj i => match M[i]? with
    | some (.lst ds) => some ds
    | _ => none
  | _ => none
theorem lstOf_items {M : DM} {x : D} {ds : List D} (h : lstOf M x = some ds) : itemsD x M = some ds ∧ tyName x M = some "list" := by
  unfold lstOf at h
  cases x with
  | rol es => cases h; exact ⟨rfl, rfl⟩
  | obj i =>
    simp only at h
    simp only [itemsD, tyName]
    cases e : M[i]? with
    | none => rw [e] at h; cases h
    | some mo =>
      rw [e] at h
      cases mo with
      | lst es => cases h; exact ⟨rfl, rfl⟩
      | _ => cases h
  | _ => cases h
/-- the same data, seen through the lists -/
inductive SameP (M : DM) : Nat → D → D → Prop
  | non {n : Nat} : SameP M (n + 1) .non .non
  | bl {n : Nat} (b : Bool) : SameP M (n + 1) (.bl b) (.bl b)
  | int {n : Nat} (i : Int) : SameP M (n + 1) (.int i) (.int i)
  | str {n : Nat} (s : Str) : SameP M (n + 1) (.str s) (.str s)
  | tup {n : Nat} {xs ys : List D} (hl : xs.length = ys.length) (hz : xs.length ≤ 16777216) (h : ∀ (i : Nat) (x y : D), xs[i]? = some x → ys[i]? = some y → SameP M n x y) : SameP M (n + 1) (.tup xs) (.tup ys)
  | lst {n : Nat} {a b : D} {xs ys : List D} (ha : lstOf M a = some xs) (hb : lstOf M b = some ys) (hl : xs.length = ys.length) (hz : xs.length ≤ 16777216) (h : ∀ (i : Nat) (x y : D), xs[i]? = some x → ys[i]? = some y → SameP M n x y) : SameP M (n + 1) a b
theorem isi_eq {x : D} {T n : String} {M : DM} {b : Bool} (h : tyName x M = some n) (h' : isiTab n T = some b) : isiD [x, .ty T] M = .ok (.bl b) M := by
  simp only [isiD, h, h']
theorem len_items {x : D} {ds : List D} {M : DM} (hs : ∀ s, x ≠ .str s) (h : itemsD x M = some ds) : lenD [x] M = .ok (.int ds.length) M := by
  cases x with
  | str s => exact absurd rfl (hs s)
  | _ => simp only [lenD, h]
theorem ix_items {x : D} {ds : List D} {k : Nat} {d : D} {M : DM} (hs : ∀ s, x ≠ .str s) (h : itemsD x M = some ds) (hk : ds[k]? = some d) : ixD x (.int k) M = .ok d M := by
  cases x with
  | str s => exact absurd rfl (hs s)
  | _ =>
    simp only [ixD, ixItems, h]
    rw [atI_nat hk]
theorem isN_false {x : D} {M : DM} {n : String} (h : tyName x M = some n) (hn : n ≠ "NoneType") : isNonD x = false := by
  cases x with
  | non => cases h; exact absurd rfl hn
  | _ => rfl
theorem range_ok {n : Nat} (h : n ≤ 16777216) : rngOk n = true := by
  unfold rngOk
  exact lim_of (by omega)
theorem isi_tab1 : isiTab "tuple" "bool" = some false ∧ isiTab "tuple" "int" = some false ∧ isiTab "tuple" "str" = some false ∧ isiTab "tuple" "tuple" = some true ∧ isiTab "tuple" "list" = some false := by decide +kernel
theorem isi_tab2 : isiTab "list" "bool" = some false ∧ isiTab "list" "int" = some false ∧ isiTab "list" "str" = some false ∧ isiTab "list" "tuple" = some false ∧ isiTab "list" "list" = some true := by decide +kernel
theorem isi_tab3 : isiTab "bool" "bool" = some true ∧ isiTab "int" "bool" = some false ∧ isiTab "int" "int" = some true ∧ isiTab "str" "bool" = some false ∧ isiTab "str" "int" = some false ∧ isiTab "str" "str" = some true := by decide +kernel
theorem same_loop {M : DM} {G : List D → DM → Rs D} {x y : D} {xs ys : List D} (hx : ∀ s, x ≠ .str s) (hy : ∀ s, y ≠ .str s) (ix : itemsD x M = some xs) (iy : itemsD y M = some ys) (hl : xs.length = ys.length)
    (h : ∀ (i : Nat) (a b : D), xs[i]? = some a → ys[i]? = some b → G [a, b] M = .ok (.bl true) M) : ∀ (n i : Nat) (δ : DSt), i + n = ys.length → δ.length = 3 → δ[0]? = some (some x) → δ[1]? = some (some y) →
      ∃ δ', forR (gNm 2) (sIf (tNotF (tb (eCall G (aCons (e2 ixD (eVar 0) (eVar 2)) (aCons (e2 ixD (eVar 1) (eVar 2)) aNil))))) (sRet (eC (D.bl false))) sNil) n (i : Int) δ M = .nx δ' M := by
    intro n
    induction n with
    | zero => intro i δ _ _ _ _; exact ⟨δ, rfl⟩
    | succ n ih =>
      intro i δ hi h3 h0 h1
      have hiy : i < ys.length := by omega
      have hix : i < xs.length := by omega
      have e2' : (δ.set 2 (some (D.int i)))[2]? = some (some (D.int i)) := List.getElem?_set_self (by omega)
      have e0' : (δ.set 2 (some (D.int i)))[0]? = some (some x) := by rw [List.getElem?_set_ne (by decide)]; exact h0
      have e1' : (δ.set 2 (some (D.int i)))[1]? = some (some y) := by rw [List.getElem?_set_ne (by decide)]; exact h1
      have q1 : ixD x (.int i) M = .ok xs[i] M := ix_items hx ix (List.getElem?_eq_getElem hix)
      have q2 : ixD y (.int i) M = .ok ys[i] M := ix_items hy iy (List.getElem?_eq_getElem hiy)
      have q3 := h i xs[i] ys[i] (List.getElem?_eq_getElem hix) (List.getElem?_eq_getElem hiy)
      obtain ⟨δ', hd⟩ := ih (i + 1) (δ.set 2 (some (D.int i))) (by omega) (by rw [List.length_set]; exact h3) e0' e1'
      refine ⟨δ', ?_⟩
      rw [← hd, Int.natCast_succ]
      simp only [forR, gNm, sIf, tNotF, tb, eCall, aCons, aNil, e2, eVar, e0', e1', e2', bind_ok, ro_ok, q1, q2, q3, Bool.not_true, Bool.false_eq_true, if_false, sNil]
theorem same_tail {M : DM} {G : List D → DM → Rs D} {x y : D} {xs ys : List D} {T : String} (hx : ∀ s, x ≠ .str s) (hy : ∀ s, y ≠ .str s) (ix : itemsD x M = some xs) (iy : itemsD y M = some ys) (tx : tyName x M = some T) (ty : tyName y M = some T) (hT : T = "tuple" ∨ T = "list")
    (hl : xs.length = ys.length) (hz : xs.length ≤ 16777216) (h : ∀ (i : Nat) (a b : D), xs[i]? = some a → ys[i]? = some b → G [a, b] M = .ok (.bl true) M) : fnD 3 (f_law_same G) [x, y] M = .ok (.bl true) M := by
  have lx := len_items hx ix
  have ly := len_items hy iy
  have nn : T ≠ "NoneType" := by rcases hT with rfl | rfl <;> decide
  have n1 := isN_false tx nn
  have n2 := isN_false ty nn
  obtain ⟨t4, t5, b1, b2, b3, b4, b5, c4, c5, h45⟩ : ∃ t4 t5 : Bool, isiD [y, .ty "bool"] M = .ok (.bl false) M ∧ isiD [y, .ty "int"] M = .ok (.bl false) M ∧ isiD [y, .ty "str"] M = .ok (.bl false) M ∧ isiD [y, .ty "tuple"] M = .ok (.bl t4) M ∧ isiD [y, .ty "list"] M = .ok (.bl t5) M ∧
      isiD [x, .ty "tuple"] M = .ok (.bl t4) M ∧ isiD [x, .ty "list"] M = .ok (.bl t5) M ∧ ((t4 = true ∧ t5 = false) ∨ (t4 = false ∧ t5 = true)) := by
    rcases hT with rfl | rfl
    · obtain ⟨q1, q2, q3, q4, q5⟩ := isi_tab1
      exact ⟨true, false, isi_eq ty q1, isi_eq ty q2, isi_eq ty q3, isi_eq ty q4, isi_eq ty q5, isi_eq tx q4, isi_eq tx q5, .inl ⟨rfl, rfl⟩⟩
    · obtain ⟨q1, q2, q3, q4, q5⟩ := isi_tab2
      exact ⟨false, true, isi_eq ty q1, isi_eq ty q2, isi_eq ty q3, isi_eq ty q4, isi_eq ty q5, isi_eq tx q4, isi_eq tx q5, .inr ⟨rfl, rfl⟩⟩
  have loop := same_loop hx hy ix iy hl h
  obtain ⟨δ', hd⟩ := loop ys.length 0 [some x, some y, none] (by omega) rfl rfl rfl
  have hz' := range_ok (hl ▸ hz)
  have e0 : ((ys.length : Int)).toNat = ys.length := by omega
  clear h loop hx hy tx ty nn hz
  show (f_law_same G [some x, some y, none] M).fin = _
  have v0 : ∀ M' : DM, eVar 0 [some x, some y, none] M' = .ok x M' := fun _ => rfl
  have v1 : ∀ M' : DM, eVar 1 [some x, some y, none] M' = .ok y M' := fun _ => rfl
  have cT : ∀ (T : String) (M' : DM), eC (.ty T) [some x, some y, none] M' = .ok (.ty T) M' := fun _ _ => rfl
  have hd' : forR (gNm 2) (sIf (tNotF (tb (eCall G (aCons (e2 ixD (eVar 0) (eVar 2)) (aCons (e2 ixD (eVar 1) (eVar 2)) aNil))))) (sRet (eC (D.bl false))) sNil) ys.length 0 [some x, some y, none] M = Ro.nx δ' M := hd
  have s8 : sForR (eCall lenD (aCons (eVar 1) aNil)) (gNm 2) (sIf (tNotF (tb (eCall G (aCons (e2 ixD (eVar 0) (eVar 2)) (aCons (e2 ixD (eVar 1) (eVar 2)) aNil))))) (sRet (eC (D.bl false))) sNil) [some x, some y, none] M = .nx δ' M := by
    exact sforR_eq ((call1_eq (v1 M)).trans ly) hz' hd'
  have k4 : tAndF (tb (eCall isiD (aCons (eVar 1) (aCons (eC (D.ty "tuple")) aNil)))) (tNotF (tb (eCall isiD (aCons (eVar 0) (aCons (eC (D.ty "tuple")) aNil))))) [some x, some y, none] M = .ok false M := by
    cases t4 with
    | false => exact tand_no (tb_ok ((call2_eq (v1 M) (cT _ M)).trans b4))
    | true => rw [tand_yes (tb_ok ((call2_eq (v1 M) (cT _ M)).trans b4))]; exact tnot_ok (tb_ok ((call2_eq (v0 M) (cT _ M)).trans c4))
  have k5 : tAndF (tb (eCall isiD (aCons (eVar 1) (aCons (eC (D.ty "list")) aNil)))) (tNotF (tb (eCall isiD (aCons (eVar 0) (aCons (eC (D.ty "list")) aNil))))) [some x, some y, none] M = .ok false M := by
    cases t5 with
    | false => exact tand_no (tb_ok ((call2_eq (v1 M) (cT _ M)).trans b5))
    | true => rw [tand_yes (tb_ok ((call2_eq (v1 M) (cT _ M)).trans b5))]; exact tnot_ok (tb_ok ((call2_eq (v0 M) (cT _ M)).trans c5))
  have k6 : tb (e2 neD (eCall lenD (aCons (eVar 0) aNil)) (eCall lenD (aCons (eVar 1) aNil))) [some x, some y, none] M = .ok false M := by
    refine tb_ok ((e2_eq ((call1_eq (v0 M)).trans lx) ((call1_eq (v1 M)).trans ly)).trans ?_)
    rw [ne_ii, hl, decide_eq_true rfl]
    rfl
  have k0 : tb (e2 isN (eVar 1) (eC D.non)) [some x, some y, none] M = .ok false M := tb_ok ((e2_eq (v1 M) (y := .non) (M2 := M) rfl).trans (by rw [isN_, n2]))
  unfold f_law_same
  rw [sseq_nx (sif_none k0), sseq_nx (sif_none (tb_ok ((call2_eq (v1 M) (cT _ M)).trans b1))), sseq_nx (sif_none (tb_ok ((call2_eq (v1 M) (cT _ M)).trans b2))), sseq_nx (sif_none (tb_ok ((call2_eq (v1 M) (cT _ M)).trans b3))),
    sseq_nx (sif_none k4), sseq_nx (sif_none k5), sseq_nx (sif_none k6), sseq_nx s8]
  rfl
theorem law_same_true {M : DM} : ∀ (n : Nat) (x y : D), SameP M n x y → g_law_same n [x, y] M = .ok (.bl true) M
  | 0, x, y, h => by cases h
  | n + 1, x, y, h => by
    show fnD 3 (f_law_same (g_law_same n)) [x, y] M = _
    cases h with
    | non => rfl
    | bl b =>
      have b1 : isiD [.bl b, .ty "bool"] M = .ok (.bl true) M := isi_eq rfl isi_tab3.1
      unfold fnD f_law_same
      simp only [sSeq, sIf, sRet, sNil, tb, e2, eVar, eC, eCall, eAnd, aCons, aNil, isN_, isNonD, b1, bind_ok, ro_ok, seq_nx, seq_rt, fin_rt, eq_bb, List.map_cons, List.map_nil, List.length_cons, List.length_nil, Nat.reduceAdd, Nat.reduceSub, List.replicate_succ, List.replicate_zero, List.nil_append, List.cons_append, List.getElem?_cons_zero, List.getElem?_cons_succ, Bool.false_eq_true, if_false, if_true, decide_true]
    | int i =>
      have b1 : isiD [.int i, .ty "bool"] M = .ok (.bl false) M := isi_eq rfl isi_tab3.2.1
      have b2 : isiD [.int i, .ty "int"] M = .ok (.bl true) M := isi_eq rfl isi_tab3.2.2.1
      unfold fnD f_law_same
      simp only [sSeq, sIf, sRet, sNil, tb, e2, eVar, eC, eCall, eAnd, eNot, aCons, aNil, isN_, isNonD, b1, b2, bind_ok, ro_ok, seq_nx, seq_rt, fin_rt, eq_ii, List.map_cons, List.map_nil, List.length_cons, List.length_nil, Nat.reduceAdd, Nat.reduceSub, List.replicate_succ, List.replicate_zero, List.nil_append, List.cons_append, List.getElem?_cons_zero, List.getElem?_cons_succ, Bool.false_eq_true, if_false, if_true, decide_true, Bool.not_false]
    | str s =>
      have b1 : isiD [.str s, .ty "bool"] M = .ok (.bl false) M := isi_eq rfl isi_tab3.2.2.2.1
      have b2 : isiD [.str s, .ty "int"] M = .ok (.bl false) M := isi_eq rfl isi_tab3.2.2.2.2.1
      have b3 : isiD [.str s, .ty "str"] M = .ok (.bl true) M := isi_eq rfl isi_tab3.2.2.2.2.2
      unfold fnD f_law_same
      simp only [sSeq, sIf, sRet, sNil, tb, e2, eVar, eC, eCall, eAnd, eNot, aCons, aNil, isN_, isNonD, b1, b2, b3, bind_ok, ro_ok, seq_nx, seq_rt, fin_rt, eq_ss, List.map_cons, List.map_nil, List.length_cons, List.length_nil, Nat.reduceAdd, Nat.reduceSub, List.replicate_succ, List.replicate_zero, List.nil_append, List.cons_append, List.getElem?_cons_zero, List.getElem?_cons_succ, Bool.false_eq_true, if_false, if_true, decide_true]
    | @tup _ xs ys hl hz h =>
      exact same_tail (fun s z => by cases z) (fun s z => by cases z) rfl rfl rfl rfl (.inl rfl) hl hz fun i a b ha hb => law_same_true n a b (h i a b ha hb)
    | lst ha hb hl hz h =>
      obtain ⟨i1, t1⟩ := lstOf_items ha
      obtain ⟨i2, t2⟩ := lstOf_items hb
      refine same_tail (fun s z => ?_) (fun s z => ?_) i1 i2 t1 t2 (.inr rfl) hl hz fun i a b ha hb => law_same_true n a b (h i a b ha hb)
      · subst z; cases ha
      · subst z; cases hb
/-- data is the same as itself -/
def plainN : Nat → D → Bool
  | _ + 1, .non => true
  | _ + 1, .bl _ => true
  | _ + 1, .int _ => true
  | _ + 1, .str _ => true
  | n + 1, .tup ds => decide (ds.length ≤ 1000) && ds.all (plainN n)
  | _, _ => false
theorem SameP.refl {M : DM} : ∀ (n : Nat) (d : D), plainN n d = true → SameP M n d d
  | 0, d, h => by cases d <;> cases h
  | n + 1, .non, h => .non
  | n + 1, .bl b, h => .bl b
  | n + 1, .int b, h => .int b
  | n + 1, .str b, h => .str b
  | n + 1, .tup ds, h => by
    simp only [plainN, Bool.and_eq_true, decide_eq_true_eq] at h
    refine .tup rfl (by omega) fun i x y hx hy => ?_
    rw [hx] at hy
    cases hy
    exact SameP.refl n x (List.all_eq_true.mp h.2 x (List.mem_of_getElem? hx))
  | n + 1, .rol _, h => by cases h
  | n + 1, .obj _, h => by cases h
  | n + 1, .cl _, h => by cases h
  | n + 1, .ty _, h => by cases h
theorem law_pool_eq {ns : List Int} : g_law_pool [.rol (ns.map .int)] [] = .ok (.obj 1) [.lst (ns.map .int), .lst [.obj 0, .int 0, .int 0, .int 0, .int 0]] := by
  unfold g_law_pool fnD f_law_pool
  simp only [sRet, eLst, eCall, aCons, aNil, eVar, eC, bind_ok, ro_ok, fin_rt, listD, itemsD, List.map_cons, List.map_nil, List.length_cons, List.length_nil, Nat.reduceAdd, Nat.reduceSub, List.replicate_succ, List.replicate_zero, List.nil_append, List.cons_append, List.getElem?_cons_zero]
theorem law_pool_at {ns : List Int} (h : ns.length ≤ 63) : PoolAt [.lst (ns.map .int), .lst [.obj 0, .int 0, .int 0, .int 0, .int 0]] := ⟨ns, 0, 0, 0, 0, rfl, rfl, by omega, h⟩
end DL

set_option Elab.async false
set_option linter.all false
set_option maxRecDepth 100000
set_option maxHeartbeats 4000000
namespace DL
open PySem PySem.Spec L2
open PyProof.Rows hiding St
def topS (i : Nat) : Stmt := PySem.Challenge.pw_struckbodies_k02_pending_exit.main.body.getD i (.Pass ⟨0, 0, 0, 0⟩)
structure Txt (c : Ctx) : Prop where
  G_DONE : Glob c "DONE" (D.str "done")
  G_ERROR : Glob c "ERROR" (D.str "error")
  m_bool : c.mg "bool" = none
  m_int : c.mg "int" = none
  m_isinstance : c.mg "isinstance" = none
  m_len : c.mg "len" = none
  m_list : c.mg "list" = none
  m_range : c.mg "range" = none
  m_str : c.mg "str" = none
  m_tuple : c.mg "tuple" = none
  F_law_pool : DefAt c "_law_pool" "_law_pool" (topS 6) ["script"]
  F_law_mixed : DefAt c "_law_mixed" "_law_mixed" (topS 7) ["cell", "turn", "limit"]
  F_law_draw : DefAt c "_law_draw" "_law_draw" (topS 8) ["pool", "limit"]
  F_law_letters : DefAt c "_law_letters" "_law_letters" (topS 9) []
  F_law_name : DefAt c "_law_name" "_law_name" (topS 10) ["pool"]
  F_law_number : DefAt c "_law_number" "_law_number" (topS 11) ["pool"]
  F_law_state : DefAt c "_law_state" "_law_state" (topS 12) ["pending"]
  F_law_same : DefAt c "_law_same" "_law_same" (topS 14) ["actual", "expected"]
  F_state : DefAt c "state" "state" (topS 3) ["pending"]
  F_law_after : DefAt c "_law_after" "_law_after" (topS 13) ["pending", "step", "kind", "guard", "answer"]
  F_after : DefAt c "after" "after" (topS 4) ["pending", "step", "kind", "guard", "answer"]
  F_law : DefAt c "law" "law" (topS 15) ["script"]
abbrev st_law_pool : Stmt := topS 6
theorem sc_law_pool : FnScope ["script"] ["script"] (defScope st_law_pool) := ⟨rfl, rfl, rfl, by decide +kernel, rfl, by decide +kernel, by decide +kernel⟩
theorem b_law_pool {c : Ctx} (T : Txt c) {X : Cx} {W : WX} (I : In c X W 0 ["script"] (defScope st_law_pool)) : VSs c X W (defBody st_law_pool) f_law_pool := by
  have n_script : Nm ["script"] (defScope st_law_pool) 0 "script" := ⟨rfl, by decide +kernel, by decide, by decide⟩
  have q_list : Gn (defScope st_law_pool) "list" := ⟨by decide +kernel, by decide⟩
  exact (vss_one (vs_ret (ve_lst (va_cons (ve_list I q_list T.m_list (va_cons (ve_var I n_script) va_nil)) (va_cons ve_int (va_cons ve_int (va_cons ve_int (va_cons ve_int va_nil))))))))
theorem c_law_pool {c : Ctx} (T : Txt c) : Callee c "_law_pool" 1 1 g_law_pool :=
  callee_def (N := ["script"]) T.F_law_pool sc_law_pool fun X W I => b_law_pool T  I
abbrev st_law_mixed : Stmt := topS 7
theorem sc_law_mixed : FnScope ["cell", "turn", "limit", "first", "second", "third"] ["cell", "turn", "limit"] (defScope st_law_mixed) := ⟨rfl, rfl, rfl, by decide +kernel, rfl, by decide +kernel, by decide +kernel⟩
theorem b_law_mixed {c : Ctx} (T : Txt c) {X : Cx} {W : WX} (I : In c X W 0 ["cell", "turn", "limit", "first", "second", "third"] (defScope st_law_mixed)) : VSs c X W (defBody st_law_mixed) f_law_mixed := by
  have n_cell : Nm ["cell", "turn", "limit", "first", "second", "third"] (defScope st_law_mixed) 0 "cell" := ⟨rfl, by decide +kernel, by decide, by decide⟩
  have n_turn : Nm ["cell", "turn", "limit", "first", "second", "third"] (defScope st_law_mixed) 1 "turn" := ⟨rfl, by decide +kernel, by decide, by decide⟩
  have n_limit : Nm ["cell", "turn", "limit", "first", "second", "third"] (defScope st_law_mixed) 2 "limit" := ⟨rfl, by decide +kernel, by decide, by decide⟩
  have n_first : Nm ["cell", "turn", "limit", "first", "second", "third"] (defScope st_law_mixed) 3 "first" := ⟨rfl, by decide +kernel, by decide, by decide⟩
  have n_second : Nm ["cell", "turn", "limit", "first", "second", "third"] (defScope st_law_mixed) 4 "second" := ⟨rfl, by decide +kernel, by decide, by decide⟩
  have n_third : Nm ["cell", "turn", "limit", "first", "second", "third"] (defScope st_law_mixed) 5 "third" := ⟨rfl, by decide +kernel, by decide, by decide⟩
  have q_int : Gn (defScope st_law_mixed) "int" := ⟨by decide +kernel, by decide⟩
  exact (vss_cons (vs_set I n_first (ve_mod (ve_int_ I q_int T.m_int (va_cons (ve_add I (ve_add I (ve_mul (ve_var I n_cell) ve_int) (ve_mul (ve_var I n_turn) ve_int)) ve_int) va_nil)) ve_int))
 (vss_cons (vs_set I n_second (ve_mod (ve_int_ I q_int T.m_int (va_cons (ve_add I (ve_add I (ve_mul (ve_var I n_first) ve_int) (ve_mul (ve_var I n_cell) ve_int)) (ve_mul (ve_var I n_turn) ve_int)) va_nil)) ve_int))
 (vss_cons (vs_set I n_third (ve_mod (ve_int_ I q_int T.m_int (va_cons (ve_add I (ve_mul (ve_var I n_second) ve_int) (ve_fdiv (ve_var I n_first) ve_int)) va_nil)) ve_int))
 (vss_one (vs_ret (ve_mod (ve_int_ I q_int T.m_int (va_cons (ve_var I n_third) va_nil)) (ve_var I n_limit)))))))
theorem c_law_mixed {c : Ctx} (T : Txt c) : Callee c "_law_mixed" 1 3 g_law_mixed :=
  callee_def (N := ["cell", "turn", "limit", "first", "second", "third"]) T.F_law_mixed sc_law_mixed fun X W I => b_law_mixed T  I
abbrev st_law_draw : Stmt := topS 8
theorem sc_law_draw : FnScope ["pool", "limit", "digit", "cell"] ["pool", "limit"] (defScope st_law_draw) := ⟨rfl, rfl, rfl, by decide +kernel, rfl, by decide +kernel, by decide +kernel⟩
theorem b_law_draw {c : Ctx} (T : Txt c) (C_law_mixed : Callee c "_law_mixed" 1 3 g_law_mixed) {X : Cx} {W : WX} (I : In c X W 1 ["pool", "limit", "digit", "cell"] (defScope st_law_draw)) : VSs c X W (defBody st_law_draw) f_law_draw := by
  have n_pool : Nm ["pool", "limit", "digit", "cell"] (defScope st_law_draw) 0 "pool" := ⟨rfl, by decide +kernel, by decide, by decide⟩
  have n_limit : Nm ["pool", "limit", "digit", "cell"] (defScope st_law_draw) 1 "limit" := ⟨rfl, by decide +kernel, by decide, by decide⟩
  have n_digit : Nm ["pool", "limit", "digit", "cell"] (defScope st_law_draw) 2 "digit" := ⟨rfl, by decide +kernel, by decide, by decide⟩
  have n_cell : Nm ["pool", "limit", "digit", "cell"] (defScope st_law_draw) 3 "cell" := ⟨rfl, by decide +kernel, by decide, by decide⟩
  have q__law_mixed : Gn (defScope st_law_draw) "_law_mixed" := ⟨by decide +kernel, by decide⟩
  have q_int : Gn (defScope st_law_draw) "int" := ⟨by decide +kernel, by decide⟩
  have q_len : Gn (defScope st_law_draw) "len" := ⟨by decide +kernel, by decide⟩
  have K_law_mixed : Callee c "_law_mixed" 1 3 g_law_mixed := C_law_mixed.mono (by decide)
  exact (vss_cons (vs_if (vt_gt (ve_ix I (ve_var I n_pool) ve_int) ve_int) (vss_cons (vs_set I n_digit (ve_mod (ve_int_ I q_int T.m_int (va_cons (ve_ix I (ve_var I n_pool) ve_int) va_nil)) (ve_var I n_limit)))
 (vss_cons (vs_sub I (ve_fdiv (ve_ix I (ve_var I n_pool) ve_int) (ve_var I n_limit)) (ve_var I n_pool) ve_int)
 (vss_one (vs_ret (ve_var I n_digit))))) vss_nil)
 (vss_cons (vs_if (vt_gt (ve_ix I (ve_var I n_pool) ve_int) ve_int) (vss_cons (vs_sub I (ve_sub (ve_ix I (ve_var I n_pool) ve_int) ve_int) (ve_var I n_pool) ve_int)
 (vss_one (vs_ret (ve_call I q__law_mixed K_law_mixed (va_cons (ve_ix I (ve_var I n_pool) ve_int) (va_cons (ve_ix I (ve_var I n_pool) ve_int) (va_cons (ve_var I n_limit) va_nil))))))) vss_nil)
 (vss_cons (vs_if (vt_ge (ve_ix I (ve_var I n_pool) ve_int) (ve_len I q_len T.m_len (va_cons (ve_ix I (ve_var I n_pool) ve_int) va_nil))) (vss_one (vs_ret ve_int)) vss_nil)
 (vss_cons (vs_set I n_cell (ve_ix I (ve_ix I (ve_var I n_pool) ve_int) (ve_ix I (ve_var I n_pool) ve_int)))
 (vss_cons (vs_sub I (ve_add I (ve_ix I (ve_var I n_pool) ve_int) ve_int) (ve_var I n_pool) ve_int)
 (vss_cons (vs_if (vt_lt (ve_var I n_cell) ve_int) (vss_one (vs_set I n_cell (ve_sub (ve_neg ve_int) (ve_var I n_cell)))) vss_nil)
 (vss_cons (vs_if (vt_ge (ve_var I n_cell) (ve_pow ve_int ve_int)) (vss_cons (vs_sub I (ve_fdiv (ve_var I n_cell) (ve_var I n_limit)) (ve_var I n_pool) ve_int)
 (vss_one (vs_ret (ve_mod (ve_int_ I q_int T.m_int (va_cons (ve_var I n_cell) va_nil)) (ve_var I n_limit))))) vss_nil)
 (vss_cons (vs_sub I (ve_var I n_cell) (ve_var I n_pool) ve_int)
 (vss_cons (vs_sub I ve_int (ve_var I n_pool) ve_int)
 (vss_one (vs_ret (ve_call I q__law_mixed K_law_mixed (va_cons (ve_var I n_cell) (va_cons ve_int (va_cons (ve_var I n_limit) va_nil)))))))))))))))
theorem c_law_draw {c : Ctx} (T : Txt c) (C_law_mixed : Callee c "_law_mixed" 1 3 g_law_mixed) : Callee c "_law_draw" 2 2 g_law_draw :=
  callee_def (N := ["pool", "limit", "digit", "cell"]) T.F_law_draw sc_law_draw fun X W I => b_law_draw T C_law_mixed I
abbrev st_law_letters : Stmt := topS 9
def f_law_letters : FS :=
 (sRet (eC (D.str "abcdefghijklmnopqrstuvwxyz")))
def g_law_letters : List D → DM → Rs D := fnD 0 f_law_letters
theorem sc_law_letters : FnScope [] [] (defScope st_law_letters) := ⟨rfl, rfl, rfl, by decide +kernel, rfl, by decide +kernel, by decide +kernel⟩
theorem b_law_letters {c : Ctx} (T : Txt c) {X : Cx} {W : WX} (I : In c X W 0 [] (defScope st_law_letters)) : VSs c X W (defBody st_law_letters) f_law_letters := by
  exact (vss_one (vs_ret ve_str))
theorem c_law_letters {c : Ctx} (T : Txt c) : Callee c "_law_letters" 1 0 g_law_letters :=
  callee_def (N := []) T.F_law_letters sc_law_letters fun X W I => b_law_letters T  I
abbrev st_law_name : Stmt := topS 10
def f_law_name : FS :=
 (sSeq (sSet 1 (e2 addD (eCall g_law_letters aNil) (eC (D.str "0123456789"))))
 (sSeq (sSet 2 (e2 ixD (eVar 1) (eCall g_law_draw (aCons (eVar 0) (aCons (eC (D.int 26)) aNil)))))
 (sSeq (sSet 3 (eCall g_law_draw (aCons (eVar 0) (aCons (eC (D.int 3)) aNil))))
 (sSeq (sIf (tb (e2 eqD (eCall g_law_draw (aCons (eVar 0) (aCons (eC (D.int 4)) aNil))) (eC (D.int 1))))
  (sSet 3 (eCall g_law_draw (aCons (eVar 0) (aCons (eC (D.int 12)) aNil))))
  sNil)
 (sSeq (sForR (eVar 3) (gNm 4)
  (sSet 2 (e2 addD (eVar 2) (e2 ixD (eVar 1) (eCall g_law_draw (aCons (eVar 0) (aCons (eC (D.int 36)) aNil)))))))
 (sRet (eVar 2)))))))
def g_law_name : List D → DM → Rs D := fnD 5 f_law_name
theorem sc_law_name : FnScope ["pool", "signs", "name", "more", "k"] ["pool"] (defScope st_law_name) := ⟨rfl, rfl, rfl, by decide +kernel, rfl, by decide +kernel, by decide +kernel⟩
theorem b_law_name {c : Ctx} (T : Txt c) (C_law_letters : Callee c "_law_letters" 1 0 g_law_letters) (C_law_draw : Callee c "_law_draw" 2 2 g_law_draw) {X : Cx} {W : WX} (I : In c X W 2 ["pool", "signs", "name", "more", "k"] (defScope st_law_name)) : VSs c X W (defBody st_law_name) f_law_name := by
  have n_pool : Nm ["pool", "signs", "name", "more", "k"] (defScope st_law_name) 0 "pool" := ⟨rfl, by decide +kernel, by decide, by decide⟩
  have n_signs : Nm ["pool", "signs", "name", "more", "k"] (defScope st_law_name) 1 "signs" := ⟨rfl, by decide +kernel, by decide, by decide⟩
  have n_name : Nm ["pool", "signs", "name", "more", "k"] (defScope st_law_name) 2 "name" := ⟨rfl, by decide +kernel, by decide, by decide⟩
  have n_more : Nm ["pool", "signs", "name", "more", "k"] (defScope st_law_name) 3 "more" := ⟨rfl, by decide +kernel, by decide, by decide⟩
  have n_k : Nm ["pool", "signs", "name", "more", "k"] (defScope st_law_name) 4 "k" := ⟨rfl, by decide +kernel, by decide, by decide⟩
  have q__law_draw : Gn (defScope st_law_name) "_law_draw" := ⟨by decide +kernel, by decide⟩
  have q__law_letters : Gn (defScope st_law_name) "_law_letters" := ⟨by decide +kernel, by decide⟩
  have q_range : Gn (defScope st_law_name) "range" := ⟨by decide +kernel, by decide⟩
  have K_law_letters : Callee c "_law_letters" 2 0 g_law_letters := C_law_letters.mono (by decide)
  have K_law_draw : Callee c "_law_draw" 2 2 g_law_draw := C_law_draw.mono (by decide)
  exact (vss_cons (vs_set I n_signs (ve_add I (ve_call0 I q__law_letters K_law_letters) ve_str))
 (vss_cons (vs_set I n_name (ve_ix I (ve_var I n_signs) (ve_call I q__law_draw K_law_draw (va_cons (ve_var I n_pool) (va_cons ve_int va_nil)))))
 (vss_cons (vs_set I n_more (ve_call I q__law_draw K_law_draw (va_cons (ve_var I n_pool) (va_cons ve_int va_nil))))
 (vss_cons (vs_if (vt_eq I (ve_call I q__law_draw K_law_draw (va_cons (ve_var I n_pool) (va_cons ve_int va_nil))) ve_int) (vss_one (vs_set I n_more (ve_call I q__law_draw K_law_draw (va_cons (ve_var I n_pool) (va_cons ve_int va_nil))))) vss_nil)
 (vss_cons (vs_forR I q_range T.m_range (ve_var I n_more) (vg_name I n_k) (vss_one (vs_set I n_name (ve_add I (ve_var I n_name) (ve_ix I (ve_var I n_signs) (ve_call I q__law_draw K_law_draw (va_cons (ve_var I n_pool) (va_cons ve_int va_nil))))))))
 (vss_one (vs_ret (ve_var I n_name))))))))
theorem c_law_name {c : Ctx} (T : Txt c) (C_law_letters : Callee c "_law_letters" 1 0 g_law_letters) (C_law_draw : Callee c "_law_draw" 2 2 g_law_draw) : Callee c "_law_name" 3 1 g_law_name :=
  callee_def (N := ["pool", "signs", "name", "more", "k"]) T.F_law_name sc_law_name fun X W I => b_law_name T C_law_letters C_law_draw I
abbrev st_law_number : Stmt := topS 11
def f_law_number : FS :=
 (sSeq (sIf (tb (e2 eqD (eCall g_law_draw (aCons (eVar 0) (aCons (eC (D.int 3)) aNil))) (eC (D.int 2))))
  (sRet (eCall g_law_draw (aCons (eVar 0) (aCons (eC (D.int 1000)) aNil))))
  sNil)
 (sRet (eCall g_law_draw (aCons (eVar 0) (aCons (eC (D.int 4)) aNil)))))
def g_law_number : List D → DM → Rs D := fnD 1 f_law_number
theorem sc_law_number : FnScope ["pool"] ["pool"] (defScope st_law_number) := ⟨rfl, rfl, rfl, by decide +kernel, rfl, by decide +kernel, by decide +kernel⟩
theorem b_law_number {c : Ctx} (T : Txt c) (C_law_draw : Callee c "_law_draw" 2 2 g_law_draw) {X : Cx} {W : WX} (I : In c X W 2 ["pool"] (defScope st_law_number)) : VSs c X W (defBody st_law_number) f_law_number := by
  have n_pool : Nm ["pool"] (defScope st_law_number) 0 "pool" := ⟨rfl, by decide +kernel, by decide, by decide⟩
  have q__law_draw : Gn (defScope st_law_number) "_law_draw" := ⟨by decide +kernel, by decide⟩
  have K_law_draw : Callee c "_law_draw" 2 2 g_law_draw := C_law_draw.mono (by decide)
  exact (vss_cons (vs_if (vt_eq I (ve_call I q__law_draw K_law_draw (va_cons (ve_var I n_pool) (va_cons ve_int va_nil))) ve_int) (vss_one (vs_ret (ve_call I q__law_draw K_law_draw (va_cons (ve_var I n_pool) (va_cons ve_int va_nil))))) vss_nil)
 (vss_one (vs_ret (ve_call I q__law_draw K_law_draw (va_cons (ve_var I n_pool) (va_cons ve_int va_nil))))))
theorem c_law_number {c : Ctx} (T : Txt c) (C_law_draw : Callee c "_law_draw" 2 2 g_law_draw) : Callee c "_law_number" 3 1 g_law_number :=
  callee_def (N := ["pool"]) T.F_law_number sc_law_number fun X W I => b_law_number T C_law_draw I
abbrev st_law_state : Stmt := topS 12
def f_law_state : FS :=
 (sSeq (sIf (tb (e2 eqD (e2 ixD (eVar 0) (eC (D.int 0))) (eC (D.str "raise"))))
  (sRet (eC (D.str "error")))
  sNil)
 (sRet (eC (D.str "done"))))
def g_law_state : List D → DM → Rs D := fnD 1 f_law_state
theorem sc_law_state : FnScope ["pending"] ["pending"] (defScope st_law_state) := ⟨rfl, rfl, rfl, by decide +kernel, rfl, by decide +kernel, by decide +kernel⟩
theorem b_law_state {c : Ctx} (T : Txt c) {X : Cx} {W : WX} (I : In c X W 0 ["pending"] (defScope st_law_state)) : VSs c X W (defBody st_law_state) f_law_state := by
  have n_pending : Nm ["pending"] (defScope st_law_state) 0 "pending" := ⟨rfl, by decide +kernel, by decide, by decide⟩
  exact (vss_cons (vs_if (vt_eq I (ve_ix I (ve_var I n_pending) ve_int) ve_str) (vss_one (vs_ret ve_str)) vss_nil)
 (vss_one (vs_ret ve_str)))
theorem c_law_state {c : Ctx} (T : Txt c) : Callee c "_law_state" 1 1 g_law_state :=
  callee_def (N := ["pending"]) T.F_law_state sc_law_state fun X W I => b_law_state T  I
abbrev st_law_same : Stmt := topS 14
theorem sc_law_same : FnScope ["actual", "expected", "k"] ["actual", "expected"] (defScope st_law_same) := ⟨rfl, rfl, rfl, by decide +kernel, rfl, by decide +kernel, by decide +kernel⟩
theorem b_law_same {c : Ctx} (T : Txt c) {n : Nat} {G : List D → DM → Rs D} (K_law_same : Callee c "_law_same" (0 + n) 2 G) {X : Cx} {W : WX} (I : In c X W (0 + n) ["actual", "expected", "k"] (defScope st_law_same)) : VSs c X W (defBody st_law_same) (f_law_same G) := by
  have n_actual : Nm ["actual", "expected", "k"] (defScope st_law_same) 0 "actual" := ⟨rfl, by decide +kernel, by decide, by decide⟩
  have n_expected : Nm ["actual", "expected", "k"] (defScope st_law_same) 1 "expected" := ⟨rfl, by decide +kernel, by decide, by decide⟩
  have n_k : Nm ["actual", "expected", "k"] (defScope st_law_same) 2 "k" := ⟨rfl, by decide +kernel, by decide, by decide⟩
  have q__law_same : Gn (defScope st_law_same) "_law_same" := ⟨by decide +kernel, by decide⟩
  have q_bool : Gn (defScope st_law_same) "bool" := ⟨by decide +kernel, by decide⟩
  have q_int : Gn (defScope st_law_same) "int" := ⟨by decide +kernel, by decide⟩
  have q_isinstance : Gn (defScope st_law_same) "isinstance" := ⟨by decide +kernel, by decide⟩
  have q_len : Gn (defScope st_law_same) "len" := ⟨by decide +kernel, by decide⟩
  have q_list : Gn (defScope st_law_same) "list" := ⟨by decide +kernel, by decide⟩
  have q_range : Gn (defScope st_law_same) "range" := ⟨by decide +kernel, by decide⟩
  have q_str : Gn (defScope st_law_same) "str" := ⟨by decide +kernel, by decide⟩
  have q_tuple : Gn (defScope st_law_same) "tuple" := ⟨by decide +kernel, by decide⟩
  exact (vss_cons (vs_if (vt_isN (ve_var I n_expected) ve_non) (vss_one (vs_ret (ve_isN (ve_var I n_actual) ve_non))) vss_nil)
 (vss_cons (vs_if (vt_val (ve_isi I q_isinstance T.m_isinstance (va_cons (ve_var I n_expected) (va_cons (ve_bty I q_bool T.m_bool PyProof.Rows.boot_bool) va_nil)))) (vss_one (vs_ret (ve_and (ve_isi I q_isinstance T.m_isinstance (va_cons (ve_var I n_actual) (va_cons (ve_bty I q_bool T.m_bool PyProof.Rows.boot_bool) va_nil))) (ve_one (ve_eq I (ve_var I n_actual) (ve_var I n_expected)))))) vss_nil)
 (vss_cons (vs_if (vt_val (ve_isi I q_isinstance T.m_isinstance (va_cons (ve_var I n_expected) (va_cons (ve_bty I q_int T.m_int PyProof.Rows.boot_int) va_nil)))) (vss_one (vs_ret (ve_and (ve_isi I q_isinstance T.m_isinstance (va_cons (ve_var I n_actual) (va_cons (ve_bty I q_int T.m_int PyProof.Rows.boot_int) va_nil))) (ve_and (ve_not (ve_isi I q_isinstance T.m_isinstance (va_cons (ve_var I n_actual) (va_cons (ve_bty I q_bool T.m_bool PyProof.Rows.boot_bool) va_nil)))) (ve_one (ve_eq I (ve_var I n_actual) (ve_var I n_expected))))))) vss_nil)
 (vss_cons (vs_if (vt_val (ve_isi I q_isinstance T.m_isinstance (va_cons (ve_var I n_expected) (va_cons (ve_bty I q_str T.m_str PyProof.Rows.boot_str) va_nil)))) (vss_one (vs_ret (ve_and (ve_isi I q_isinstance T.m_isinstance (va_cons (ve_var I n_actual) (va_cons (ve_bty I q_str T.m_str PyProof.Rows.boot_str) va_nil))) (ve_one (ve_eq I (ve_var I n_actual) (ve_var I n_expected)))))) vss_nil)
 (vss_cons (vs_if (VW.vt (vw_and (vt_val (ve_isi I q_isinstance T.m_isinstance (va_cons (ve_var I n_expected) (va_cons (ve_bty I q_tuple T.m_tuple PyProof.Rows.boot_tuple) va_nil)))) (vw_and1 (vt_not (vt_val (ve_isi I q_isinstance T.m_isinstance (va_cons (ve_var I n_actual) (va_cons (ve_bty I q_tuple T.m_tuple PyProof.Rows.boot_tuple) va_nil)))))))) (vss_one (vs_ret ve_bl)) vss_nil)
 (vss_cons (vs_if (VW.vt (vw_and (vt_val (ve_isi I q_isinstance T.m_isinstance (va_cons (ve_var I n_expected) (va_cons (ve_bty I q_list T.m_list PyProof.Rows.boot_list) va_nil)))) (vw_and1 (vt_not (vt_val (ve_isi I q_isinstance T.m_isinstance (va_cons (ve_var I n_actual) (va_cons (ve_bty I q_list T.m_list PyProof.Rows.boot_list) va_nil)))))))) (vss_one (vs_ret ve_bl)) vss_nil)
 (vss_cons (vs_if (vt_ne I (ve_len I q_len T.m_len (va_cons (ve_var I n_actual) va_nil)) (ve_len I q_len T.m_len (va_cons (ve_var I n_expected) va_nil))) (vss_one (vs_ret ve_bl)) vss_nil)
 (vss_cons (vs_forR I q_range T.m_range (ve_len I q_len T.m_len (va_cons (ve_var I n_expected) va_nil)) (vg_name I n_k) (vss_one (vs_if (vt_not (vt_val (ve_call I q__law_same K_law_same (va_cons (ve_ix I (ve_var I n_actual) (ve_var I n_k)) (va_cons (ve_ix I (ve_var I n_expected) (ve_var I n_k)) va_nil))))) (vss_one (vs_ret ve_bl)) vss_nil)))
 (vss_one (vs_ret ve_bl))))))))))
theorem c_law_same {c : Ctx} (T : Txt c) : ∀ n : Nat, Callee c "_law_same" (0 + n) 2 (g_law_same n)
  | 0 => callee_zero T.F_law_same _ _
  | n + 1 => callee_def (N := ["actual", "expected", "k"]) T.F_law_same sc_law_same fun X W I => b_law_same T  (c_law_same T  n) I
abbrev st_state : Stmt := topS 3
def f_state : FS :=
 (sSeq (sIf (tb (e2 eqD (e2 ixD (eVar 0) (eC (D.int 0))) (eC (D.str "raise"))))
  (sRet (eC (D.str "error")))
  sNil)
 (sRet (eC (D.str "done"))))
def g_state : List D → DM → Rs D := fnD 1 f_state
theorem sc_state : FnScope ["pending"] ["pending"] (defScope st_state) := ⟨rfl, rfl, rfl, by decide +kernel, rfl, by decide +kernel, by decide +kernel⟩
theorem b_state {c : Ctx} (T : Txt c) {X : Cx} {W : WX} (I : In c X W 0 ["pending"] (defScope st_state)) : VSs c X W (defBody st_state) f_state := by
  have n_pending : Nm ["pending"] (defScope st_state) 0 "pending" := ⟨rfl, by decide +kernel, by decide, by decide⟩
  have q_DONE : Gn (defScope st_state) "DONE" := ⟨by decide +kernel, by decide⟩
  have q_ERROR : Gn (defScope st_state) "ERROR" := ⟨by decide +kernel, by decide⟩
  exact (vss_cons (vs_if (vt_eq I (ve_ix I (ve_var I n_pending) ve_int) ve_str) (vss_one (vs_ret (ve_glob I q_ERROR T.G_ERROR))) vss_nil)
 (vss_one (vs_ret (ve_glob I q_DONE T.G_DONE))))
theorem c_state {c : Ctx} (T : Txt c) : Callee c "state" 1 1 g_state :=
  callee_def (N := ["pending"]) T.F_state sc_state fun X W I => b_state T  I
abbrev st_law_after : Stmt := topS 13
def f_law_after : FS :=
 (sSeq (sIf (tb (e2 eqD (eVar 4) (eC (D.int 0))))
  (sRet (eTup (aCons (eC (D.str "raise")) (aCons (eVar 1) aNil))))
  sNil)
 (sSeq (sIf (tb (e2 eqD (e2 ixD (eVar 2) (eC (D.int 0))) (eC (D.str "jump"))))
  (sRet (eTup (aCons (eC (D.str "leave")) (aCons (e2 ixD (eVar 2) (eC (D.int 1))) aNil))))
  sNil)
 (sSeq (sIf (tOrF (tAndF (tb (e2 eqD (e2 ixD (eVar 2) (eC (D.int 0))) (eC (D.str "answer")))) (tb (e2 eqD (eVar 3) (eC (D.str "done"))))) (tAndF (tb (e2 eqD (e2 ixD (eVar 2) (eC (D.int 0))) (eC (D.str "heal")))) (tb (e2 eqD (eVar 3) (eC (D.str "error"))))))
  (sRet (eTup (aCons (eC (D.str "return")) (aCons (e2 ixD (eVar 2) (eC (D.int 1))) aNil))))
  sNil)
 (sSeq (sIf (tAndF (tb (e2 eqD (e2 ixD (eVar 2) (eC (D.int 0))) (eC (D.str "swap")))) (tb (e2 eqD (eVar 3) (eC (D.str "error")))))
  (sRet (eTup (aCons (eC (D.str "raise")) (aCons (e2 ixD (eVar 2) (eC (D.int 1))) aNil))))
  sNil)
 (sRet (eVar 0))))))
def g_law_after : List D → DM → Rs D := fnD 5 f_law_after
theorem sc_law_after : FnScope ["pending", "step", "kind", "guard", "answer"] ["pending", "step", "kind", "guard", "answer"] (defScope st_law_after) := ⟨rfl, rfl, rfl, by decide +kernel, rfl, by decide +kernel, by decide +kernel⟩
theorem b_law_after {c : Ctx} (T : Txt c) {X : Cx} {W : WX} (I : In c X W 0 ["pending", "step", "kind", "guard", "answer"] (defScope st_law_after)) : VSs c X W (defBody st_law_after) f_law_after := by
  have n_pending : Nm ["pending", "step", "kind", "guard", "answer"] (defScope st_law_after) 0 "pending" := ⟨rfl, by decide +kernel, by decide, by decide⟩
  have n_step : Nm ["pending", "step", "kind", "guard", "answer"] (defScope st_law_after) 1 "step" := ⟨rfl, by decide +kernel, by decide, by decide⟩
  have n_kind : Nm ["pending", "step", "kind", "guard", "answer"] (defScope st_law_after) 2 "kind" := ⟨rfl, by decide +kernel, by decide, by decide⟩
  have n_guard : Nm ["pending", "step", "kind", "guard", "answer"] (defScope st_law_after) 3 "guard" := ⟨rfl, by decide +kernel, by decide, by decide⟩
  have n_answer : Nm ["pending", "step", "kind", "guard", "answer"] (defScope st_law_after) 4 "answer" := ⟨rfl, by decide +kernel, by decide, by decide⟩
  exact (vss_cons (vs_if (vt_eq I (ve_var I n_answer) ve_int) (vss_one (vs_ret (ve_tup (va_cons ve_str (va_cons (ve_var I n_step) va_nil))))) vss_nil)
 (vss_cons (vs_if (vt_eq I (ve_ix I (ve_var I n_kind) ve_int) ve_str) (vss_one (vs_ret (ve_tup (va_cons ve_str (va_cons (ve_ix I (ve_var I n_kind) ve_int) va_nil))))) vss_nil)
 (vss_cons (vs_if (VW.vt (vw_or (VW.vt (vw_and (vt_eq I (ve_ix I (ve_var I n_kind) ve_int) ve_str) (vw_and1 (vt_eq I (ve_var I n_guard) ve_str)))) (vw_or1 (VW.vt (vw_and (vt_eq I (ve_ix I (ve_var I n_kind) ve_int) ve_str) (vw_and1 (vt_eq I (ve_var I n_guard) ve_str))))))) (vss_one (vs_ret (ve_tup (va_cons ve_str (va_cons (ve_ix I (ve_var I n_kind) ve_int) va_nil))))) vss_nil)
 (vss_cons (vs_if (VW.vt (vw_and (vt_eq I (ve_ix I (ve_var I n_kind) ve_int) ve_str) (vw_and1 (vt_eq I (ve_var I n_guard) ve_str)))) (vss_one (vs_ret (ve_tup (va_cons ve_str (va_cons (ve_ix I (ve_var I n_kind) ve_int) va_nil))))) vss_nil)
 (vss_one (vs_ret (ve_var I n_pending)))))))
theorem c_law_after {c : Ctx} (T : Txt c) : Callee c "_law_after" 1 5 g_law_after :=
  callee_def (N := ["pending", "step", "kind", "guard", "answer"]) T.F_law_after sc_law_after fun X W I => b_law_after T  I
abbrev st_after : Stmt := topS 4
def f_after : FS :=
 (sSeq (sIf (tb (e2 eqD (eVar 4) (eC (D.int 0))))
  (sRet (eTup (aCons (eC (D.str "raise")) (aCons (eVar 1) aNil))))
  sNil)
 (sSeq (sIf (tb (e2 eqD (e2 ixD (eVar 2) (eC (D.int 0))) (eC (D.str "jump"))))
  (sRet (eTup (aCons (eC (D.str "leave")) (aCons (e2 ixD (eVar 2) (eC (D.int 1))) aNil))))
  sNil)
 (sSeq (sIf (tAndF (tb (e2 eqD (e2 ixD (eVar 2) (eC (D.int 0))) (eC (D.str "answer")))) (tb (e2 eqD (eVar 3) (eC (D.str "done")))))
  (sRet (eTup (aCons (eC (D.str "return")) (aCons (e2 ixD (eVar 2) (eC (D.int 1))) aNil))))
  sNil)
 (sSeq (sIf (tAndF (tb (e2 eqD (e2 ixD (eVar 2) (eC (D.int 0))) (eC (D.str "heal")))) (tb (e2 eqD (eVar 3) (eC (D.str "error")))))
  (sRet (eTup (aCons (eC (D.str "return")) (aCons (e2 ixD (eVar 2) (eC (D.int 1))) aNil))))
  sNil)
 (sSeq (sIf (tAndF (tb (e2 eqD (e2 ixD (eVar 2) (eC (D.int 0))) (eC (D.str "swap")))) (tb (e2 eqD (eVar 3) (eC (D.str "error")))))
  (sRet (eTup (aCons (eC (D.str "raise")) (aCons (e2 ixD (eVar 2) (eC (D.int 1))) aNil))))
  sNil)
 (sRet (eVar 0)))))))
def g_after : List D → DM → Rs D := fnD 5 f_after
theorem sc_after : FnScope ["pending", "step", "kind", "guard", "answer"] ["pending", "step", "kind", "guard", "answer"] (defScope st_after) := ⟨rfl, rfl, rfl, by decide +kernel, rfl, by decide +kernel, by decide +kernel⟩
theorem b_after {c : Ctx} (T : Txt c) {X : Cx} {W : WX} (I : In c X W 0 ["pending", "step", "kind", "guard", "answer"] (defScope st_after)) : VSs c X W (defBody st_after) f_after := by
  have n_pending : Nm ["pending", "step", "kind", "guard", "answer"] (defScope st_after) 0 "pending" := ⟨rfl, by decide +kernel, by decide, by decide⟩
  have n_step : Nm ["pending", "step", "kind", "guard", "answer"] (defScope st_after) 1 "step" := ⟨rfl, by decide +kernel, by decide, by decide⟩
  have n_kind : Nm ["pending", "step", "kind", "guard", "answer"] (defScope st_after) 2 "kind" := ⟨rfl, by decide +kernel, by decide, by decide⟩
  have n_guard : Nm ["pending", "step", "kind", "guard", "answer"] (defScope st_after) 3 "guard" := ⟨rfl, by decide +kernel, by decide, by decide⟩
  have n_answer : Nm ["pending", "step", "kind", "guard", "answer"] (defScope st_after) 4 "answer" := ⟨rfl, by decide +kernel, by decide, by decide⟩
  have q_DONE : Gn (defScope st_after) "DONE" := ⟨by decide +kernel, by decide⟩
  have q_ERROR : Gn (defScope st_after) "ERROR" := ⟨by decide +kernel, by decide⟩
  exact (vss_cons (vs_if (vt_eq I (ve_var I n_answer) ve_int) (vss_one (vs_ret (ve_tup (va_cons ve_str (va_cons (ve_var I n_step) va_nil))))) vss_nil)
 (vss_cons (vs_if (vt_eq I (ve_ix I (ve_var I n_kind) ve_int) ve_str) (vss_one (vs_ret (ve_tup (va_cons ve_str (va_cons (ve_ix I (ve_var I n_kind) ve_int) va_nil))))) vss_nil)
 (vss_cons (vs_if (VW.vt (vw_and (vt_eq I (ve_ix I (ve_var I n_kind) ve_int) ve_str) (vw_and1 (vt_eq I (ve_var I n_guard) (ve_glob I q_DONE T.G_DONE))))) (vss_one (vs_ret (ve_tup (va_cons ve_str (va_cons (ve_ix I (ve_var I n_kind) ve_int) va_nil))))) vss_nil)
 (vss_cons (vs_if (VW.vt (vw_and (vt_eq I (ve_ix I (ve_var I n_kind) ve_int) ve_str) (vw_and1 (vt_eq I (ve_var I n_guard) (ve_glob I q_ERROR T.G_ERROR))))) (vss_one (vs_ret (ve_tup (va_cons ve_str (va_cons (ve_ix I (ve_var I n_kind) ve_int) va_nil))))) vss_nil)
 (vss_cons (vs_if (VW.vt (vw_and (vt_eq I (ve_ix I (ve_var I n_kind) ve_int) ve_str) (vw_and1 (vt_eq I (ve_var I n_guard) (ve_glob I q_ERROR T.G_ERROR))))) (vss_one (vs_ret (ve_tup (va_cons ve_str (va_cons (ve_ix I (ve_var I n_kind) ve_int) va_nil))))) vss_nil)
 (vss_one (vs_ret (ve_var I n_pending))))))))
theorem c_after {c : Ctx} (T : Txt c) : Callee c "after" 1 5 g_after :=
  callee_def (N := ["pending", "step", "kind", "guard", "answer"]) T.F_after sc_after fun X W I => b_after T  I
abbrev st_law : Stmt := topS 15
def f_law : FS :=
 (sSeq (sSet 1 (eCall g_law_pool (aCons (eVar 0) aNil)))
 (sSeq (sSet 2 (eCall g_law_name (aCons (eVar 1) aNil)))
 (sSeq (sSet 3 (eLst (aCons (eTup (aCons (eC (D.str "return")) (aCons (eCall g_law_number (aCons (eVar 1) aNil)) aNil))) (aCons (eTup (aCons (eC (D.str "leave")) (aCons (eCall g_law_name (aCons (eVar 1) aNil)) aNil))) (aCons (eTup (aCons (eC (D.str "raise")) (aCons (eCall g_law_name (aCons (eVar 1) aNil)) aNil))) (aCons (eTup (aCons (eC (D.str "leave")) (aCons (eVar 2) aNil))) aNil))))))
 (sSeq (sExpr (eMt "list" appendD (eVar 3) (aCons (eTup (aCons (eC (D.str "raise")) (aCons (eVar 2) aNil))) aNil)))
 (sSeq (sSet 4 (eLst (aCons (eTup (aCons (eC (D.str "plain")) aNil)) (aCons (eTup (aCons (eC (D.str "answer")) (aCons (eCall g_law_number (aCons (eVar 1) aNil)) aNil))) (aCons (eTup (aCons (eC (D.str "jump")) (aCons (eCall g_law_name (aCons (eVar 1) aNil)) aNil))) (aCons (eTup (aCons (eC (D.str "heal")) (aCons (eCall g_law_number (aCons (eVar 1) aNil)) aNil))) aNil))))))
 (sSeq (sExpr (eMt "list" appendD (eVar 4) (aCons (eTup (aCons (eC (D.str "swap")) (aCons (eCall g_law_name (aCons (eVar 1) aNil)) aNil))) aNil)))
 (sSeq (sForR (eC (D.int 2)) (gNm 5)
  (sFor (fun _ _ => 0) (eVar 3) (gNm 6)
  (sSeq (sSet 7 (eCall g_law_state (aCons (eVar 6) aNil)))
 (sSeq (sIf (tNotF (tb (eCall (g_law_same 10) (aCons (eCall g_state (aCons (eVar 6) aNil)) (aCons (eVar 7) aNil)))))
  (sRet (eC (D.bl false)))
  sNil)
 (sFor (fun _ _ => 0) (eVar 4) (gNm 8)
  (sFor (fun _ _ => 0) (eLst (aCons (eC (D.int 1)) (aCons (eC (D.int 0)) aNil))) (gNm 9)
  (sSeq (sSet 10 (eCall g_law_after (aCons (eVar 6) (aCons (eVar 2) (aCons (eVar 8) (aCons (eVar 7) (aCons (eVar 9) aNil)))))))
 (sIf (tNotF (tb (eCall (g_law_same 10) (aCons (eCall g_after (aCons (eVar 6) (aCons (eVar 2) (aCons (eVar 8) (aCons (eVar 7) (aCons (eVar 9) aNil)))))) (aCons (eVar 10) aNil)))))
  (sRet (eC (D.bl false)))
  sNil))))))))
 (sRet (eC (D.bl true))))))))))
def g_law : List D → DM → Rs D := fnD 11 f_law
theorem sc_law : FnScope ["script", "pool", "step", "exits", "kinds", "turn", "pending", "guard", "kind", "answer", "due"] ["script"] (defScope st_law) := ⟨rfl, rfl, rfl, by decide +kernel, rfl, by decide +kernel, by decide +kernel⟩
theorem b_law {c : Ctx} (T : Txt c) (C_law_pool : Callee c "_law_pool" 1 1 g_law_pool) (C_law_name : Callee c "_law_name" 3 1 g_law_name) (C_law_number : Callee c "_law_number" 3 1 g_law_number) (C_law_state : Callee c "_law_state" 1 1 g_law_state) (C_law_same : Callee c "_law_same" 10 2 (g_law_same 10)) (C_state : Callee c "state" 1 1 g_state) (C_law_after : Callee c "_law_after" 1 5 g_law_after) (C_after : Callee c "after" 1 5 g_after) {X : Cx} {W : WX} (I : In c X W 10 ["script", "pool", "step", "exits", "kinds", "turn", "pending", "guard", "kind", "answer", "due"] (defScope st_law)) : VSs c X W (defBody st_law) f_law := by
  have n_script : Nm ["script", "pool", "step", "exits", "kinds", "turn", "pending", "guard", "kind", "answer", "due"] (defScope st_law) 0 "script" := ⟨rfl, by decide +kernel, by decide, by decide⟩
  have n_pool : Nm ["script", "pool", "step", "exits", "kinds", "turn", "pending", "guard", "kind", "answer", "due"] (defScope st_law) 1 "pool" := ⟨rfl, by decide +kernel, by decide, by decide⟩
  have n_step : Nm ["script", "pool", "step", "exits", "kinds", "turn", "pending", "guard", "kind", "answer", "due"] (defScope st_law) 2 "step" := ⟨rfl, by decide +kernel, by decide, by decide⟩
  have n_exits : Nm ["script", "pool", "step", "exits", "kinds", "turn", "pending", "guard", "kind", "answer", "due"] (defScope st_law) 3 "exits" := ⟨rfl, by decide +kernel, by decide, by decide⟩
  have n_kinds : Nm ["script", "pool", "step", "exits", "kinds", "turn", "pending", "guard", "kind", "answer", "due"] (defScope st_law) 4 "kinds" := ⟨rfl, by decide +kernel, by decide, by decide⟩
  have n_turn : Nm ["script", "pool", "step", "exits", "kinds", "turn", "pending", "guard", "kind", "answer", "due"] (defScope st_law) 5 "turn" := ⟨rfl, by decide +kernel, by decide, by decide⟩
  have n_pending : Nm ["script", "pool", "step", "exits", "kinds", "turn", "pending", "guard", "kind", "answer", "due"] (defScope st_law) 6 "pending" := ⟨rfl, by decide +kernel, by decide, by decide⟩
  have n_guard : Nm ["script", "pool", "step", "exits", "kinds", "turn", "pending", "guard", "kind", "answer", "due"] (defScope st_law) 7 "guard" := ⟨rfl, by decide +kernel, by decide, by decide⟩
  have n_kind : Nm ["script", "pool", "step", "exits", "kinds", "turn", "pending", "guard", "kind", "answer", "due"] (defScope st_law) 8 "kind" := ⟨rfl, by decide +kernel, by decide, by decide⟩
  have n_answer : Nm ["script", "pool", "step", "exits", "kinds", "turn", "pending", "guard", "kind", "answer", "due"] (defScope st_law) 9 "answer" := ⟨rfl, by decide +kernel, by decide, by decide⟩
  have n_due : Nm ["script", "pool", "step", "exits", "kinds", "turn", "pending", "guard", "kind", "answer", "due"] (defScope st_law) 10 "due" := ⟨rfl, by decide +kernel, by decide, by decide⟩
  have q__law_after : Gn (defScope st_law) "_law_after" := ⟨by decide +kernel, by decide⟩
  have q__law_name : Gn (defScope st_law) "_law_name" := ⟨by decide +kernel, by decide⟩
  have q__law_number : Gn (defScope st_law) "_law_number" := ⟨by decide +kernel, by decide⟩
  have q__law_pool : Gn (defScope st_law) "_law_pool" := ⟨by decide +kernel, by decide⟩
  have q__law_same : Gn (defScope st_law) "_law_same" := ⟨by decide +kernel, by decide⟩
  have q__law_state : Gn (defScope st_law) "_law_state" := ⟨by decide +kernel, by decide⟩
  have q_after : Gn (defScope st_law) "after" := ⟨by decide +kernel, by decide⟩
  have q_range : Gn (defScope st_law) "range" := ⟨by decide +kernel, by decide⟩
  have q_state : Gn (defScope st_law) "state" := ⟨by decide +kernel, by decide⟩
  have K_law_pool : Callee c "_law_pool" 10 1 g_law_pool := C_law_pool.mono (by decide)
  have K_law_name : Callee c "_law_name" 10 1 g_law_name := C_law_name.mono (by decide)
  have K_law_number : Callee c "_law_number" 10 1 g_law_number := C_law_number.mono (by decide)
  have K_law_state : Callee c "_law_state" 10 1 g_law_state := C_law_state.mono (by decide)
  have K_law_same : Callee c "_law_same" 10 2 (g_law_same 10) := C_law_same.mono (by decide)
  have K_state : Callee c "state" 10 1 g_state := C_state.mono (by decide)
  have K_law_after : Callee c "_law_after" 10 5 g_law_after := C_law_after.mono (by decide)
  have K_after : Callee c "after" 10 5 g_after := C_after.mono (by decide)
  exact (vss_cons (vs_set I n_pool (ve_call I q__law_pool K_law_pool (va_cons (ve_var I n_script) va_nil)))
 (vss_cons (vs_set I n_step (ve_call I q__law_name K_law_name (va_cons (ve_var I n_pool) va_nil)))
 (vss_cons (vs_set I n_exits (ve_lst (va_cons (ve_tup (va_cons ve_str (va_cons (ve_call I q__law_number K_law_number (va_cons (ve_var I n_pool) va_nil)) va_nil))) (va_cons (ve_tup (va_cons ve_str (va_cons (ve_call I q__law_name K_law_name (va_cons (ve_var I n_pool) va_nil)) va_nil))) (va_cons (ve_tup (va_cons ve_str (va_cons (ve_call I q__law_name K_law_name (va_cons (ve_var I n_pool) va_nil)) va_nil))) (va_cons (ve_tup (va_cons ve_str (va_cons (ve_var I n_step) va_nil))) va_nil))))))
 (vss_cons (vs_expr (ve_append I (ve_var I n_exits) (va_cons (ve_tup (va_cons ve_str (va_cons (ve_var I n_step) va_nil))) va_nil)))
 (vss_cons (vs_set I n_kinds (ve_lst (va_cons (ve_tup (va_cons ve_str va_nil)) (va_cons (ve_tup (va_cons ve_str (va_cons (ve_call I q__law_number K_law_number (va_cons (ve_var I n_pool) va_nil)) va_nil))) (va_cons (ve_tup (va_cons ve_str (va_cons (ve_call I q__law_name K_law_name (va_cons (ve_var I n_pool) va_nil)) va_nil))) (va_cons (ve_tup (va_cons ve_str (va_cons (ve_call I q__law_number K_law_number (va_cons (ve_var I n_pool) va_nil)) va_nil))) va_nil))))))
 (vss_cons (vs_expr (ve_append I (ve_var I n_kinds) (va_cons (ve_tup (va_cons ve_str (va_cons (ve_call I q__law_name K_law_name (va_cons (ve_var I n_pool) va_nil)) va_nil))) va_nil)))
 (vss_cons (vs_forR I q_range T.m_range ve_int (vg_name I n_turn) (vss_one (vs_for I (fun _ _ => 0) (ve_var I n_exits) (vg_name I n_pending) (vss_cons (vs_set I n_guard (ve_call I q__law_state K_law_state (va_cons (ve_var I n_pending) va_nil)))
 (vss_cons (vs_if (vt_not (vt_val (ve_call I q__law_same K_law_same (va_cons (ve_call I q_state K_state (va_cons (ve_var I n_pending) va_nil)) (va_cons (ve_var I n_guard) va_nil))))) (vss_one (vs_ret ve_bl)) vss_nil)
 (vss_one (vs_for I (fun _ _ => 0) (ve_var I n_kinds) (vg_name I n_kind) (vss_one (vs_for I (fun _ _ => 0) (ve_lst (va_cons ve_int (va_cons ve_int va_nil))) (vg_name I n_answer) (vss_cons (vs_set I n_due (ve_call I q__law_after K_law_after (va_cons (ve_var I n_pending) (va_cons (ve_var I n_step) (va_cons (ve_var I n_kind) (va_cons (ve_var I n_guard) (va_cons (ve_var I n_answer) va_nil)))))))
 (vss_one (vs_if (vt_not (vt_val (ve_call I q__law_same K_law_same (va_cons (ve_call I q_after K_after (va_cons (ve_var I n_pending) (va_cons (ve_var I n_step) (va_cons (ve_var I n_kind) (va_cons (ve_var I n_guard) (va_cons (ve_var I n_answer) va_nil)))))) (va_cons (ve_var I n_due) va_nil))))) (vss_one (vs_ret ve_bl)) vss_nil))))))))))))
 (vss_one (vs_ret ve_bl)))))))))
theorem c_law {c : Ctx} (T : Txt c) (C_law_pool : Callee c "_law_pool" 1 1 g_law_pool) (C_law_name : Callee c "_law_name" 3 1 g_law_name) (C_law_number : Callee c "_law_number" 3 1 g_law_number) (C_law_state : Callee c "_law_state" 1 1 g_law_state) (C_law_same : Callee c "_law_same" 10 2 (g_law_same 10)) (C_state : Callee c "state" 1 1 g_state) (C_law_after : Callee c "_law_after" 1 5 g_law_after) (C_after : Callee c "after" 1 5 g_after) : Callee c "law" 11 1 g_law :=
  callee_def (N := ["script", "pool", "step", "exits", "kinds", "turn", "pending", "guard", "kind", "answer", "due"]) T.F_law sc_law fun X W I => b_law T C_law_pool C_law_name C_law_number C_law_state C_law_same C_state C_law_after C_after I
theorem c_all {c : Ctx} (T : Txt c) {f : Addr} {fd : FuncData} (F : Fun c.K "law" "law" (topS 15) f fd) : FnOk c.P c.w c.K c.mg c.base (L2.CX c.P c.w) 11 f fd ["script"] (spOf c 1 g_law) := by
  have C_law_pool := c_law_pool T 
  have C_law_mixed := c_law_mixed T 
  have C_law_draw := c_law_draw T C_law_mixed
  have C_law_letters := c_law_letters T 
  have C_law_name := c_law_name T C_law_letters C_law_draw
  have C_law_number := c_law_number T C_law_draw
  have C_law_state := c_law_state T 
  have C_law_same := c_law_same T  10
  have C_state := c_state T 
  have C_law_after := c_law_after T 
  have C_after := c_after T 
  exact fnok_of (N := ["script", "pool", "step", "exits", "kinds", "turn", "pending", "guard", "kind", "answer", "due"]) F sc_law fun X W I => b_law T C_law_pool C_law_name C_law_number C_law_state C_law_same C_state C_law_after C_after I
end DL

set_option Elab.async false
set_option linter.all false
set_option maxRecDepth 100000
set_option maxHeartbeats 4000000
namespace DL
open PySem PySem.Spec L2
open PyProof.Rows hiding St
local macro_rules | `(tactic| walk_at "dx") => `(tactic| try simp (disch := first | decide | assumption | omega) only [sSeq, sIf, sRet, sRetN, sNil, sSet, sExpr, sAsg, gTupN, gNms, gNm, tb, tNotF, tAndF, tOrF, eNot, eAnd, eOr, eIf, eTup, eLst, aCons, aNil, eCall, e1, e2, eVar, eC, negD, bind_ok, ro_ok, seq_nx, seq_rt, seq_ct, seq_bk, fin_rt, fin_nx, sat_ok, sat_bind, sat_fin, sat_seq, sat_ro, rsat_nx, rsat_rt, rsat_ct, rsat_bk, seqQ_nx, seqQ_rt, seqQ_ct, seqQ_bk, finQ_nx, finQ_rt, loopQ_nx, loopQ_ct, loopQ_bk, loopQ_rt, sSub, ixo0, ixo1, ixo2, ixo3, ixo4, puts1, puts2, puts3, puts4, List.map_cons, List.map_nil, List.length_cons, List.length_nil, Nat.reduceAdd, Nat.reduceSub, List.replicate_succ, List.replicate_zero, List.nil_append, List.cons_append, List.getElem?_cons_zero, List.getElem?_cons_succ, List.set_cons_zero, List.set_cons_succ, ix0, ix1, ix2, ix3, ix4, eq_ss, eq_ii, eq_bb, ne_ss, ne_ii, add_ii, sub_ii, mul_ii, mod_ii, fdiv_ii, ord_ii, isN_, isNonD, int_i, if_true, if_false, Bool.false_eq_true, Bool.true_eq_false, Bool.not_true, Bool.not_false, decide_eq_true_eq, Bool.and_true, Bool.true_and, Bool.and_false, Bool.false_and, Bool.or_true, Bool.or_false, Bool.true_or, Bool.false_or, ofString_inj, String.reduceEq, decide_true, decide_false, Int.reduceLT, Int.reduceLE, Int.reduceEq, Int.reduceNeg, Int.reduceSub, Int.reduceAdd, Int.reducePow, Int.reduceMul, *])
def signs36 : Str := Str.ofString "abcdefghijklmnopqrstuvwxyz" ++ Str.ofString "0123456789"
theorem signs_len : signs36.cps.toList.length = 36 := by decide +kernel
theorem signs_small : signs36.length ≤ sizeLine := by rw [sizeLine_eq]; decide +kernel
theorem letters_eq {M : DM} : g_law_letters [] M = .ok (.str (Str.ofString "abcdefghijklmnopqrstuvwxyz")) M := rfl
theorem signs_add {M : DM} : addD (.str (Str.ofString "abcdefghijklmnopqrstuvwxyz")) (.str (Str.ofString "0123456789")) M = .ok (.str signs36) M := add_ss (by rw [sizeLine_eq]; decide +kernel)
theorem signs_ix {r : Int} {M : DM} (h0 : 0 ≤ r) (h1 : r < 36) : ∃ s : Str, ixD (.str signs36) (.int r) M = .ok (.str s) M ∧ s.length = 1 := by
  have e : (r.toNat : Int) = r := by omega
  have hl : r.toNat < signs36.cps.toList.length := by rw [signs_len]; omega
  have q := ixs (M := M) signs_small (List.getElem?_eq_getElem hl)
  rw [e] at q
  exact ⟨_, q, rfl⟩
theorem str_app_len (a b : Str) : (a ++ b).length = a.length + b.length := by
  show (Array.size (a.cps ++ b.cps)) = _
  rw [Array.size_append]
  rfl
theorem small_str {a b : Str} (h : a.length ≤ 1000) (h' : b.length ≤ 1000) : a.length + b.length ≤ sizeLine := by rw [sizeLine_eq]; omega
theorem law_name_sat {M : DM} {Q : D → DM → Prop} (P : PoolAt M) (q : ∀ (s : Str) M', s.length ≤ 20 → Drew M M' → Q (.str s) M') : (g_law_name [.obj 1] M).sat Q := by
  have L := @letters_eq
  have A := @signs_add
  unfold g_law_name f_law_name fnD
  walk_at "dx"
  refine law_draw_sat P (by decide) fun r M1 h1 h2 d1 => ?_
  obtain ⟨s, hs, hl⟩ := signs_ix (M := M1) h1 (by omega)
  walk_at "dx"
  refine law_draw_sat d1.at_ (by decide) fun r2 M2 h3 h4 d2 => ?_
  walk_at "dx"
  refine law_draw_sat d2.at_ (by decide) fun r3 M3 h5 h6 d3 => ?_
  -- the rest, from any count
  have rest : ∀ (m : Int) (M4 : DM), 0 ≤ m → m < 12 → Drew M M4 → Ro.sat (sForR (eVar 3) (gNm 4) (sSet 2 (e2 addD (eVar 2) (e2 ixD (eVar 1) (eCall g_law_draw (aCons (eVar 0) (aCons (eC (D.int 36)) aNil)))))) [some (D.obj 1), some (D.str signs36), some (D.str s), some (D.int m), none] M4) (seqQ (sRet (eVar 2)) (finQ Q)) := by
    intro m M4 m0 m1 d4
    refine sforR_sat (n := m) rfl (lim_of (by omega)) (fun j δ M' => Drew M M' ∧ ∃ (s : Str) (x : Option D), s.length = 1 + j ∧ δ = [some (D.obj 1), some (D.str signs36), some (D.str s), some (D.int m), x]) ⟨d4, s, none, by rw [hl], rfl⟩ ?_ ?_
    · rintro j δ M' hj ⟨d5, s5, x, hl5, rfl⟩
      refine ⟨_, _, rfl, ?_⟩
      clear q L A
      walk_at "dx"
      refine law_draw_sat d5.at_ (by decide) fun r M6 h7 h8 d6 => ?_
      obtain ⟨s7, hs7, hl7⟩ := signs_ix (M := M6) h7 h8
      rw [hs7]
      simp only [sat_ok]
      rw [add_ss (small_str (by omega) (by omega))]
      exact ⟨d5.trans d6, s5 ++ s7, _, by rw [str_app_len, hl5, hl7]; omega, rfl⟩
    · rintro δ M' ⟨d5, s5, x, hl5, rfl⟩
      exact q s5 M' (by omega) d5
  have d30 := (d1.trans d2).trans d3
  clear q L A
  by_cases e1 : r3 = 1
  · walk_at "dx"
    exact law_draw_sat d3.at_ (by decide) fun r4 M4 h7 h8 d4 => rest r4 M4 h7 h8 (d30.trans d4)
  · have z := rest r2 M3 h3 (by omega) d30
    clear rest
    walk_at "dx"
theorem law_number_sat {M : DM} {Q : D → DM → Prop} (P : PoolAt M) (q : ∀ (i : Int) M', Drew M M' → Q (.int i) M') : (g_law_number [.obj 1] M).sat Q := by
  unfold g_law_number f_law_number fnD
  walk_at "dx"
  refine law_draw_sat P (by decide) fun r M1 h1 h2 d1 => ?_
  by_cases e1 : r = 2
  · walk_at "dx"
    exact law_draw_sat d1.at_ (by decide) fun r4 M4 h7 h8 d4 => q _ _ (d1.trans d4)
  · walk_at "dx"
    exact law_draw_sat d1.at_ (by decide) fun r4 M4 h7 h8 d4 => q _ _ (d1.trans d4)
/-- a step kind; an exit -/
inductive KindD : D → Prop
  | plain : KindD (.tup [.str "plain"])
  | answer (i : Int) : KindD (.tup [.str "answer", .int i])
  | jump (s : Str) : KindD (.tup [.str "jump", .str s])
  | heal (i : Int) : KindD (.tup [.str "heal", .int i])
  | swap (s : Str) : KindD (.tup [.str "swap", .str s])
inductive ExitD : D → Prop
  | ret (i : Int) : ExitD (.tup [.str "return", .int i])
  | leave (s : Str) : ExitD (.tup [.str "leave", .str s])
  | raise (s : Str) : ExitD (.tup [.str "raise", .str s])
theorem state_eq {p : D} (h : ExitD p) (M : DM) : ∃ s : Str, g_state [p] M = .ok (.str s) M ∧ g_law_state [p] M = .ok (.str s) M := by
  cases h <;> (unfold g_state f_state g_law_state f_law_state fnD; walk_at "dx"; exact ⟨_, rfl, rfl⟩)
theorem after_eq {p k : D} (h : ExitD p) (hk : KindD k) (s g : Str) (a : Int) (M : DM) : ∃ d, g_after [p, .str s, k, .str g, .int a] M = .ok d M ∧ g_law_after [p, .str s, k, .str g, .int a] M = .ok d M ∧ plainN 10 d = true := by
  unfold g_after f_after g_law_after f_law_after fnD
  by_cases h0 : a = 0
  · subst h0
    walk_at "dx"
    exact ⟨_, rfl, rfl, rfl⟩
  by_cases h1 : g = Str.ofString "done"
  · subst h1
    cases hk <;> (walk_at "dx"; cases h <;> exact ⟨_, rfl, rfl, rfl⟩)
  by_cases h2 : g = Str.ofString "error"
  · subst h2
    cases hk <;> (walk_at "dx"; cases h <;> exact ⟨_, rfl, rfl, rfl⟩)
  · cases hk <;> (walk_at "dx"; cases h <;> exact ⟨_, rfl, rfl, rfl⟩)

theorem len_2 {α : Type} {a b : α} {i : Nat} {x : α} (h : [a, b][i]? = some x) : x = a ∨ x = b := by
  have := List.mem_of_getElem? h
  simpa using this
theorem app_eq {n : Nat} {ds : List D} {y : D} {M : DM} (h : M[n]? = some (.lst ds)) (hz : ds.length ≤ 1000) : appendD (.obj n) [y] M = .ok .non (M.set n (.lst (ds ++ [y]))) := by
  have : ds.length < sizeLine := by rw [sizeLine_eq]; omega
  simp only [appendD, h, this, if_true]
theorem ty_lst {n : Nat} {ds : List D} {M : DM} (h : M[n]? = some (.lst ds)) : tyD "list" (.obj n) M = true := by
  simp only [tyD, h]
  rfl
theorem main_law : ∀ ns : List Int, ns.length ≤ 63 → ∃ M, g_law [.rol (ns.map .int)] [] = .ok (.bl true) M := by
  intro ns hns
  have P := law_pool_at hns
  suffices h : (g_law [.rol (ns.map .int)] []).sat fun d _ => d = .bl true by
    obtain ⟨d, M, e, rfl⟩ := sat_get h
    exact ⟨M, e⟩
  have e0 := @law_pool_eq ns
  unfold g_law f_law fnD
  walk_at "dx"
  clear e0
  refine law_name_sat P fun step M1 l1 d1 => ?_
  walk_at "dx"
  refine law_number_sat d1.at_ fun n1 M2 d2 => ?_
  walk_at "dx"
  refine law_name_sat d2.at_ fun s2 M3 l3 d3 => ?_
  walk_at "dx"
  refine law_name_sat d3.at_ fun s3 M4 l4 d4 => ?_
  walk_at "dx"
  have P4 := d4.at_
  generalize hE : M4.length = E
  have hE2 : E ≠ 0 ∧ E ≠ 1 := by
    obtain ⟨_, _, _, _, _, q0, q1, _⟩ := P4.ex
    have := (List.getElem?_eq_some_iff.mp q1).1
    omega
  generalize hM5 : M4 ++ [MO.lst [D.tup [D.str (Str.ofString "return"), D.int n1], D.tup [D.str (Str.ofString "leave"), D.str s2], D.tup [D.str (Str.ofString "raise"), D.str s3], D.tup [D.str (Str.ofString "leave"), D.str step]]] = M5
  have P5 : PoolAt M5 := hM5 ▸ P4.grow _
  have x5 : M5[E]? = some (MO.lst [D.tup [D.str (Str.ofString "return"), D.int n1], D.tup [D.str (Str.ofString "leave"), D.str s2], D.tup [D.str (Str.ofString "raise"), D.str s3], D.tup [D.str (Str.ofString "leave"), D.str step]]) := by
    rw [← hM5, ← hE, List.getElem?_append_right (Nat.le_refl _), Nat.sub_self]
    rfl
  clear hM5 d1 d2 d3 d4 P hE
  have t5 := ty_lst x5
  have a5 := fun y => app_eq (y := y) x5 (by simp only [List.length_cons, List.length_nil]; omega)
  simp only [eMt]
  walk_at "dx"
  clear a5 t5
  generalize hM6 : M5.set E (MO.lst [D.tup [D.str (Str.ofString "return"), D.int n1], D.tup [D.str (Str.ofString "leave"), D.str s2], D.tup [D.str (Str.ofString "raise"), D.str s3], D.tup [D.str (Str.ofString "leave"), D.str step], D.tup [D.str (Str.ofString "raise"), D.str step]]) = M6
  have P6 : PoolAt M6 := hM6 ▸ P5.set _ hE2.1 hE2.2
  have x6 : M6[E]? = some (MO.lst [D.tup [D.str (Str.ofString "return"), D.int n1], D.tup [D.str (Str.ofString "leave"), D.str s2], D.tup [D.str (Str.ofString "raise"), D.str s3], D.tup [D.str (Str.ofString "leave"), D.str step], D.tup [D.str (Str.ofString "raise"), D.str step]]) := by
    rw [← hM6]
    exact List.getElem?_set_self (List.getElem?_eq_some_iff.mp x5).1
  have exs : ∀ (i : Nat) (p : D), [D.tup [D.str (Str.ofString "return"), D.int n1], D.tup [D.str (Str.ofString "leave"), D.str s2], D.tup [D.str (Str.ofString "raise"), D.str s3], D.tup [D.str (Str.ofString "leave"), D.str step], D.tup [D.str (Str.ofString "raise"), D.str step]][i]? = some p → ExitD p := by
    intro i p h
    have := List.mem_of_getElem? h
    simp only [List.mem_cons, List.not_mem_nil, or_false] at this
    rcases this with rfl | rfl | rfl | rfl | rfl
    · exact .ret _
    · exact .leave _
    · exact .raise _
    · exact .leave _
    · exact .raise _
  generalize [D.tup [D.str (Str.ofString "return"), D.int n1], D.tup [D.str (Str.ofString "leave"), D.str s2], D.tup [D.str (Str.ofString "raise"), D.str s3], D.tup [D.str (Str.ofString "leave"), D.str step], D.tup [D.str (Str.ofString "raise"), D.str step]] = es at x6 exs
  clear hM6 x5 P5 P4
  refine law_number_sat P6 fun n2 M7 d7 => ?_
  walk_at "dx"
  refine law_name_sat d7.at_ fun s4 M8 l8 d8 => ?_
  walk_at "dx"
  refine law_number_sat d8.at_ fun n3 M9 d9 => ?_
  have x9 : M9[E]? = some (.lst es) := by rw [d9.get hE2.2, d8.get hE2.2, d7.get hE2.2]; exact x6
  have P9 := d9.at_
  clear d9 d8 d7 P6 x6
  walk_at "dx"
  generalize hF : M9.length = F
  have hEF : E < M9.length := (List.getElem?_eq_some_iff.mp x9).1
  have hF2 : F ≠ 0 ∧ F ≠ 1 ∧ E ≠ F := by
    obtain ⟨_, _, _, _, _, q0, q1, _⟩ := P9.ex
    have := (List.getElem?_eq_some_iff.mp q1).1
    omega
  generalize hM10 : M9 ++ [MO.lst [D.tup [D.str (Str.ofString "plain")], D.tup [D.str (Str.ofString "answer"), D.int n2], D.tup [D.str (Str.ofString "jump"), D.str s4], D.tup [D.str (Str.ofString "heal"), D.int n3]]] = M10
  have P10 : PoolAt M10 := hM10 ▸ P9.grow _
  have x10 : M10[E]? = some (.lst es) := by rw [← hM10, List.getElem?_append_left hEF]; exact x9
  have y10 : M10[F]? = some (MO.lst [D.tup [D.str (Str.ofString "plain")], D.tup [D.str (Str.ofString "answer"), D.int n2], D.tup [D.str (Str.ofString "jump"), D.str s4], D.tup [D.str (Str.ofString "heal"), D.int n3]]) := by
    rw [← hM10, ← hF, List.getElem?_append_right (Nat.le_refl _), Nat.sub_self]
    rfl
  clear hM10 x9 P9 hEF hF
  have t10 := ty_lst y10
  walk_at "dx"
  clear t10
  refine law_name_sat P10 fun s5 M11 l11 d11 => ?_
  have y11 : M11[F]? = _ := (d11.get hF2.2.1).trans y10
  have x11 : M11[E]? = _ := (d11.get hE2.2).trans x10
  have a11 := fun y => app_eq (y := y) y11 (by simp only [List.length_cons, List.length_nil]; omega)
  walk_at "dx"
  clear a11
  have kds : ∀ (i : Nat) (p : D), [D.tup [D.str (Str.ofString "plain")], D.tup [D.str (Str.ofString "answer"), D.int n2], D.tup [D.str (Str.ofString "jump"), D.str s4], D.tup [D.str (Str.ofString "heal"), D.int n3], D.tup [D.str (Str.ofString "swap"), D.str s5]][i]? = some p → KindD p := by
    intro i p h
    have := List.mem_of_getElem? h
    simp only [List.mem_cons, List.not_mem_nil, or_false] at this
    rcases this with rfl | rfl | rfl | rfl | rfl
    · exact .plain
    · exact .answer _
    · exact .jump _
    · exact .heal _
    · exact .swap _
  generalize [D.tup [D.str (Str.ofString "plain")], D.tup [D.str (Str.ofString "answer"), D.int n2], D.tup [D.str (Str.ofString "jump"), D.str s4], D.tup [D.str (Str.ofString "heal"), D.int n3], D.tup [D.str (Str.ofString "swap"), D.str s5]] = ks at kds
  generalize hM12 : M11.set F (.lst ks) = M12
  have y12 : M12[F]? = some (.lst ks) := by rw [← hM12]; exact List.getElem?_set_self (List.getElem?_eq_some_iff.mp y11).1
  have x12 : M12[E]? = some (.lst es) := by rw [← hM12, List.getElem?_set_ne (Ne.symm hF2.2.2)]; exact x11
  clear hM12 y11 x11 y10 x10 P10 d11
  clear n1 n2 n3 s2 s3 s4 s5 l3 l4 l8 l11 l1 M10 M9 M8 M7 M6 M5 M4 M3 M2 hE2 hF2
  generalize hr : (D.rol (List.map D.int ns)) = rl
  clear hr hns ns
  refine sforR_sat (n := 2) rfl rfl (fun j δ M => M[E]? = some (.lst es) ∧ M[F]? = some (.lst ks) ∧ ∃ x5 x6 x7 x8 x9 x10, δ = [some rl, some (.obj 1), some (.str step), some (.obj E), some (.obj F), x5, x6, x7, x8, x9, x10]) ⟨x12, y12, _, _, _, _, _, _, rfl⟩ ?_ ?_
  · clear x12 y12
    rintro j δ M hj ⟨xM, yM, x5, x6, x7, x8, x9, x10, rfl⟩
    refine ⟨_, _, rfl, ?_⟩
    refine sforO_sat es rfl (fun j δ M => M[E]? = some (.lst es) ∧ M[F]? = some (.lst ks) ∧ ∃ x5 x6 x7 x8 x9 x10, δ = [some rl, some (.obj 1), some (.str step), some (.obj E), some (.obj F), x5, x6, x7, x8, x9, x10]) (fun _ _ _ h => h.1) ⟨xM, yM, _, _, _, _, _, _, rfl⟩ ?_ (fun δ M h => h)
    clear xM yM x5 x6 x7 x8 x9 x10 hj
    rintro j p δ M hp ⟨xM, yM, x5, x6, x7, x8, x9, x10, rfl⟩
    have ep := exs j p hp
    obtain ⟨g, h1, h2⟩ := state_eq ep M
    have h3 : g_law_same 10 [.str g, .str g] M = .ok (.bl true) M := law_same_true 10 _ _ (.str g)
    refine ⟨_, _, rfl, ?_⟩
    clear exs hp
    walk_at "dx"
    refine sforO_sat ks rfl (fun j δ M => M[E]? = some (.lst es) ∧ M[F]? = some (.lst ks) ∧ ∃ x5 x8 x9 x10, δ = [some rl, some (.obj 1), some (.str step), some (.obj E), some (.obj F), x5, some p, some (.str g), x8, x9, x10]) (fun _ _ _ h => h.2.1) ⟨xM, yM, _, _, _, _, rfl⟩ ?_ ?_
    · clear xM yM x5 x6 x7 x8 x9 x10 h1 h2 h3
      rintro j q δ M hq ⟨xM, yM, x5, x8, x9, x10, rfl⟩
      have kq := kds j q hq
      refine ⟨_, _, rfl, ?_⟩
      have lE := (List.getElem?_eq_some_iff.mp xM).1
      have lF := (List.getElem?_eq_some_iff.mp yM).1
      refine sforO_sat (n := M.length) (M' := M ++ [.lst [.int 1, .int 0]]) [.int 1, .int 0] rfl (fun j δ M' => M' = M ++ [.lst [.int 1, .int 0]] ∧ ∃ x5 x9 x10, δ = [some rl, some (.obj 1), some (.str step), some (.obj E), some (.obj F), x5, some p, some (.str g), some q, x9, x10]) ?_ ⟨rfl, _, _, _, rfl⟩ ?_ ?_
      · rintro j δ M' ⟨rfl, _⟩
        rw [List.getElem?_append_right (Nat.le_refl _), Nat.sub_self]
        rfl
      · clear x5 x9 x10
        rintro j a δ M' ha ⟨rfl, x5, x9, x10, rfl⟩
        obtain ⟨a, rfl⟩ : ∃ i : Int, a = .int i := by
          rcases len_2 ha with rfl | rfl
          · exact ⟨_, rfl⟩
          · exact ⟨_, rfl⟩
        obtain ⟨d, h4, h5, h6⟩ := after_eq ep kq step g a (M ++ [.lst [.int 1, .int 0]])
        have h7 := law_same_true 10 d d (SameP.refl (M := M ++ [.lst [.int 1, .int 0]]) 10 d h6)
        refine ⟨_, _, rfl, ?_⟩
        clear kds ha hq
        walk_at "dx"
        exact ⟨trivial, _, _, _, rfl⟩
      · rintro δ M' ⟨rfl, x5, x9, x10, rfl⟩
        exact ⟨by rw [List.getElem?_append_left lE]; exact xM, by rw [List.getElem?_append_left lF]; exact yM, _, _, _, _, rfl⟩
    · rintro δ M' ⟨xM', yM', x5, x8, x9, x10, rfl⟩
      exact ⟨xM', yM', _, _, _, _, _, _, rfl⟩
  · rintro δ M ⟨_, _, x5, x6, x7, x8, x9, x10, rfl⟩
    rfl
end DL

set_option Elab.async false
set_option linter.all false
set_option maxRecDepth 100000
set_option maxHeartbeats 4000000
namespace DL
open PySem PySem.Spec L2
open PyProof.Rows hiding St
theorem txt_mk {c : Ctx} {K : PySem.W.Frag} {mg : Str → Option Value} {h : Heap} (X : K.In h) (G : h.Ns mainGlobals mg) (eK : c.K = K) (em : c.mg = mg)
    {t_DONE : Tok} (z_DONE : PySem.W.nsIn K mainGlobals "DONE" = some (some (.str "done" t_DONE)))
    {t_ERROR : Tok} (z_ERROR : PySem.W.nsIn K mainGlobals "ERROR" = some (some (.str "error" t_ERROR)))
    (z_bool : PySem.W.nsIn K mainGlobals "bool" = some none)
    (z_int : PySem.W.nsIn K mainGlobals "int" = some none)
    (z_isinstance : PySem.W.nsIn K mainGlobals "isinstance" = some none)
    (z_len : PySem.W.nsIn K mainGlobals "len" = some none)
    (z_list : PySem.W.nsIn K mainGlobals "list" = some none)
    (z_range : PySem.W.nsIn K mainGlobals "range" = some none)
    (z_str : PySem.W.nsIn K mainGlobals "str" = some none)
    (z_tuple : PySem.W.nsIn K mainGlobals "tuple" = some none)
    {f_law_pool : Addr} {od_law_pool an_law_pool : Option Addr} {sl_law_pool : Array (Option Value)} {oc_law_pool kV_law_pool dc_law_pool pm_law_pool cd_law_pool ct_law_pool : Value} (a_law_pool : PySem.W.nsIn K mainGlobals "_law_pool" = some (some (.ref f_law_pool))) (l_law_pool : K.lookup f_law_pool = some ⟨oc_law_pool, od_law_pool, .func (PySem.W.fnOf "_law_pool" "_law_pool" (defArgs (topS 6)) (defBody (topS 6)) (defScope (topS 6)) .none kV_law_pool dc_law_pool pm_law_pool an_law_pool cd_law_pool ct_law_pool), sl_law_pool⟩) (c_law_pool : PySem.W.codeIn K cd_law_pool "_law_pool" = true) (k_law_pool : PySem.W.keepIn K (.ref f_law_pool) = true)
    {f_law_mixed : Addr} {od_law_mixed an_law_mixed : Option Addr} {sl_law_mixed : Array (Option Value)} {oc_law_mixed kV_law_mixed dc_law_mixed pm_law_mixed cd_law_mixed ct_law_mixed : Value} (a_law_mixed : PySem.W.nsIn K mainGlobals "_law_mixed" = some (some (.ref f_law_mixed))) (l_law_mixed : K.lookup f_law_mixed = some ⟨oc_law_mixed, od_law_mixed, .func (PySem.W.fnOf "_law_mixed" "_law_mixed" (defArgs (topS 7)) (defBody (topS 7)) (defScope (topS 7)) .none kV_law_mixed dc_law_mixed pm_law_mixed an_law_mixed cd_law_mixed ct_law_mixed), sl_law_mixed⟩) (c_law_mixed : PySem.W.codeIn K cd_law_mixed "_law_mixed" = true) (k_law_mixed : PySem.W.keepIn K (.ref f_law_mixed) = true)
    {f_law_draw : Addr} {od_law_draw an_law_draw : Option Addr} {sl_law_draw : Array (Option Value)} {oc_law_draw kV_law_draw dc_law_draw pm_law_draw cd_law_draw ct_law_draw : Value} (a_law_draw : PySem.W.nsIn K mainGlobals "_law_draw" = some (some (.ref f_law_draw))) (l_law_draw : K.lookup f_law_draw = some ⟨oc_law_draw, od_law_draw, .func (PySem.W.fnOf "_law_draw" "_law_draw" (defArgs (topS 8)) (defBody (topS 8)) (defScope (topS 8)) .none kV_law_draw dc_law_draw pm_law_draw an_law_draw cd_law_draw ct_law_draw), sl_law_draw⟩) (c_law_draw : PySem.W.codeIn K cd_law_draw "_law_draw" = true) (k_law_draw : PySem.W.keepIn K (.ref f_law_draw) = true)
    {f_law_letters : Addr} {od_law_letters an_law_letters : Option Addr} {sl_law_letters : Array (Option Value)} {oc_law_letters kV_law_letters dc_law_letters pm_law_letters cd_law_letters ct_law_letters : Value} (a_law_letters : PySem.W.nsIn K mainGlobals "_law_letters" = some (some (.ref f_law_letters))) (l_law_letters : K.lookup f_law_letters = some ⟨oc_law_letters, od_law_letters, .func (PySem.W.fnOf "_law_letters" "_law_letters" (defArgs (topS 9)) (defBody (topS 9)) (defScope (topS 9)) .none kV_law_letters dc_law_letters pm_law_letters an_law_letters cd_law_letters ct_law_letters), sl_law_letters⟩) (c_law_letters : PySem.W.codeIn K cd_law_letters "_law_letters" = true) (k_law_letters : PySem.W.keepIn K (.ref f_law_letters) = true)
    {f_law_name : Addr} {od_law_name an_law_name : Option Addr} {sl_law_name : Array (Option Value)} {oc_law_name kV_law_name dc_law_name pm_law_name cd_law_name ct_law_name : Value} (a_law_name : PySem.W.nsIn K mainGlobals "_law_name" = some (some (.ref f_law_name))) (l_law_name : K.lookup f_law_name = some ⟨oc_law_name, od_law_name, .func (PySem.W.fnOf "_law_name" "_law_name" (defArgs (topS 10)) (defBody (topS 10)) (defScope (topS 10)) .none kV_law_name dc_law_name pm_law_name an_law_name cd_law_name ct_law_name), sl_law_name⟩) (c_law_name : PySem.W.codeIn K cd_law_name "_law_name" = true) (k_law_name : PySem.W.keepIn K (.ref f_law_name) = true)
    {f_law_number : Addr} {od_law_number an_law_number : Option Addr} {sl_law_number : Array (Option Value)} {oc_law_number kV_law_number dc_law_number pm_law_number cd_law_number ct_law_number : Value} (a_law_number : PySem.W.nsIn K mainGlobals "_law_number" = some (some (.ref f_law_number))) (l_law_number : K.lookup f_law_number = some ⟨oc_law_number, od_law_number, .func (PySem.W.fnOf "_law_number" "_law_number" (defArgs (topS 11)) (defBody (topS 11)) (defScope (topS 11)) .none kV_law_number dc_law_number pm_law_number an_law_number cd_law_number ct_law_number), sl_law_number⟩) (c_law_number : PySem.W.codeIn K cd_law_number "_law_number" = true) (k_law_number : PySem.W.keepIn K (.ref f_law_number) = true)
    {f_law_state : Addr} {od_law_state an_law_state : Option Addr} {sl_law_state : Array (Option Value)} {oc_law_state kV_law_state dc_law_state pm_law_state cd_law_state ct_law_state : Value} (a_law_state : PySem.W.nsIn K mainGlobals "_law_state" = some (some (.ref f_law_state))) (l_law_state : K.lookup f_law_state = some ⟨oc_law_state, od_law_state, .func (PySem.W.fnOf "_law_state" "_law_state" (defArgs (topS 12)) (defBody (topS 12)) (defScope (topS 12)) .none kV_law_state dc_law_state pm_law_state an_law_state cd_law_state ct_law_state), sl_law_state⟩) (c_law_state : PySem.W.codeIn K cd_law_state "_law_state" = true) (k_law_state : PySem.W.keepIn K (.ref f_law_state) = true)
    {f_law_same : Addr} {od_law_same an_law_same : Option Addr} {sl_law_same : Array (Option Value)} {oc_law_same kV_law_same dc_law_same pm_law_same cd_law_same ct_law_same : Value} (a_law_same : PySem.W.nsIn K mainGlobals "_law_same" = some (some (.ref f_law_same))) (l_law_same : K.lookup f_law_same = some ⟨oc_law_same, od_law_same, .func (PySem.W.fnOf "_law_same" "_law_same" (defArgs (topS 14)) (defBody (topS 14)) (defScope (topS 14)) .none kV_law_same dc_law_same pm_law_same an_law_same cd_law_same ct_law_same), sl_law_same⟩) (c_law_same : PySem.W.codeIn K cd_law_same "_law_same" = true) (k_law_same : PySem.W.keepIn K (.ref f_law_same) = true)
    {f_state : Addr} {od_state an_state : Option Addr} {sl_state : Array (Option Value)} {oc_state kV_state dc_state pm_state cd_state ct_state : Value} (a_state : PySem.W.nsIn K mainGlobals "state" = some (some (.ref f_state))) (l_state : K.lookup f_state = some ⟨oc_state, od_state, .func (PySem.W.fnOf "state" "state" (defArgs (topS 3)) (defBody (topS 3)) (defScope (topS 3)) .none kV_state dc_state pm_state an_state cd_state ct_state), sl_state⟩) (c_state : PySem.W.codeIn K cd_state "state" = true) (k_state : PySem.W.keepIn K (.ref f_state) = true)
    {f_law_after : Addr} {od_law_after an_law_after : Option Addr} {sl_law_after : Array (Option Value)} {oc_law_after kV_law_after dc_law_after pm_law_after cd_law_after ct_law_after : Value} (a_law_after : PySem.W.nsIn K mainGlobals "_law_after" = some (some (.ref f_law_after))) (l_law_after : K.lookup f_law_after = some ⟨oc_law_after, od_law_after, .func (PySem.W.fnOf "_law_after" "_law_after" (defArgs (topS 13)) (defBody (topS 13)) (defScope (topS 13)) .none kV_law_after dc_law_after pm_law_after an_law_after cd_law_after ct_law_after), sl_law_after⟩) (c_law_after : PySem.W.codeIn K cd_law_after "_law_after" = true) (k_law_after : PySem.W.keepIn K (.ref f_law_after) = true)
    {f_after : Addr} {od_after an_after : Option Addr} {sl_after : Array (Option Value)} {oc_after kV_after dc_after pm_after cd_after ct_after : Value} (a_after : PySem.W.nsIn K mainGlobals "after" = some (some (.ref f_after))) (l_after : K.lookup f_after = some ⟨oc_after, od_after, .func (PySem.W.fnOf "after" "after" (defArgs (topS 4)) (defBody (topS 4)) (defScope (topS 4)) .none kV_after dc_after pm_after an_after cd_after ct_after), sl_after⟩) (c_after : PySem.W.codeIn K cd_after "after" = true) (k_after : PySem.W.keepIn K (.ref f_after) = true)
    {f_law : Addr} {od_law an_law : Option Addr} {sl_law : Array (Option Value)} {oc_law kV_law dc_law pm_law cd_law ct_law : Value} (a_law : PySem.W.nsIn K mainGlobals "law" = some (some (.ref f_law))) (l_law : K.lookup f_law = some ⟨oc_law, od_law, .func (PySem.W.fnOf "law" "law" (defArgs (topS 15)) (defBody (topS 15)) (defScope (topS 15)) .none kV_law dc_law pm_law an_law cd_law ct_law), sl_law⟩) (c_law : PySem.W.codeIn K cd_law "law" = true) (k_law : PySem.W.keepIn K (.ref f_law) = true)
    : Txt c := by
  subst eK em
  exact ⟨⟨.str "done", _, PySem.W.mg_of X G z_DONE, ⟨_, rfl⟩, fun _ _ => by simp only [RD]⟩,
    ⟨.str "error", _, PySem.W.mg_of X G z_ERROR, ⟨_, rfl⟩, fun _ _ => by simp only [RD]⟩,
    PySem.W.mg_none_of X G z_bool,
    PySem.W.mg_none_of X G z_int,
    PySem.W.mg_none_of X G z_isinstance,
    PySem.W.mg_none_of X G z_len,
    PySem.W.mg_none_of X G z_list,
    PySem.W.mg_none_of X G z_range,
    PySem.W.mg_none_of X G z_str,
    PySem.W.mg_none_of X G z_tuple,
    ⟨_, _, PySem.W.mg_of X G a_law_pool, fun_mk (st := (topS 6)) l_law_pool c_law_pool k_law_pool, (fun_mk (st := (topS 6)) l_law_pool c_law_pool k_law_pool).binds (ps := ["script"]) fun _ _ _ _ _ _ us hl => match us, hl with | [_], _ => rfl⟩,
    ⟨_, _, PySem.W.mg_of X G a_law_mixed, fun_mk (st := (topS 7)) l_law_mixed c_law_mixed k_law_mixed, (fun_mk (st := (topS 7)) l_law_mixed c_law_mixed k_law_mixed).binds (ps := ["cell", "turn", "limit"]) fun _ _ _ _ _ _ us hl => match us, hl with | [_, _, _], _ => rfl⟩,
    ⟨_, _, PySem.W.mg_of X G a_law_draw, fun_mk (st := (topS 8)) l_law_draw c_law_draw k_law_draw, (fun_mk (st := (topS 8)) l_law_draw c_law_draw k_law_draw).binds (ps := ["pool", "limit"]) fun _ _ _ _ _ _ us hl => match us, hl with | [_, _], _ => rfl⟩,
    ⟨_, _, PySem.W.mg_of X G a_law_letters, fun_mk (st := (topS 9)) l_law_letters c_law_letters k_law_letters, (fun_mk (st := (topS 9)) l_law_letters c_law_letters k_law_letters).binds (ps := []) fun _ _ _ _ _ _ us hl => match us, hl with | [], _ => rfl⟩,
    ⟨_, _, PySem.W.mg_of X G a_law_name, fun_mk (st := (topS 10)) l_law_name c_law_name k_law_name, (fun_mk (st := (topS 10)) l_law_name c_law_name k_law_name).binds (ps := ["pool"]) fun _ _ _ _ _ _ us hl => match us, hl with | [_], _ => rfl⟩,
    ⟨_, _, PySem.W.mg_of X G a_law_number, fun_mk (st := (topS 11)) l_law_number c_law_number k_law_number, (fun_mk (st := (topS 11)) l_law_number c_law_number k_law_number).binds (ps := ["pool"]) fun _ _ _ _ _ _ us hl => match us, hl with | [_], _ => rfl⟩,
    ⟨_, _, PySem.W.mg_of X G a_law_state, fun_mk (st := (topS 12)) l_law_state c_law_state k_law_state, (fun_mk (st := (topS 12)) l_law_state c_law_state k_law_state).binds (ps := ["pending"]) fun _ _ _ _ _ _ us hl => match us, hl with | [_], _ => rfl⟩,
    ⟨_, _, PySem.W.mg_of X G a_law_same, fun_mk (st := (topS 14)) l_law_same c_law_same k_law_same, (fun_mk (st := (topS 14)) l_law_same c_law_same k_law_same).binds (ps := ["actual", "expected"]) fun _ _ _ _ _ _ us hl => match us, hl with | [_, _], _ => rfl⟩,
    ⟨_, _, PySem.W.mg_of X G a_state, fun_mk (st := (topS 3)) l_state c_state k_state, (fun_mk (st := (topS 3)) l_state c_state k_state).binds (ps := ["pending"]) fun _ _ _ _ _ _ us hl => match us, hl with | [_], _ => rfl⟩,
    ⟨_, _, PySem.W.mg_of X G a_law_after, fun_mk (st := (topS 13)) l_law_after c_law_after k_law_after, (fun_mk (st := (topS 13)) l_law_after c_law_after k_law_after).binds (ps := ["pending", "step", "kind", "guard", "answer"]) fun _ _ _ _ _ _ us hl => match us, hl with | [_, _, _, _, _], _ => rfl⟩,
    ⟨_, _, PySem.W.mg_of X G a_after, fun_mk (st := (topS 4)) l_after c_after k_after, (fun_mk (st := (topS 4)) l_after c_after k_after).binds (ps := ["pending", "step", "kind", "guard", "answer"]) fun _ _ _ _ _ _ us hl => match us, hl with | [_, _, _, _, _], _ => rfl⟩,
    ⟨_, _, PySem.W.mg_of X G a_law, fun_mk (st := (topS 15)) l_law c_law k_law, (fun_mk (st := (topS 15)) l_law c_law k_law).binds (ps := ["script"]) fun _ _ _ _ _ _ us hl => match us, hl with | [_], _ => rfl⟩⟩
theorem law_mk {P : Program} {w : World} {K : PySem.W.Frag} {mg : Str → Option Value} {h : Heap} {fa : Addr} (X : K.In h) (G : h.Ns mainGlobals mg) (hfa : mg "law" = some (.ref fa))
    {t_DONE : Tok} (z_DONE : PySem.W.nsIn K mainGlobals "DONE" = some (some (.str "done" t_DONE)))
    {t_ERROR : Tok} (z_ERROR : PySem.W.nsIn K mainGlobals "ERROR" = some (some (.str "error" t_ERROR)))
    (z_bool : PySem.W.nsIn K mainGlobals "bool" = some none)
    (z_int : PySem.W.nsIn K mainGlobals "int" = some none)
    (z_isinstance : PySem.W.nsIn K mainGlobals "isinstance" = some none)
    (z_len : PySem.W.nsIn K mainGlobals "len" = some none)
    (z_list : PySem.W.nsIn K mainGlobals "list" = some none)
    (z_range : PySem.W.nsIn K mainGlobals "range" = some none)
    (z_str : PySem.W.nsIn K mainGlobals "str" = some none)
    (z_tuple : PySem.W.nsIn K mainGlobals "tuple" = some none)
    {f_law_pool : Addr} {od_law_pool an_law_pool : Option Addr} {sl_law_pool : Array (Option Value)} {oc_law_pool kV_law_pool dc_law_pool pm_law_pool cd_law_pool ct_law_pool : Value} (a_law_pool : PySem.W.nsIn K mainGlobals "_law_pool" = some (some (.ref f_law_pool))) (l_law_pool : K.lookup f_law_pool = some ⟨oc_law_pool, od_law_pool, .func (PySem.W.fnOf "_law_pool" "_law_pool" (defArgs (topS 6)) (defBody (topS 6)) (defScope (topS 6)) .none kV_law_pool dc_law_pool pm_law_pool an_law_pool cd_law_pool ct_law_pool), sl_law_pool⟩) (c_law_pool : PySem.W.codeIn K cd_law_pool "_law_pool" = true) (k_law_pool : PySem.W.keepIn K (.ref f_law_pool) = true)
    {f_law_mixed : Addr} {od_law_mixed an_law_mixed : Option Addr} {sl_law_mixed : Array (Option Value)} {oc_law_mixed kV_law_mixed dc_law_mixed pm_law_mixed cd_law_mixed ct_law_mixed : Value} (a_law_mixed : PySem.W.nsIn K mainGlobals "_law_mixed" = some (some (.ref f_law_mixed))) (l_law_mixed : K.lookup f_law_mixed = some ⟨oc_law_mixed, od_law_mixed, .func (PySem.W.fnOf "_law_mixed" "_law_mixed" (defArgs (topS 7)) (defBody (topS 7)) (defScope (topS 7)) .none kV_law_mixed dc_law_mixed pm_law_mixed an_law_mixed cd_law_mixed ct_law_mixed), sl_law_mixed⟩) (c_law_mixed : PySem.W.codeIn K cd_law_mixed "_law_mixed" = true) (k_law_mixed : PySem.W.keepIn K (.ref f_law_mixed) = true)
    {f_law_draw : Addr} {od_law_draw an_law_draw : Option Addr} {sl_law_draw : Array (Option Value)} {oc_law_draw kV_law_draw dc_law_draw pm_law_draw cd_law_draw ct_law_draw : Value} (a_law_draw : PySem.W.nsIn K mainGlobals "_law_draw" = some (some (.ref f_law_draw))) (l_law_draw : K.lookup f_law_draw = some ⟨oc_law_draw, od_law_draw, .func (PySem.W.fnOf "_law_draw" "_law_draw" (defArgs (topS 8)) (defBody (topS 8)) (defScope (topS 8)) .none kV_law_draw dc_law_draw pm_law_draw an_law_draw cd_law_draw ct_law_draw), sl_law_draw⟩) (c_law_draw : PySem.W.codeIn K cd_law_draw "_law_draw" = true) (k_law_draw : PySem.W.keepIn K (.ref f_law_draw) = true)
    {f_law_letters : Addr} {od_law_letters an_law_letters : Option Addr} {sl_law_letters : Array (Option Value)} {oc_law_letters kV_law_letters dc_law_letters pm_law_letters cd_law_letters ct_law_letters : Value} (a_law_letters : PySem.W.nsIn K mainGlobals "_law_letters" = some (some (.ref f_law_letters))) (l_law_letters : K.lookup f_law_letters = some ⟨oc_law_letters, od_law_letters, .func (PySem.W.fnOf "_law_letters" "_law_letters" (defArgs (topS 9)) (defBody (topS 9)) (defScope (topS 9)) .none kV_law_letters dc_law_letters pm_law_letters an_law_letters cd_law_letters ct_law_letters), sl_law_letters⟩) (c_law_letters : PySem.W.codeIn K cd_law_letters "_law_letters" = true) (k_law_letters : PySem.W.keepIn K (.ref f_law_letters) = true)
    {f_law_name : Addr} {od_law_name an_law_name : Option Addr} {sl_law_name : Array (Option Value)} {oc_law_name kV_law_name dc_law_name pm_law_name cd_law_name ct_law_name : Value} (a_law_name : PySem.W.nsIn K mainGlobals "_law_name" = some (some (.ref f_law_name))) (l_law_name : K.lookup f_law_name = some ⟨oc_law_name, od_law_name, .func (PySem.W.fnOf "_law_name" "_law_name" (defArgs (topS 10)) (defBody (topS 10)) (defScope (topS 10)) .none kV_law_name dc_law_name pm_law_name an_law_name cd_law_name ct_law_name), sl_law_name⟩) (c_law_name : PySem.W.codeIn K cd_law_name "_law_name" = true) (k_law_name : PySem.W.keepIn K (.ref f_law_name) = true)
    {f_law_number : Addr} {od_law_number an_law_number : Option Addr} {sl_law_number : Array (Option Value)} {oc_law_number kV_law_number dc_law_number pm_law_number cd_law_number ct_law_number : Value} (a_law_number : PySem.W.nsIn K mainGlobals "_law_number" = some (some (.ref f_law_number))) (l_law_number : K.lookup f_law_number = some ⟨oc_law_number, od_law_number, .func (PySem.W.fnOf "_law_number" "_law_number" (defArgs (topS 11)) (defBody (topS 11)) (defScope (topS 11)) .none kV_law_number dc_law_number pm_law_number an_law_number cd_law_number ct_law_number), sl_law_number⟩) (c_law_number : PySem.W.codeIn K cd_law_number "_law_number" = true) (k_law_number : PySem.W.keepIn K (.ref f_law_number) = true)
    {f_law_state : Addr} {od_law_state an_law_state : Option Addr} {sl_law_state : Array (Option Value)} {oc_law_state kV_law_state dc_law_state pm_law_state cd_law_state ct_law_state : Value} (a_law_state : PySem.W.nsIn K mainGlobals "_law_state" = some (some (.ref f_law_state))) (l_law_state : K.lookup f_law_state = some ⟨oc_law_state, od_law_state, .func (PySem.W.fnOf "_law_state" "_law_state" (defArgs (topS 12)) (defBody (topS 12)) (defScope (topS 12)) .none kV_law_state dc_law_state pm_law_state an_law_state cd_law_state ct_law_state), sl_law_state⟩) (c_law_state : PySem.W.codeIn K cd_law_state "_law_state" = true) (k_law_state : PySem.W.keepIn K (.ref f_law_state) = true)
    {f_law_same : Addr} {od_law_same an_law_same : Option Addr} {sl_law_same : Array (Option Value)} {oc_law_same kV_law_same dc_law_same pm_law_same cd_law_same ct_law_same : Value} (a_law_same : PySem.W.nsIn K mainGlobals "_law_same" = some (some (.ref f_law_same))) (l_law_same : K.lookup f_law_same = some ⟨oc_law_same, od_law_same, .func (PySem.W.fnOf "_law_same" "_law_same" (defArgs (topS 14)) (defBody (topS 14)) (defScope (topS 14)) .none kV_law_same dc_law_same pm_law_same an_law_same cd_law_same ct_law_same), sl_law_same⟩) (c_law_same : PySem.W.codeIn K cd_law_same "_law_same" = true) (k_law_same : PySem.W.keepIn K (.ref f_law_same) = true)
    {f_state : Addr} {od_state an_state : Option Addr} {sl_state : Array (Option Value)} {oc_state kV_state dc_state pm_state cd_state ct_state : Value} (a_state : PySem.W.nsIn K mainGlobals "state" = some (some (.ref f_state))) (l_state : K.lookup f_state = some ⟨oc_state, od_state, .func (PySem.W.fnOf "state" "state" (defArgs (topS 3)) (defBody (topS 3)) (defScope (topS 3)) .none kV_state dc_state pm_state an_state cd_state ct_state), sl_state⟩) (c_state : PySem.W.codeIn K cd_state "state" = true) (k_state : PySem.W.keepIn K (.ref f_state) = true)
    {f_law_after : Addr} {od_law_after an_law_after : Option Addr} {sl_law_after : Array (Option Value)} {oc_law_after kV_law_after dc_law_after pm_law_after cd_law_after ct_law_after : Value} (a_law_after : PySem.W.nsIn K mainGlobals "_law_after" = some (some (.ref f_law_after))) (l_law_after : K.lookup f_law_after = some ⟨oc_law_after, od_law_after, .func (PySem.W.fnOf "_law_after" "_law_after" (defArgs (topS 13)) (defBody (topS 13)) (defScope (topS 13)) .none kV_law_after dc_law_after pm_law_after an_law_after cd_law_after ct_law_after), sl_law_after⟩) (c_law_after : PySem.W.codeIn K cd_law_after "_law_after" = true) (k_law_after : PySem.W.keepIn K (.ref f_law_after) = true)
    {f_after : Addr} {od_after an_after : Option Addr} {sl_after : Array (Option Value)} {oc_after kV_after dc_after pm_after cd_after ct_after : Value} (a_after : PySem.W.nsIn K mainGlobals "after" = some (some (.ref f_after))) (l_after : K.lookup f_after = some ⟨oc_after, od_after, .func (PySem.W.fnOf "after" "after" (defArgs (topS 4)) (defBody (topS 4)) (defScope (topS 4)) .none kV_after dc_after pm_after an_after cd_after ct_after), sl_after⟩) (c_after : PySem.W.codeIn K cd_after "after" = true) (k_after : PySem.W.keepIn K (.ref f_after) = true)
    {f_law : Addr} {od_law an_law : Option Addr} {sl_law : Array (Option Value)} {oc_law kV_law dc_law pm_law cd_law ct_law : Value} (a_law : PySem.W.nsIn K mainGlobals "law" = some (some (.ref f_law))) (l_law : K.lookup f_law = some ⟨oc_law, od_law, .func (PySem.W.fnOf "law" "law" (defArgs (topS 15)) (defBody (topS 15)) (defScope (topS 15)) .none kV_law dc_law pm_law an_law cd_law ct_law), sl_law⟩) (c_law : PySem.W.codeIn K cd_law "law" = true) (k_law : PySem.W.keepIn K (.ref f_law) = true)
    : ∃ fd : FuncData, (∀ (s : Shared) (v : Value), BindsTo s fd ⟨[v], []⟩ [("script", v)]) ∧ ∀ base : Heap, K.In base → base.Ns mainGlobals mg → FnOk P w K mg base (L2.CX P w) 11 fa fd ["script"] (spLaw K) := by
  have e := hfa.symm.trans (PySem.W.mg_of X G a_law)
  cases e
  exact ⟨PySem.W.fnOf "law" "law" (defArgs (topS 15)) (defBody (topS 15)) (defScope (topS 15)) .none kV_law dc_law pm_law an_law cd_law ct_law, fun s v => .of_eq rfl, fun base _ _ =>
    law_sp (c := ⟨P, w, K, mg, base, (fun _ => 0)⟩) (c_all (txt_mk (c := ⟨P, w, K, mg, base, (fun _ => 0)⟩) X G rfl rfl z_DONE z_ERROR z_bool z_int z_isinstance z_len z_list z_range z_str z_tuple a_law_pool l_law_pool c_law_pool k_law_pool a_law_mixed l_law_mixed c_law_mixed k_law_mixed a_law_draw l_law_draw c_law_draw k_law_draw a_law_letters l_law_letters c_law_letters k_law_letters a_law_name l_law_name c_law_name k_law_name a_law_number l_law_number c_law_number k_law_number a_law_state l_law_state c_law_state k_law_state a_law_same l_law_same c_law_same k_law_same a_state l_state c_state k_state a_law_after l_law_after c_law_after k_law_after a_after l_after c_after k_after a_law l_law c_law k_law) (fun_mk (st := (topS 15)) l_law c_law k_law)) main_law⟩
theorem walk {l : PySem.W.OpenLaw} {q : Program} {loose : List Str} {XP : (Str → Option Value) → Heap → Prop} {YP : World → Heap → Prop} {d : DefRec} {K : Params → PySem.W.Frag} (hn : l.most = some 63) (hdf : d.params.defaults = [])
    (hY : ∀ (w : World) (h : Heap), YP w h → (K w.params).In h)
    (F : ∀ (w : World) (mg : Str → Option Value) (fa : Addr) (h : Heap), (K w.params).In h → h.Ns mainGlobals mg → mg d.name = some (.ref fa) →
      ∃ fd : FuncData, (∀ (s : Shared) (u : Value), BindsTo s fd ⟨[u], []⟩ [("script", u)]) ∧ ∀ base : Heap, (K w.params).In base → base.Ns mainGlobals mg → FnOk l.prog w (K w.params) mg base (L2.CX l.prog w) 11 fa fd ["script"] (spLaw (K w.params))) :
    PySem.W.WalkO q loose XP YP l.row.toRowW d [] (fun f vs => PySem.call f vs) :=
  L2.walk_of (n := 63) (k := 11) (x := "script") (CX := fun w => L2.CX l.prog w) (sp := fun w => spLaw (K w.params)) hn (by decide) hdf ⟨rfl, by decide, by decide⟩ hY F (fun _ _ a ns hl hO hS => ⟨a, ns, rfl, only_rol hO hS, hl, fun _ => rfl⟩)
    fun _ _ _ _ _ ⟨_, _, _, _, _, _, _, _, _, _, _, _, z⟩ => z
end DL
open PySem PySem.W PyProof.Rows in
set_option maxRecDepth 100000 in
set_option maxHeartbeats 0 in
theorem PySem.Challenge.cw_struckbodies_k02_pending_exit_holds : PySem.Challenge.rw_struckbodies_k02_pending_exit.Holds := by
  w_on; o_law; k_head; (case hw => w_witness2)
  k_fill
  refine DL.walk (l := PySem.Challenge.rw_struckbodies_k02_pending_exit) rfl rfl (fun w h Y => PySem.W.kIn_of Y) ?F
  case F =>
    intro w mg fa h KX G hmg
    refine' DL.law_mk KX G hmg ?z_DONE ?z_ERROR ?z_bool ?z_int ?z_isinstance ?z_len ?z_list ?z_range ?z_str ?z_tuple ?a_law_pool ?l_law_pool ?c_law_pool ?k_law_pool ?a_law_mixed ?l_law_mixed ?c_law_mixed ?k_law_mixed ?a_law_draw ?l_law_draw ?c_law_draw ?k_law_draw ?a_law_letters ?l_law_letters ?c_law_letters ?k_law_letters ?a_law_name ?l_law_name ?c_law_name ?k_law_name ?a_law_number ?l_law_number ?c_law_number ?k_law_number ?a_law_state ?l_law_state ?c_law_state ?k_law_state ?a_law_same ?l_law_same ?c_law_same ?k_law_same ?a_state ?l_state ?c_state ?k_state ?a_law_after ?l_law_after ?c_law_after ?k_law_after ?a_after ?l_after ?c_after ?k_after ?a_law ?l_law ?c_law ?k_law
    (case z_DONE => k_is)
    (case z_ERROR => k_is)
    (case z_bool => k_is)
    (case z_int => k_is)
    (case z_isinstance => k_is)
    (case z_len => k_is)
    (case z_list => k_is)
    (case z_range => k_is)
    (case z_str => k_is)
    (case z_tuple => k_is)
    (case a_law_pool => k_is)
    (case l_law_pool => k_is)
    (case c_law_pool => k_is)
    (case k_law_pool => k_is)
    (case a_law_mixed => k_is)
    (case l_law_mixed => k_is)
    (case c_law_mixed => k_is)
    (case k_law_mixed => k_is)
    (case a_law_draw => k_is)
    (case l_law_draw => k_is)
    (case c_law_draw => k_is)
    (case k_law_draw => k_is)
    (case a_law_letters => k_is)
    (case l_law_letters => k_is)
    (case c_law_letters => k_is)
    (case k_law_letters => k_is)
    (case a_law_name => k_is)
    (case l_law_name => k_is)
    (case c_law_name => k_is)
    (case k_law_name => k_is)
    (case a_law_number => k_is)
    (case l_law_number => k_is)
    (case c_law_number => k_is)
    (case k_law_number => k_is)
    (case a_law_state => k_is)
    (case l_law_state => k_is)
    (case c_law_state => k_is)
    (case k_law_state => k_is)
    (case a_law_same => k_is)
    (case l_law_same => k_is)
    (case c_law_same => k_is)
    (case k_law_same => k_is)
    (case a_state => k_is)
    (case l_state => k_is)
    (case c_state => k_is)
    (case k_state => k_is)
    (case a_law_after => k_is)
    (case l_law_after => k_is)
    (case c_law_after => k_is)
    (case k_law_after => k_is)
    (case a_after => k_is)
    (case l_after => k_is)
    (case c_after => k_is)
    (case k_after => k_is)
    (case a_law => k_is)
    (case l_law => k_is)
    (case c_law => k_is)
    (case k_law => k_is)

