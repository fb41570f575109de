import PyProof.Rows.All
import Wide.All
import OpenK.AllK
import Wide.FinOn
import HandS.ForMost
import HandS.WordsExc
import HandS.CallSlots
import HandS.IsInst
import HandS.TupAny
import KE.DataEq
import HandS.Dict
import HandS.Text
import HandS.Style
import HandS.Star
import HandS.Rev
import HandS.Comp
import PyProof.AutoSeq1
import HandS.Property
import HandS.ClsMeth
import HandS.Defaults
import KE.KOpsOwn
import OpenK.KMeth
import KE.KDictPairs
import HandS.WordsDict
import HandS.More
import PyProof.Rows.StrMeet
import HandS.TryOnly
import PySem.Challenge.RW_struckbodies_k33_whole_agendas_part
set_option Elab.async false
set_option linter.all false
set_option maxRecDepth 100000
set_option maxHeartbeats 2000000
/-! A second layer over HandS: expressions and statements as plain functions over data without addresses. -/
namespace DL
open PySem PySem.Spec L2
open PyProof.Rows hiding St

/-- a value without addresses: tuples are data, mutable objects are numbers -/
inductive D where
  | non | bl (b : Bool) | int (i : Int) | str (s : Str) | tup (ds : List D) | rol (ds : List D) | obj (i : Nat) | cl (n : Nat) | ty (n : String)
/-- a mutable object -/
inductive MO where
  | lst (ds : List D)
  | ins (C : Nat) (fs : List (Str × D))
  | dic (kvs : List (Key × D))
  | exn (C : Nat) (fs : List (Str × D))
abbrev DM := List MO
abbrev DSt := List (Option D)
/-- an exception of an own class -/
structure Ex where
  cls : Nat
  fs : List (Str × D)
inductive Rs (α : Type) where
  | ok (a : α) (M : DM)
  | ex (e : Ex) (M : DM)
  | bad
inductive Ro where
  | nx (δ : DSt) (M : DM)
  | rt (d : D) (M : DM)
  | bk (δ : DSt) (M : DM)
  | ct (δ : DSt) (M : DM)
  | ex (e : Ex) (δ : DSt) (M : DM)
  | bad
def Rs.bind {α β : Type} (r : Rs α) (k : α → DM → Rs β) : Rs β := match r with
  | .ok a M => k a M
  | .ex e M => .ex e M
  | .bad => .bad
def Rs.ro {α : Type} (r : Rs α) (δ : DSt) (k : α → DM → Ro) : Ro := match r with
  | .ok a M => k a M
  | .ex e M => .ex e δ M
  | .bad => .bad
def Ro.seq (r : Ro) (k : DSt → DM → Ro) : Ro := match r with
  | .nx δ M => k δ M
  | .rt d M => .rt d M
  | .bk δ M => .bk δ M
  | .ct δ M => .ct δ M
  | .ex e δ M => .ex e δ M
  | .bad => .bad
def Ro.fin (r : Ro) : Rs D := match r with
  | .nx _ M => .ok .non M
  | .rt d M => .ok d M
  | .bk _ _ => .bad
  | .ct _ _ => .bad
  | .ex e _ M => .ex e M
  | .bad => .bad
abbrev FE := DSt → DM → Rs D
abbrev FT := DSt → DM → Rs Bool
abbrev FA := DSt → DM → Rs (List D)
abbrev FS := DSt → DM → Ro

/-- what the module says -/
structure Ctx where
  P : Program
  w : World
  K : PySem.W.Frag
  mg : Str → Option Value
  base : Heap
  cl : Nat → Addr

/-- a tuple that stays: tracked or written -/
def TupAt (K : PySem.W.Frag) (H : Hp) (a : Addr) (xs : List V) : Prop :=
  H a = some (.tup xs) ∨ ∃ (o : Obj) (its : Array Value) (n : Nat), K.lookup a = some o ∧ o.cls = .type "tuple" ∧ o.data = .seq its n ∧ its.size ≤ sizeLine ∧ Vals xs its.toList
/-- a list that stays: locked or written -/
def RolAt (K : PySem.W.Frag) (H : Hp) (a : Addr) (xs : List V) : Prop :=
  (∃ o, H a = some (.frz o (.lst xs))) ∨ ∃ (o : Obj) (its : Array Value) (n : Nat), K.lookup a = some o ∧ o.cls = .type "list" ∧ o.dict = none ∧ o.data = .seq its n ∧ its.size ≤ sizeLine ∧ Vals xs its.toList
theorem TupAt.sq {K : PySem.W.Frag} {H : Hp} {a : Addr} {xs : List V} (h : TupAt K H a xs) : SqT K H a xs := by
  rcases h with h | h
  · exact .inl (.inl h)
  · exact .inr h
theorem RolAt.sq {K : PySem.W.Frag} {H : Hp} {a : Addr} {xs : List V} (h : RolAt K H a xs) : SqL K H a xs := by
  rcases h with ⟨o, h⟩ | h
  · exact .inl (.inr ⟨o, h⟩)
  · exact .inr h

mutual
def RD (c : Ctx) (ρ : List Addr) (H : Hp) : D → V → Prop
  | .non, v => v = .non
  | .bl b, v => v = .bl b
  | .int i, v => v = .int i
  | .str s, v => v = .str s
  | .tup ds, v => ∃ a xs, v = .ref a ∧ TupAt c.K H a xs ∧ RDs c ρ H ds xs
  | .rol ds, v => ∃ a xs, v = .ref a ∧ RolAt c.K H a xs ∧ RDs c ρ H ds xs
  | .obj i, v => ∃ a, v = .ref a ∧ ρ[i]? = some a
  | .cl n, v => v = .ref (c.cl n)
  | .ty n, v => v = .ty n
def RDs (c : Ctx) (ρ : List Addr) (H : Hp) : List D → List V → Prop
  | [], vs => vs = []
  | d :: ds, vs => ∃ x xs, vs = x :: xs ∧ RD c ρ H d x ∧ RDs c ρ H ds xs
end
def RF (c : Ctx) (ρ : List Addr) (H : Hp) : List (Str × D) → List (Str × V) → Prop
  | [], vs => vs = []
  | (n, d) :: ds, vs => ∃ x xs, vs = (n, x) :: xs ∧ RD c ρ H d x ∧ RF c ρ H ds xs
def RK (c : Ctx) (ρ : List Addr) (H : Hp) : List (Key × D) → List (Key × V) → Prop
  | [], vs => vs = []
  | (n, d) :: ds, vs => ∃ x xs, vs = (n, x) :: xs ∧ RD c ρ H d x ∧ RK c ρ H ds xs
/-- a caught exception as an object: its class, its dict -/
def exh (cls : Value) (od : Option Addr) (a : Addr) : HO := .ext fun h => ∃ oe : Obj, h.get? a = some oe ∧ (oe.cls = cls ∧ oe.dict = od) ∧ ∃ vs, oe.data = .fields vs
/-- an exception's attributes -/
def RXd (c : Ctx) (ρ : List Addr) (H : Hp) (fs : List (Str × D)) (od : Option Addr) : Prop := (fs = [] ∧ od = none) ∨ ∃ d vs, od = some d ∧ H d = some (.xd vs) ∧ RF c ρ H fs vs
/-- an object stands for mo -/
def RO (c : Ctx) (ρ : List Addr) (H : Hp) (a : Addr) : MO → Prop
  | .lst ds => ∃ xs, H a = some (.lst xs) ∧ RDs c ρ H ds xs
  | .ins C fs => ∃ dx vs, H a = some (.ins (c.cl C) dx vs) ∧ RF c ρ H fs vs
  | .dic kvs => ∃ ws, H a = some (.dK ws) ∧ RK c ρ H kvs ws
  | .exn C fs => ∃ od, H a = some (exh (.ref (c.cl C)) od a) ∧ RXd c ρ H fs od
structure Ext (ρ : List Addr) (H : Hp) (ρ' : List Addr) (H' : Hp) : Prop where
  pre : ∃ τ, ρ' = ρ ++ τ
  tup : ∀ a xs, H a = some (.tup xs) → H' a = some (.tup xs)
  frz : ∀ a o xs, H a = some (.frz o (.lst xs)) → H' a = some (.frz o (.lst xs))
  xd : ∀ a vs, H a = some (.xd vs) → H' a = some (.xd vs)
structure Rep (c : Ctx) (ρ : List Addr) (M : DM) (H : Hp) : Prop where
  len : ρ.length = M.length
  nd : ρ.Nodup
  at_ : ∀ (i : Nat) (mo : MO) (a : Addr), M[i]? = some mo → ρ[i]? = some a → RO c ρ H a mo
structure RS (c : Ctx) (ρ : List Addr) (H : Hp) (δ : DSt) (σ : St) : Prop where
  len : δ.length = σ.length
  get : ∀ (i : Nat) (d : D), δ[i]? = some (some d) → ∃ v, σ[i]? = some (some v) ∧ RD c ρ H d v
/-- an exception as it lies -/
def RX (c : Ctx) (ρ : List Addr) (H : Hp) (e : Ex) (cls : Value) (od : Option Addr) : Prop :=
  cls = .ref (c.cl e.cls) ∧ RXd c ρ H e.fs od

section
variable {c : Ctx} {ρ ρ' ρ'' : List Addr} {H H' H'' : Hp}
theorem Ext.refl : Ext ρ H ρ H := ⟨⟨[], by simp⟩, fun _ _ h => h, fun _ _ _ h => h, fun _ _ h => h⟩
theorem Ext.trans (a : Ext ρ H ρ' H') (b : Ext ρ' H' ρ'' H'') : Ext ρ H ρ'' H'' := by
  obtain ⟨t, e⟩ := a.pre
  obtain ⟨u, e'⟩ := b.pre
  exact ⟨⟨t ++ u, by rw [e', e, List.append_assoc]⟩, fun x y h => b.tup x y (a.tup x y h), fun x o y h => b.frz x o y (a.frz x o y h), fun x y h => b.xd x y (a.xd x y h)⟩
theorem Ext.get (a : Ext ρ H ρ' H') {i : Nat} {p : Addr} (h : ρ[i]? = some p) : ρ'[i]? = some p := by
  obtain ⟨t, e⟩ := a.pre
  have hl := (List.getElem?_eq_some_iff.mp h).1
  rw [e, List.getElem?_append_left hl]
  exact h
theorem TupAt.mono {a : Addr} {xs : List V} (e : Ext ρ H ρ' H') (h : TupAt c.K H a xs) : TupAt c.K H' a xs := by
  rcases h with h | h
  · exact .inl (e.tup _ _ h)
  · exact .inr h
theorem RolAt.mono {a : Addr} {xs : List V} (e : Ext ρ H ρ' H') (h : RolAt c.K H a xs) : RolAt c.K H' a xs := by
  rcases h with ⟨o, h⟩ | h
  · exact .inl ⟨o, e.frz _ _ _ h⟩
  · exact .inr h
mutual
theorem RD.mono (e : Ext ρ H ρ' H') : ∀ (d : D) (v : V), RD c ρ H d v → RD c ρ' H' d v
  | .non, v, h => by simpa only [RD] using h
  | .bl b, v, h => by simpa only [RD] using h
  | .int i, v, h => by simpa only [RD] using h
  | .str s, v, h => by simpa only [RD] using h
  | .tup ds, v, h => by
    simp only [RD] at h ⊢
    obtain ⟨a, xs, e1, h1, h2⟩ := h
    exact ⟨a, xs, e1, h1.mono e, RDs.mono e ds xs h2⟩
  | .rol ds, v, h => by
    simp only [RD] at h ⊢
    obtain ⟨a, xs, e1, h1, h2⟩ := h
    exact ⟨a, xs, e1, h1.mono e, RDs.mono e ds xs h2⟩
  | .obj i, v, h => by
    simp only [RD] at h ⊢
    obtain ⟨a, e1, h1⟩ := h
    exact ⟨a, e1, e.get h1⟩
  | .cl n, v, h => by simpa only [RD] using h
  | .ty n, v, h => by simpa only [RD] using h
theorem RDs.mono (e : Ext ρ H ρ' H') : ∀ (ds : List D) (vs : List V), RDs c ρ H ds vs → RDs c ρ' H' ds vs
  | [], vs, h => by simpa only [RDs] using h
  | d :: ds, vs, h => by
    simp only [RDs] at h ⊢
    obtain ⟨x, xs, e1, h1, h2⟩ := h
    exact ⟨x, xs, e1, RD.mono e d x h1, RDs.mono e ds xs h2⟩
end
theorem RF.mono (e : Ext ρ H ρ' H') : ∀ (ds : List (Str × D)) (vs : List (Str × V)), RF c ρ H ds vs → RF c ρ' H' ds vs
  | [], vs, h => by simpa only [RF] using h
  | (n, d) :: ds, vs, h => by
    simp only [RF] at h ⊢
    obtain ⟨x, xs, e1, h1, h2⟩ := h
    exact ⟨x, xs, e1, RD.mono e d x h1, RF.mono e ds xs h2⟩
theorem RK.mono (e : Ext ρ H ρ' H') : ∀ (ds : List (Key × D)) (vs : List (Key × V)), RK c ρ H ds vs → RK c ρ' H' ds vs
  | [], vs, h => by simpa only [RK] using h
  | (n, d) :: ds, vs, h => by
    simp only [RK] at h ⊢
    obtain ⟨x, xs, e1, h1, h2⟩ := h
    exact ⟨x, xs, e1, RD.mono e d x h1, RK.mono e ds xs h2⟩
theorem RXd.mono (e : Ext ρ H ρ' H') {fs : List (Str × D)} {od : Option Addr} (h : RXd c ρ H fs od) : RXd c ρ' H' fs od := by
  rcases h with h | ⟨d, vs, e1, h1, h2⟩
  · exact .inl h
  · exact .inr ⟨d, vs, e1, e.xd _ _ h1, RF.mono e _ _ h2⟩
theorem RO.mono (e : Ext ρ H ρ' H') {a : Addr} (same : H' a = H a) : ∀ (mo : MO), RO c ρ H a mo → RO c ρ' H' a mo
  | .lst ds, h => by
    obtain ⟨xs, h1, h2⟩ := h
    exact ⟨xs, same.trans h1, RDs.mono e _ _ h2⟩
  | .ins C fs, h => by
    obtain ⟨dx, vs, h1, h2⟩ := h
    exact ⟨dx, vs, same.trans h1, RF.mono e _ _ h2⟩
  | .dic kvs, h => by
    obtain ⟨ws, h1, h2⟩ := h
    exact ⟨ws, same.trans h1, RK.mono e _ _ h2⟩
  | .exn C fs, h => by
    obtain ⟨od, h1, h2⟩ := h
    exact ⟨od, same.trans h1, RXd.mono e h2⟩
theorem RO.there {a : Addr} {mo : MO} (h : RO c ρ H a mo) : ∃ o, H a = some o := by
  cases mo with
  | lst ds => obtain ⟨xs, h1, _⟩ := h; exact ⟨_, h1⟩
  | ins C fs => obtain ⟨dx, vs, h1, _⟩ := h; exact ⟨_, h1⟩
  | dic kvs => obtain ⟨ws, h1, _⟩ := h; exact ⟨_, h1⟩
  | exn C fs => obtain ⟨od, h1, _⟩ := h; exact ⟨_, h1⟩
theorem RO.mut {a : Addr} {mo : MO} (h : RO c ρ H a mo) : Mut (H a) := by
  cases mo with
  | lst ds => obtain ⟨xs, h1, _⟩ := h; rw [h1]; trivial
  | ins C fs => obtain ⟨dx, vs, h1, _⟩ := h; rw [h1]; trivial
  | dic kvs => obtain ⟨ws, h1, _⟩ := h; rw [h1]; trivial
  | exn C fs => obtain ⟨od, h1, _⟩ := h; rw [h1]; trivial
theorem RS.mono {δ : DSt} {σ : St} (e : Ext ρ H ρ' H') (r : RS c ρ H δ σ) : RS c ρ' H' δ σ :=
  ⟨r.len, fun i d h => let ⟨v, h1, h2⟩ := r.get i d h; ⟨v, h1, RD.mono e d v h2⟩⟩
theorem RS.set {δ : DSt} {σ : St} {d : D} {v : V} (r : RS c ρ H δ σ) (i : Nat) (h : RD c ρ H d v) : RS c ρ H (δ.set i (some d)) (σ.set i (some v)) := by
  refine ⟨by simp [r.len], fun j d' h' => ?_⟩
  by_cases hj : j = i
  · subst hj
    by_cases hl : j < δ.length
    · rw [List.getElem?_set_self hl] at h'
      cases h'
      exact ⟨v, by rw [List.getElem?_set_self (r.len ▸ hl)], h⟩
    · rw [List.getElem?_eq_none (by simp; omega)] at h'
      cases h'
  · rw [List.getElem?_set_ne (Ne.symm hj)] at h'
    obtain ⟨v', h1, h2⟩ := r.get j d' h'
    exact ⟨v', by rw [List.getElem?_set_ne (Ne.symm hj)]; exact h1, h2⟩
theorem RDs.len : ∀ (ds : List D) (vs : List V), RDs c ρ H ds vs → ds.length = vs.length
  | [], vs, h => by simp only [RDs] at h; rw [h]; rfl
  | d :: ds, vs, h => by
    simp only [RDs] at h
    obtain ⟨x, xs, e1, _, h2⟩ := h
    rw [e1, List.length_cons, List.length_cons, RDs.len ds xs h2]
theorem RDs.get : ∀ (ds : List D) (vs : List V), RDs c ρ H ds vs → ∀ (i : Nat) (d : D), ds[i]? = some d → ∃ v, vs[i]? = some v ∧ RD c ρ H d v
  | [], vs, h, i, d, e => by simp at e
  | d :: ds, vs, h, 0, d', e => by
    simp only [RDs] at h
    obtain ⟨x, xs, e1, h1, h2⟩ := h
    simp at e
    subst e
    exact ⟨x, by rw [e1]; rfl, h1⟩
  | d :: ds, vs, h, i + 1, d', e => by
    simp only [RDs] at h
    obtain ⟨x, xs, e1, h1, h2⟩ := h
    obtain ⟨v, h3, h4⟩ := RDs.get ds xs h2 i d' (by simpa using e)
    exact ⟨v, by rw [e1]; simpa using h3, h4⟩
theorem RDs.set : ∀ (ds : List D) (vs : List V), RDs c ρ H ds vs → ∀ (i : Nat) (d : D) (v : V), RD c ρ H d v → RDs c ρ H (ds.set i d) (vs.set i v)
  | [], vs, h, i, d, v, _ => by
    simp only [RDs] at h
    subst h
    simp [RDs]
  | d :: ds, vs, h, 0, d', v, r => by
    simp only [RDs] at h
    obtain ⟨x, xs, e1, h1, h2⟩ := h
    subst e1
    simp only [List.set_cons_zero, RDs]
    exact ⟨v, xs, rfl, r, h2⟩
  | d :: ds, vs, h, i + 1, d', v, r => by
    simp only [RDs] at h
    obtain ⟨x, xs, e1, h1, h2⟩ := h
    subst e1
    simp only [List.set_cons_succ, RDs]
    exact ⟨x, _, rfl, h1, RDs.set ds xs h2 i d' v r⟩
theorem RDs.append : ∀ (ds : List D) (vs : List V) (es : List D) (us : List V), RDs c ρ H ds vs → RDs c ρ H es us → RDs c ρ H (ds ++ es) (vs ++ us)
  | [], vs, es, us, h, h' => by
    simp only [RDs] at h
    subst h
    exact h'
  | d :: ds, vs, es, us, h, h' => by
    simp only [RDs] at h
    obtain ⟨x, xs, e1, h1, h2⟩ := h
    subst e1
    simp only [List.cons_append, RDs]
    exact ⟨x, _, rfl, h1, RDs.append ds xs es us h2 h'⟩
theorem RDs.take : ∀ (n : Nat) (ds : List D) (vs : List V), RDs c ρ H ds vs → RDs c ρ H (ds.take n) (vs.take n)
  | 0, ds, vs, h => by simp [RDs]
  | n + 1, [], vs, h => by
    simp only [RDs] at h
    subst h
    simp [RDs]
  | n + 1, d :: ds, vs, h => by
    simp only [RDs] at h
    obtain ⟨x, xs, e1, h1, h2⟩ := h
    subst e1
    simp only [List.take_succ_cons, RDs]
    exact ⟨x, _, rfl, h1, RDs.take n ds xs h2⟩
theorem RDs.drop : ∀ (n : Nat) (ds : List D) (vs : List V), RDs c ρ H ds vs → RDs c ρ H (ds.drop n) (vs.drop n)
  | 0, ds, vs, h => h
  | n + 1, [], vs, h => by
    simp only [RDs] at h
    subst h
    simp [RDs]
  | n + 1, d :: ds, vs, h => by
    simp only [RDs] at h
    obtain ⟨x, xs, e1, h1, h2⟩ := h
    subst e1
    exact RDs.drop n ds xs h2
theorem RDs.reverse : ∀ (ds : List D) (vs : List V), RDs c ρ H ds vs → RDs c ρ H ds.reverse vs.reverse
  | [], vs, h => by
    simp only [RDs] at h
    subst h
    simp [RDs]
  | d :: ds, vs, h => by
    simp only [RDs] at h
    obtain ⟨x, xs, e1, h1, h2⟩ := h
    subst e1
    simp only [List.reverse_cons]
    exact RDs.append _ _ _ _ (RDs.reverse ds xs h2) (by simp only [RDs]; exact ⟨x, [], rfl, h1, rfl⟩)
theorem RDs.one {d : D} {v : V} (h : RD c ρ H d v) : RDs c ρ H [d] [v] := by simp only [RDs]; exact ⟨v, [], rfl, h, rfl⟩

/-- a new tracked object that is no mutable one of ours -/
theorem Ext.new {p : Addr} {o : HO} (hn : H p = none) : Ext ρ H ρ (upd H p o) :=
  ⟨⟨[], by simp⟩, fun a xs h => by rw [upd_ne (ne_of_none h hn)]; exact h, fun a o xs h => by rw [upd_ne (ne_of_none h hn)]; exact h, fun a vs h => by rw [upd_ne (ne_of_none h hn)]; exact h⟩
theorem Rep.ext {M : DM} (r : Rep c ρ M H) (e : Ext ρ H ρ H') (same : ∀ a, a ∈ ρ → H' a = H a) : Rep c ρ M H' :=
  ⟨r.len, r.nd, fun i mo a h1 h2 => (r.at_ i mo a h1 h2).mono e (same a (List.mem_of_getElem? h2))⟩
theorem Rep.there {M : DM} (r : Rep c ρ M H) {a : Addr} (h : a ∈ ρ) : ∃ o, H a = some o ∧ Mut (H a) := by
  obtain ⟨i, hi⟩ := List.mem_iff_getElem?.mp h
  have hl := (List.getElem?_eq_some_iff.mp hi).1
  have hl' : i < M.length := r.len ▸ hl
  have hm : M[i]? = some (M[i]'hl') := List.getElem?_eq_getElem hl'
  have q := r.at_ i _ a hm hi
  obtain ⟨o, e⟩ := q.there
  exact ⟨o, e, q.mut⟩
theorem Rep.new {M : DM} {p : Addr} {o : HO} (r : Rep c ρ M H) (hn : H p = none) : Rep c ρ M (upd H p o) :=
  r.ext (Ext.new hn) fun a ha => by
    obtain ⟨u, e, _⟩ := r.there ha
    exact upd_ne (ne_of_none e hn)
/-- a new mutable object of ours -/
theorem Ext.alloc {p : Addr} {o : HO} (hn : H p = none) : Ext ρ H (ρ ++ [p]) (upd H p o) :=
  ⟨⟨[p], rfl⟩, fun a xs h => by rw [upd_ne (ne_of_none h hn)]; exact h, fun a o xs h => by rw [upd_ne (ne_of_none h hn)]; exact h, fun a vs h => by rw [upd_ne (ne_of_none h hn)]; exact h⟩
theorem Rep.grow {M : DM} {p : Addr} {mo : MO} (r : Rep c ρ M H) (e : Ext ρ H (ρ ++ [p]) H') (same : ∀ a, a ∈ ρ → H' a = H a) (hp : p ∉ ρ) (h : RO c (ρ ++ [p]) H' p mo) : Rep c (ρ ++ [p]) (M ++ [mo]) H' := by
  refine ⟨by simp [r.len], ?_, fun i mo' a h1 h2 => ?_⟩
  · refine List.nodup_append.mpr ⟨r.nd, by simp, fun a ha b hb => ?_⟩
    simp at hb
    subst hb
    rintro rfl
    exact hp ha
  · by_cases hi : i < M.length
    · rw [List.getElem?_append_left hi] at h1
      rw [List.getElem?_append_left (r.len ▸ hi)] at h2
      exact (r.at_ i mo' a h1 h2).mono e (same a (List.mem_of_getElem? h2))
    · have hi' : i = M.length := by
        have := (List.getElem?_eq_some_iff.mp h1).1
        simp at this
        omega
      subst hi'
      rw [List.getElem?_append_right (Nat.le_refl _)] at h1
      rw [← r.len, List.getElem?_append_right (Nat.le_refl _)] at h2
      simp at h1 h2
      subst h1 h2
      exact h
theorem Rep.fresh {M : DM} {p : Addr} (r : Rep c ρ M H) (hn : H p = none) : p ∉ ρ := fun h => by
  obtain ⟨o, e, _⟩ := r.there h
  rw [hn] at e
  cases e
theorem Rep.alloc {M : DM} {p : Addr} {o : HO} {mo : MO} (r : Rep c ρ M H) (hn : H p = none) (h : RO c (ρ ++ [p]) (upd H p o) p mo) : Rep c (ρ ++ [p]) (M ++ [mo]) (upd H p o) :=
  r.grow (Ext.alloc hn) (fun a ha => by
    obtain ⟨u, e, _⟩ := r.there ha
    exact upd_ne (ne_of_none e hn)) (r.fresh hn) h
theorem RD.new {M : DM} (r : Rep c ρ M H) {p : Addr} : RD c (ρ ++ [p]) H' (.obj M.length) (.ref p) := by
  simp only [RD]
  exact ⟨p, rfl, by rw [← r.len]; simp⟩
/-- a mutable object changes -/
theorem Ext.write {p : Addr} {o : HO} (m : Mut (H p)) : Ext ρ H ρ (upd H p o) :=
  ⟨⟨[], by simp⟩, fun a xs h => by rw [upd_ne (fun z => by subst z; rw [h] at m; exact m)]; exact h, fun a o xs h => by rw [upd_ne (fun z => by subst z; rw [h] at m; exact m)]; exact h, fun a vs h => by rw [upd_ne (fun z => by subst z; rw [h] at m; exact m)]; exact h⟩
theorem Rep.write {M : DM} {i : Nat} {p : Addr} {o : HO} {mo : MO} (r : Rep c ρ M H) (hp : ρ[i]? = some p) (h : RO c ρ (upd H p o) p mo) : Rep c ρ (M.set i mo) (upd H p o) := by
  have m := (r.there (List.mem_of_getElem? hp)).choose_spec.2
  refine ⟨by simp [r.len], r.nd, fun j mo' a h1 h2 => ?_⟩
  by_cases hj : j = i
  · subst hj
    rw [hp] at h2
    cases h2
    have hl := (List.getElem?_eq_some_iff.mp hp).1
    rw [List.getElem?_set_self (r.len ▸ hl)] at h1
    cases h1
    exact h
  · rw [List.getElem?_set_ne (Ne.symm hj)] at h1
    refine (r.at_ j mo' a h1 h2).mono (Ext.write m) (upd_ne fun z => ?_)
    subst z
    exact hj (nodup_ix' r.nd h2 hp)
where
  nodup_ix' {N : List Addr} (hN : N.Nodup) {i j : Nat} {x : Addr} (a : N[i]? = some x) (b : N[j]? = some x) : i = j := by
    obtain ⟨h1, e1⟩ := List.getElem?_eq_some_iff.mp a
    obtain ⟨h2, e2⟩ := List.getElem?_eq_some_iff.mp b
    exact (List.getElem_inj hN).mp (e1.trans e2.symm)
end

/-! ### what is wanted behind a denotation -/
section
variable {c : Ctx} {α β : Type}
def Post (c : Ctx) (E : XK) (ρ : List Addr) (H : Hp) (R : List Addr → Hp → α → β → Prop) (Q : β → Hp → Prop) : Rs α → Prop
  | .ok a M => ∀ ρ' H' b, Ext ρ H ρ' H' → Rep c ρ' M H' → R ρ' H' a b → Q b H'
  | .ex e M => ∀ ρ' H' cls od, Ext ρ H ρ' H' → Rep c ρ' M H' → RX c ρ' H' e cls od → E cls od H'
  | .bad => False
theorem Post.mono {E : XK} {ρ ρ' : List Addr} {H H' : Hp} {R : List Addr → Hp → α → β → Prop} {Q : β → Hp → Prop} {r : Rs α} (e : Ext ρ H ρ' H') (h : Post c E ρ H R Q r) : Post c E ρ' H' R Q r := by
  cases r with
  | ok a M => exact fun ρ2 H2 b e2 => h ρ2 H2 b (e.trans e2)
  | ex x M => exact fun ρ2 H2 cls od e2 => h ρ2 H2 cls od (e.trans e2)
  | bad => exact h
/-- a reading that does what a function says -/
def Sim (c : Ctx) (W : WX) (R : List Addr → Hp → α → β → Prop) (t : St → Hp → (β → Hp → Prop) → Prop) (f : DSt → DM → Rs α) : Prop :=
  ∀ ρ M H δ σ Q, Rep c ρ M H → RS c ρ H δ σ → Post c (WE W σ) ρ H R Q (f δ M) → t σ H Q
theorem Sim.bind {α' β' : Type} {W : WX} {R : List Addr → Hp → α → β → Prop} {t : St → Hp → (β → Hp → Prop) → Prop} {f : DSt → DM → Rs α} (S : Sim c W R t f)
    {ρ : List Addr} {M : DM} {H : Hp} {δ : DSt} {σ : St} {R' : List Addr → Hp → α' → β' → Prop} {Q : β' → Hp → Prop} {k : α → DM → Rs α'} {T : β → Hp → Prop} (P : Rep c ρ M H) (s : RS c ρ H δ σ)
    (h : Post c (WE W σ) ρ H R' Q ((f δ M).bind k))
    (hk : ∀ a M1 ρ1 H1 b, Ext ρ H ρ1 H1 → Rep c ρ1 M1 H1 → RS c ρ1 H1 δ σ → R ρ1 H1 a b → f δ M = .ok a M1 → Post c (WE W σ) ρ1 H1 R' Q (k a M1) → T b H1) : t σ H T := by
  refine S ρ M H δ σ T P s ?_
  cases e : f δ M with
  | ok a M1 =>
    rw [e] at h
    intro ρ1 H1 b e1 P1 r1
    exact hk a M1 ρ1 H1 b e1 P1 (s.mono e1) r1 e (Post.mono e1 h)
  | ex x M1 =>
    rw [e] at h
    exact h
  | bad =>
    rw [e] at h
    exact h
def PostS (c : Ctx) (W : WX) (ρ : List Addr) (H : Hp) (Dn : Ends) : Ro → Prop
  | .nx δ M => ∀ ρ' H' σ', Ext ρ H ρ' H' → Rep c ρ' M H' → RS c ρ' H' δ σ' → Dn.nx σ' H'
  | .rt d M => ∀ ρ' H' v, Ext ρ H ρ' H' → Rep c ρ' M H' → RD c ρ' H' d v → Dn.rt v H'
  | .bk δ M => ∀ ρ' H' σ', Ext ρ H ρ' H' → Rep c ρ' M H' → RS c ρ' H' δ σ' → Dn.bk σ' H'
  | .ct δ M => ∀ ρ' H' σ', Ext ρ H ρ' H' → Rep c ρ' M H' → RS c ρ' H' δ σ' → Dn.ct σ' H'
  | .ex e δ M => ∀ ρ' H' σ' cls od, Ext ρ H ρ' H' → Rep c ρ' M H' → RS c ρ' H' δ σ' → RX c ρ' H' e cls od → W cls od σ' H'
  | .bad => False
theorem PostS.mono {W : WX} {ρ ρ' : List Addr} {H H' : Hp} {Dn : Ends} {r : Ro} (e : Ext ρ H ρ' H') (h : PostS c W ρ H Dn r) : PostS c W ρ' H' Dn r := by
  cases r with
  | nx δ M => exact fun ρ2 H2 b e2 => h ρ2 H2 b (e.trans e2)
  | rt δ M => exact fun ρ2 H2 b e2 => h ρ2 H2 b (e.trans e2)
  | bk δ M => exact fun ρ2 H2 b e2 => h ρ2 H2 b (e.trans e2)
  | ct δ M => exact fun ρ2 H2 b e2 => h ρ2 H2 b (e.trans e2)
  | ex x δ M => exact fun ρ2 H2 s cls od e2 => h ρ2 H2 s cls od (e.trans e2)
  | bad => exact h
def SimS (c : Ctx) (W : WX) (t : TS) (f : FS) : Prop :=
  ∀ ρ M H δ σ Dn, Rep c ρ M H → RS c ρ H δ σ → PostS c W ρ H Dn (f δ M) → t Dn σ H
/-- an expression within a statement -/
theorem Sim.ro {W : WX} {R : List Addr → Hp → α → β → Prop} {t : St → Hp → (β → Hp → Prop) → Prop} {f : DSt → DM → Rs α} (S : Sim c W R t f)
    {ρ : List Addr} {M : DM} {H : Hp} {δ : DSt} {σ : St} {Dn : Ends} {k : α → DM → Ro} {T : β → Hp → Prop} (P : Rep c ρ M H) (s : RS c ρ H δ σ)
    (h : PostS c W ρ H Dn ((f δ M).ro δ k))
    (hk : ∀ a M1 ρ1 H1 b, Ext ρ H ρ1 H1 → Rep c ρ1 M1 H1 → RS c ρ1 H1 δ σ → R ρ1 H1 a b → f δ M = .ok a M1 → PostS c W ρ1 H1 Dn (k a M1) → T b H1) : t σ H T := by
  refine S ρ M H δ σ T P s ?_
  cases e : f δ M with
  | ok a M1 =>
    rw [e] at h
    intro ρ1 H1 b e1 P1 r1
    exact hk a M1 ρ1 H1 b e1 P1 (s.mono e1) r1 e (PostS.mono e1 h)
  | ex x M1 =>
    rw [e] at h
    intro ρ1 H1 cls od e1 P1 rx
    exact h ρ1 H1 σ cls od e1 P1 (s.mono e1) rx
  | bad =>
    rw [e] at h
    exact h
end
abbrev RB : List Addr → Hp → Bool → Bool → Prop := fun _ _ a b => a = b

/-! ### where one stands, and the judgements -/
structure Rm (k : Nat) (A : Around) : Prop where
  dp : A.depth + 3 * k + 5 < recursionLimit
  un : A.units + 16 * k + 200 < cLine
/-- where no exception is handled -/
structure Cold (X : Cx) : Prop where
  calm : X.calm = true
  hd : X.A.handled = none
structure In (c : Ctx) (X : Cx) (W : WX) (k : Nat) (N : List Str) (sc : Scope) : Prop where
  hP : X.prog = c.P
  hw : X.w = c.w
  hK : X.K = c.K
  hmg : X.mg = c.mg
  hb : X.base = c.base
  hN : X.N = N
  nd : N.Nodup
  hsc : X.env.scope = sc
  room : Rm k X.A
  take : Takes X W
  own : PassesOwn (model X.prog X.w) X.A X.env X.xe
/-- for statements: a def's own frame -/
structure InS (c : Ctx) (X : Cx) (W : WX) (k : Nat) (N : List Str) (sc : Scope) : Prop extends In c X W k N sc where
  hfn : ∀ x, X.fn x = true
  hst : X.stack = X.env :: X.outer
  hfr : X.env.frame = some X.env.locals
  hex : X.ex = []
/-- a local name at slot i -/
structure Nm (N : List Str) (sc : Scope) (i : Nat) (x : Str) : Prop where
  at_ : N[i]? = some x
  loc : sc.names.lookup x = some .local ∨ sc.names.lookup x = some .cell
  db : (x == ("__debug__" : Str)) = false
  cd : (x == ("__classdict__" : Str)) = false
/-- a module's or built-in name -/
structure Gn (sc : Scope) (x : Str) : Prop where
  gl : sc.names.lookup x = some .globalImplicit
  db : (x == ("__debug__" : Str)) = false

section
variable {c : Ctx} {X : Cx} {W : WX}
def VE (c : Ctx) (X : Cx) (W : WX) (e : Expr) (f : FE) : Prop := ∃ t, PE X e t ∧ Sim c W (RD c) t f
def VT (c : Ctx) (X : Cx) (W : WX) (e : Expr) (f : FT) : Prop := ∃ t, PT X e t ∧ Sim c W RB t f
def VW (c : Ctx) (X : Cx) (W : WX) (e : Expr) (f : FT) : Prop := ∃ t, PW X e t ∧ Sim c W RB t f
def VA (c : Ctx) (X : Cx) (W : WX) (es : List Expr) (f : FA) : Prop := (∃ t, PA X es t ∧ Sim c W (RDs c) t f) ∧ ∀ δ M ds M', f δ M = .ok ds M' → ds.length = es.length
def VS (c : Ctx) (X : Cx) (W : WX) (st : Stmt) (f : FS) : Prop := ∃ t, PS X st t ∧ SimS c W t f
def VSs (c : Ctx) (X : Cx) (W : WX) (st : List Stmt) (f : FS) : Prop := ∃ t, PSs X st t ∧ SimS c W t f
end

/-! ### names and constants -/
def eVar (i : Nat) : FE := fun δ M => match δ[i]? with
  | some (some d) => .ok d M
  | _ => .bad
def eC (d : D) : FE := fun _ M => .ok d M
section
variable {c : Ctx} {X : Cx} {W : WX} {k : Nat} {N : List Str} {sc : Scope}
theorem Cold.room (C : Cold X) (I : In c X W k N sc) : Room k X.A := ⟨C.hd, I.room.dp, I.room.un⟩
theorem In.loc (I : In c X W k N sc) {i : Nat} {x : Str} (n : Nm N sc i x) : Loc X.env.scope x := by
  rw [I.hsc]; exact n.loc
theorem In.vis (I : In c X W k N sc) {i : Nat} {x : Str} (n : Nm N sc i x) : Vis X.env.scope x := by
  rcases I.loc n with h | h
  · exact .inl h
  · exact .inr (.inl h)
theorem In.gl (I : In c X W k N sc) {x : Str} (n : Gn sc x) : Gl X x := by
  show X.env.scope.names.lookup x = _
  rw [I.hsc]; exact n.gl
theorem ve_var (I : In c X W k N sc) {i : Nat} {x : Str} {pos : Pos} (n : Nm N sc i x) : VE c X W (.Name x pos) (eVar i) := by
  refine ⟨_, pe_var (by rw [I.hN]; exact n.at_) (I.vis n) n.db n.cd, ?_⟩
  intro ρ M H δ σ Q P s h
  show ∃ v, σ[i]? = some (some v) ∧ Q v H
  unfold eVar at h
  split at h
  · rename_i d e
    obtain ⟨v, h1, h2⟩ := s.get i d e
    exact ⟨v, h1, h ρ H v .refl P h2⟩
  · exact h.elim
theorem ve_c {e : Expr} {v : V} {d : D} (h : PE X e (tC v)) (r : ∀ ρ H, RD c ρ H d v) : VE c X W e (eC d) := by
  refine ⟨_, h, ?_⟩
  intro ρ M H δ σ Q P s h
  exact h ρ H v .refl P (r ρ H)
theorem ve_int {i : Int} {j : Nat} {pos : Pos} : VE c X W (.Constant (.int i) j pos) (eC (.int i)) := ve_c pe_int fun _ _ => by simp only [RD]
theorem ve_bl {i : Bool} {j : Nat} {pos : Pos} : VE c X W (.Constant (.bool i) j pos) (eC (.bl i)) := ve_c pe_bl fun _ _ => by simp only [RD]
theorem ve_non {j : Nat} {pos : Pos} : VE c X W (.Constant .none j pos) (eC .non) := ve_c pe_non fun _ _ => by simp only [RD]
theorem ve_str {x : Str} {j : Nat} {pos : Pos} : VE c X W (.Constant (.str x) j pos) (eC (.str x)) := ve_c pe_str fun _ _ => by simp only [RD]
/-- a constant of the module -/
structure Glob (c : Ctx) (x : Str) (d : D) : Prop where
  ex : ∃ v u, c.mg x = some u ∧ RelV v u ∧ ∀ ρ H, RD c ρ H d v
theorem ve_glob (I : In c X W k N sc) {x : Str} {d : D} {pos : Pos} (n : Gn sc x) (g : Glob c x d) : VE c X W (.Name x pos) (eC d) := by
  obtain ⟨v, u, h1, h2, h3⟩ := g.ex
  exact ve_c (pe_glob (I.gl n) (by rw [I.hmg]; exact h1) h2 n.db) h3
/-- a built-in type's name as a value -/
theorem ve_bty (I : In c X W k N sc) {x : Str} {T : String} {pos : Pos} (n : Gn sc x) (hm : c.mg x = none) (hv : bootBuiltins x = some (.type T)) (hn : x ≠ "__name__" := by decide) : VE c X W (.Name x pos) (eC (.ty T)) :=
  ve_c (v := .ty T) (pe_bltn (I.gl n) (by rw [I.hmg]; exact hm) hv rfl hn n.db) fun _ _ => by simp only [RD]
end

/-! ### one, two parts -/
def e1 (op : D → DM → Rs D) (a : FE) : FE := fun δ M => (a δ M).bind op
def e2 (op : D → D → DM → Rs D) (a b : FE) : FE := fun δ M => (a δ M).bind fun x M1 => (b δ M1).bind fun y M2 => op x y M2
/-- an operation by values that does what a function says -/
def Op1 (c : Ctx) (W : WX) (r : V → Hp → VK → Prop) (op : D → DM → Rs D) : Prop :=
  ∀ ρ M H σ x v Q, Rep c ρ M H → RD c ρ H x v → Post c (WE W σ) ρ H (RD c) Q (op x M) → r v H Q
def Op2 (c : Ctx) (W : WX) (r : V → V → Hp → VK → Prop) (op : D → D → DM → Rs D) : Prop :=
  ∀ ρ M H σ x y v u Q, Rep c ρ M H → RD c ρ H x v → RD c ρ H y u → Post c (WE W σ) ρ H (RD c) Q (op x y M) → r v u H Q
section
variable {c : Ctx} {X : Cx} {W : WX} {k : Nat} {N : List Str} {sc : Scope} {a b : Expr} {fa fb : FE} {pos : Pos}
theorem sim2 {ta tb : TE} {r : R2} {op : D → D → DM → Rs D} (ha : Sim c W (RD c) ta fa) (hb : Sim c W (RD c) tb fb) (ho : Op2 c W r op) : Sim c W (RD c) (tOp r ta tb) (e2 op fa fb) := by
  intro ρ M H δ σ Q P s h
  refine ha.bind P s h fun x M1 ρ1 H1 v e1 P1 s1 r1 _ h1 => ?_
  refine hb.bind P1 s1 h1 fun y M2 ρ2 H2 u e2 P2 s2 r2 _ h2 => ?_
  exact ho ρ2 M2 H2 σ x y v u Q P2 (RD.mono e2 _ _ r1) r2 h2
theorem sim1 {ta : TE} {r : V → Hp → VK → Prop} {op : D → DM → Rs D} (ha : Sim c W (RD c) ta fa) (ho : Op1 c W r op) : Sim c W (RD c) (tUn r ta) (e1 op fa) := by
  intro ρ M H δ σ Q P s h
  refine ha.bind P s h fun x M1 ρ1 H1 v e1 P1 s1 r1 _ h1 => ?_
  exact ho ρ1 M1 H1 σ x v Q P1 r1 h1
theorem ve_op {op : Operator} {r : R2} {g : D → D → DM → Rs D} (ho : OpR X (binaryOp op) r) (hg : Op2 c W r g) (ha : VE c X W a fa) (hb : VE c X W b fb) : VE c X W (.BinOp a op b pos) (e2 g fa fb) := by
  obtain ⟨ta, pa, sa⟩ := ha
  obtain ⟨tb, pb, sb⟩ := hb
  exact ⟨_, pe_op ho pa pb, sim2 (ta := ta) (tb := tb) sa sb hg⟩
theorem ve_cmp {op : CmpOp} {r : R2} {g : D → D → DM → Rs D} (ho : OpR X (compareOp op) r) (hg : Op2 c W r g) (ha : VE c X W a fa) (hb : VE c X W b fb) (hm : behindInMarks op b = false) : VE c X W (.Compare a [op] [b] pos) (e2 g fa fb) := by
  obtain ⟨ta, pa, sa⟩ := ha
  obtain ⟨tb, pb, sb⟩ := hb
  exact ⟨_, pe_cmpR ho pa pb hm, sim2 sa sb hg⟩
/-- a truth value as a test -/
def tb (f : FE) : FT := fun δ M => (f δ M).bind fun x M1 => match x with
  | .bl b => .ok b M1
  | _ => .bad
theorem sim_tb {t : TE} {f : FE} (h : Sim c W (RD c) t f) : Sim c W RB (tTest t) (tb f) := by
  intro ρ M H δ σ Q P s q
  refine h.bind P s q fun x M1 ρ1 H1 v e1 P1 s1 r1 _ h1 => ?_
  cases x with
  | bl b =>
    simp only [RD] at r1
    subst r1
    exact ⟨b, rfl, h1 ρ1 H1 b .refl P1 rfl⟩
  | _ => exact h1.elim
theorem vt_cmp {op : CmpOp} {r : R2} {g : D → D → DM → Rs D} (ho : OpR X (compareOp op) r) (hg : Op2 c W r g) (ha : VE c X W a fa) (hb : VE c X W b fb) (hm : behindInMarks op b = false) : VT c X W (.Compare a [op] [b] pos) (tb (e2 g fa fb)) := by
  obtain ⟨ta, pa, sa⟩ := ha
  obtain ⟨tb, pb, sb⟩ := hb
  exact ⟨_, pt_cmpR ho pa pb hm, sim_tb (sim2 sa sb hg)⟩
theorem vt_val {f : FE} (h : VE c X W a f) (he : ∀ whole, isTrue a X.env whole = (do let v ← whole; standAt a.pos; holding [v] (truthy v)) := by intro _; rfl) : VT c X W a (tb f) := by
  obtain ⟨t, p, s⟩ := h
  exact ⟨_, pt_val p he, sim_tb s⟩
def tNotF (f : FT) : FT := fun δ M => (f δ M).bind fun b M1 => .ok (!b) M1
def tAndF (f g : FT) : FT := fun δ M => (f δ M).bind fun b M1 => if b = true then g δ M1 else .ok false M1
def tOrF (f g : FT) : FT := fun δ M => (f δ M).bind fun b M1 => if b = true then .ok true M1 else g δ M1
theorem vt_not {f : FT} (h : VT c X W a f) : VT c X W (.UnaryOp .Not a pos) (tNotF f) := by
  obtain ⟨t, p, s⟩ := h
  refine ⟨_, pt_not p, fun ρ M H δ σ Q P r q => ?_⟩
  refine s.bind P r q fun x M1 ρ1 H1 v e1 P1 s1 r1 _ h1 => ?_
  cases r1
  exact h1 ρ1 H1 _ .refl P1 rfl
theorem vw_and1 {f : FT} (h : VT c X W a f) : VW c X W (.BoolOp .And [a] pos) f := let ⟨t, p, s⟩ := h; ⟨t, pw_and1 p, s⟩
theorem vw_or1 {f : FT} (h : VT c X W a f) : VW c X W (.BoolOp .Or [a] pos) f := let ⟨t, p, s⟩ := h; ⟨t, pw_or1 p, s⟩
theorem vw_and {rest : List Expr} {f g : FT} (h : VT c X W a f) (h' : VW c X W (.BoolOp .And (b :: rest) pos) g) : VW c X W (.BoolOp .And (a :: b :: rest) pos) (tAndF f g) := by
  obtain ⟨t, p, s⟩ := h
  obtain ⟨t', p', s'⟩ := h'
  refine ⟨_, pw_and p p', fun ρ M H δ σ Q P r q => ?_⟩
  refine s.bind P r q fun x M1 ρ1 H1 v e1 P1 s1 r1 _ h1 => ?_
  cases r1
  cases x with
  | true => rw [if_pos rfl] at h1 ⊢; exact s' ρ1 M1 H1 δ σ Q P1 s1 h1
  | false => rw [if_neg Bool.false_ne_true] at h1 ⊢; exact h1 ρ1 H1 _ .refl P1 rfl
theorem vw_or {rest : List Expr} {f g : FT} (h : VT c X W a f) (h' : VW c X W (.BoolOp .Or (b :: rest) pos) g) : VW c X W (.BoolOp .Or (a :: b :: rest) pos) (tOrF f g) := by
  obtain ⟨t, p, s⟩ := h
  obtain ⟨t', p', s'⟩ := h'
  refine ⟨_, pw_or p p', fun ρ M H δ σ Q P r q => ?_⟩
  refine s.bind P r q fun x M1 ρ1 H1 v e1 P1 s1 r1 _ h1 => ?_
  cases r1
  cases x with
  | true => rw [if_pos rfl] at h1 ⊢; exact h1 ρ1 H1 _ .refl P1 rfl
  | false => rw [if_neg Bool.false_ne_true] at h1 ⊢; exact s' ρ1 M1 H1 δ σ Q P1 s1 h1
theorem VW.vt {e : Expr} {f : FT} (h : VW c X W e f) : VT c X W e f := let ⟨t, p, s⟩ := h; ⟨t, p.pt, s⟩
/-- and, or, not as values: bools -/
def eNot (f : FE) : FE := fun δ M => (f δ M).bind fun x M1 => match x with
  | .bl b => .ok (.bl (!b)) M1
  | _ => .bad
def eAnd (f g : FE) : FE := fun δ M => (f δ M).bind fun x M1 => match x with
  | .bl b => if b = true then g δ M1 else .ok (.bl false) M1
  | _ => .bad
def eOr (f g : FE) : FE := fun δ M => (f δ M).bind fun x M1 => match x with
  | .bl b => if b = true then .ok (.bl true) M1 else g δ M1
  | _ => .bad
theorem ve_one {op : BoolOp} {f : FE} (h : VE c X W a f) : VE c X W (.BoolOp op [a] pos) f := let ⟨t, p, s⟩ := h; ⟨t, pe_one p, s⟩
theorem ve_not {f : FE} (h : VE c X W a f) : VE c X W (.UnaryOp .Not a pos) (eNot f) := by
  obtain ⟨t, p, s⟩ := h
  refine ⟨_, pe_not p, fun ρ M H δ σ Q P r q => ?_⟩
  refine s.bind P r q fun x M1 ρ1 H1 v e1 P1 s1 r1 _ h1 => ?_
  cases x with
  | bl b =>
    simp only [RD] at r1
    subst r1
    exact ⟨b, rfl, h1 ρ1 H1 _ .refl P1 (by simp only [RD])⟩
  | _ => exact h1.elim
theorem ve_and {rest : List Expr} {f g : FE} (h : VE c X W a f) (h' : VE c X W (.BoolOp .And (b :: rest) pos) g) : VE c X W (.BoolOp .And (a :: b :: rest) pos) (eAnd f g) := by
  obtain ⟨t, p, s⟩ := h
  obtain ⟨t', p', s'⟩ := h'
  refine ⟨_, pe_and p p', fun ρ M H δ σ Q P r q => ?_⟩
  refine s.bind P r q fun x M1 ρ1 H1 v e1 P1 s1 r1 _ h1 => ?_
  cases x with
  | bl b =>
    simp only [RD] at r1
    subst r1
    refine ⟨b, rfl, ?_⟩
    cases b with
    | true => simp only [if_true] at h1 ⊢; exact s' ρ1 M1 H1 δ σ Q P1 s1 h1
    | false => simp only [Bool.false_eq_true, if_false] at h1 ⊢; exact h1 ρ1 H1 _ .refl P1 (by simp only [RD])
  | _ => exact h1.elim
theorem ve_or {rest : List Expr} {f g : FE} (h : VE c X W a f) (h' : VE c X W (.BoolOp .Or (b :: rest) pos) g) : VE c X W (.BoolOp .Or (a :: b :: rest) pos) (eOr f g) := by
  obtain ⟨t, p, s⟩ := h
  obtain ⟨t', p', s'⟩ := h'
  refine ⟨_, pe_or p p', fun ρ M H δ σ Q P r q => ?_⟩
  refine s.bind P r q fun x M1 ρ1 H1 v e1 P1 s1 r1 _ h1 => ?_
  cases x with
  | bl b =>
    simp only [RD] at r1
    subst r1
    refine ⟨b, rfl, ?_⟩
    cases b with
    | true => simp only [if_true] at h1 ⊢; exact h1 ρ1 H1 _ .refl P1 (by simp only [RD])
    | false => simp only [Bool.false_eq_true, if_false] at h1 ⊢; exact s' ρ1 M1 H1 δ σ Q P1 s1 h1
  | _ => exact h1.elim
/-- a if t else b -/
def eIf (t : FT) (f g : FE) : FE := fun δ M => (t δ M).bind fun b M1 => if b = true then f δ M1 else g δ M1
theorem ve_if {e : Expr} {t : FT} {f g : FE} (ht : VT c X W e t) (ha : VE c X W a f) (hb : VE c X W b g) : VE c X W (.IfExp e a b pos) (eIf t f g) := by
  obtain ⟨t, p, s⟩ := ht
  obtain ⟨t1, p1, s1⟩ := ha
  obtain ⟨t2, p2, s2⟩ := hb
  refine ⟨_, pe_ifExp p p1 p2, fun ρ M H δ σ Q P r q => ?_⟩
  refine s.bind P r q fun x M1 ρ1 H1 v e1 P1 r1 q1 _ h1 => ?_
  cases q1
  cases x with
  | true => rw [if_pos rfl] at h1 ⊢; exact s1 ρ1 M1 H1 δ σ Q P1 r1 h1
  | false => rw [if_neg Bool.false_ne_true] at h1 ⊢; exact s2 ρ1 M1 H1 δ σ Q P1 r1 h1

/-! ### argument lists, displays -/
def aNil : FA := fun _ M => .ok [] M
def aCons (f : FE) (g : FA) : FA := fun δ M => (f δ M).bind fun x M1 => (g δ M1).bind fun xs M2 => .ok (x :: xs) M2
theorem va_nil : VA c X W [] aNil := by
  refine ⟨⟨_, pa_nil, fun ρ M H δ σ Q P r q => ?_⟩, fun δ M ds M' h => ?_⟩
  · exact q ρ H [] .refl P (by simp only [RDs])
  · cases h; rfl
theorem va_cons {es : List Expr} {f : FE} {g : FA} (h : VE c X W a f) (h' : VA c X W es g) (hs : starEach (a :: es) X.env = (false, eval a X.env) :: starEach es X.env := by rfl) : VA c X W (a :: es) (aCons f g) := by
  obtain ⟨t, p, s⟩ := h
  obtain ⟨⟨t', p', s'⟩, hl⟩ := h'
  refine ⟨⟨_, pa_cons p p' hs, fun ρ M H δ σ Q P r q => ?_⟩, fun δ M ds M' h => ?_⟩
  · refine s.bind P r q fun x M1 ρ1 H1 v e1 P1 s1 r1 _ h1 => ?_
    refine s'.bind P1 s1 h1 fun xs M2 ρ2 H2 vs e2 P2 s2 r2 _ h2 => ?_
    exact h2 ρ2 H2 (v :: vs) .refl P2 (by simp only [RDs]; exact ⟨v, vs, rfl, RD.mono e2 _ _ r1, r2⟩)
  · unfold aCons at h
    cases e : f δ M with
    | ok x M1 =>
      rw [e] at h
      simp only [Rs.bind] at h
      cases e' : g δ M1 with
      | ok xs M2 =>
        rw [e'] at h
        cases h
        rw [List.length_cons, List.length_cons, hl _ _ _ _ e']
      | ex x M2 => rw [e'] at h; cases h
      | bad => rw [e'] at h; cases h
    | ex x M1 => rw [e] at h; cases h
    | bad => rw [e] at h; cases h
def eTup (f : FA) : FE := fun δ M => (f δ M).bind fun xs M1 => .ok (.tup xs) M1
def eLst (f : FA) : FE := fun δ M => (f δ M).bind fun xs M1 => .ok (.obj M1.length) (M1 ++ [.lst xs])
theorem post_tup {E : XK} {ρ : List Addr} {M : DM} {H : Hp} {Q : VK} {ds : List D} {xs : List V} {p : Addr} (P : Rep c ρ M H) (r : RDs c ρ H ds xs) (hp : H p = none) (h : Post c E ρ H (RD c) Q (.ok (.tup ds) M)) : Q (.ref p) (upd H p (.tup xs)) :=
  h ρ _ (.ref p) (.new hp) (P.new hp) (by simp only [RD]; exact ⟨p, xs, rfl, .inl upd_same, RDs.mono (.new hp) _ _ r⟩)
theorem post_lst {E : XK} {ρ : List Addr} {M : DM} {H : Hp} {Q : VK} {ds : List D} {xs : List V} {p : Addr} (P : Rep c ρ M H) (r : RDs c ρ H ds xs) (hp : H p = none) (h : Post c E ρ H (RD c) Q (.ok (.obj M.length) (M ++ [.lst ds]))) : Q (.ref p) (upd H p (.lst xs)) :=
  h (ρ ++ [p]) _ (.ref p) (.alloc hp) (P.alloc hp ⟨xs, upd_same, RDs.mono (.alloc hp) _ _ r⟩) (RD.new P)
theorem small_len {n : Nat} (h : n ≤ 1000) : n ≤ sizeLine := by rw [sizeLine_eq]; omega
theorem ve_tup {es : List Expr} {x1 : Nat} {f : FA} (h : VA c X W es f) (hl : es.length ≤ 1000 := by decide) : VE c X W (.Tuple es x1 pos) (eTup f) := by
  obtain ⟨⟨t, p, s⟩, hn⟩ := h
  refine ⟨_, pe_tup p, fun ρ M H δ σ Q P r q => ?_⟩
  refine s.bind P r q fun xs M1 ρ1 H1 vs e1 P1 s1 r1 e h1 => ?_
  have z : vs.length = es.length := by rw [← RDs.len _ _ r1, hn _ _ _ _ e]
  exact ⟨by rw [z]; exact small_len hl, fun p hp => post_tup P1 r1 hp h1⟩
theorem ve_lst {es : List Expr} {f : FA} (h : VA c X W es f) (hl : es.length ≤ 1000 := by decide) : VE c X W (.List es pos) (eLst f) := by
  obtain ⟨⟨t, p, s⟩, hn⟩ := h
  refine ⟨_, pe_lst p, fun ρ M H δ σ Q P r q => ?_⟩
  refine s.bind P r q fun xs M1 ρ1 H1 vs e1 P1 s1 r1 e h1 => ?_
  have z : vs.length = es.length := by rw [← RDs.len _ _ r1, hn _ _ _ _ e]
  exact ⟨by rw [z]; exact small_len hl, fun p hp => post_lst P1 r1 hp h1⟩
end
end DL

set_option Elab.async false
set_option linter.all false
set_option maxRecDepth 100000
set_option maxHeartbeats 2000000
namespace DL
open PySem PySem.Spec L2
open PyProof.Rows hiding St

/-! ### == of data -/
section
variable (M : DM)
def toPy : Nat → D → Option PyData
  | _, .non => some .none
  | _, .bl b => some (.bool b)
  | _, .int i => some (.int i)
  | _, .str s => some (.str s)
  | 0, _ => none
  | n + 1, .tup ds => (ds.mapM (toPy n)).map .tuple
  | n + 1, .rol ds => (ds.mapM (toPy n)).map .list
  | n + 1, .obj i => match M[i]? with
    | some (.lst ds) => (ds.mapM (toPy n)).map .list
    | _ => none
  | _ + 1, .cl _ => none
  | _ + 1, .ty _ => none
end
theorem mapM_cons_some {f : D → Option PyData} {d : D} {ds : List D} {ps : List PyData} (h : (d :: ds).mapM f = some ps) : ∃ p qs, f d = some p ∧ ds.mapM f = some qs ∧ ps = p :: qs := by
  rw [List.mapM_cons] at h
  cases e : f d with
  | none => rw [e] at h; cases h
  | some p =>
    rw [e] at h
    cases e' : ds.mapM f with
    | none => rw [e'] at h; cases h
    | some qs => rw [e'] at h; cases h; exact ⟨p, qs, rfl, rfl, rfl⟩
section
variable {c : Ctx} {ρ : List Addr} {M : DM} {H : Hp}
theorem toPy_all {n : Nat} (ih : ∀ (d : D) (p : PyData) (v : V), toPy M n d = some p → RD c ρ H d v → Dp c.K H v p ∧ p.plain = true ∧ p.depth ≤ n) :
    ∀ (ds : List D) (ps : List PyData) (vs : List V), ds.mapM (toPy M n) = some ps → RDs c ρ H ds vs → DpAll c.K H vs ps ∧ PyData.plainAll ps = true ∧ PyData.depthAll ps ≤ n
  | [], ps, vs, h, r => by
    cases h
    simp only [RDs] at r
    subst r
    exact ⟨.nil, rfl, Nat.zero_le _⟩
  | d :: ds, ps, vs, h, r => by
    obtain ⟨p, qs, h1, h2, rfl⟩ := mapM_cons_some h
    simp only [RDs] at r
    obtain ⟨x, xs, rfl, r1, r2⟩ := r
    obtain ⟨a1, a2, a3⟩ := ih d p x h1 r1
    obtain ⟨b1, b2, b3⟩ := toPy_all ih ds qs xs h2 r2
    refine ⟨.cons a1 b1, ?_, ?_⟩
    · simp only [PyData.plainAll, a2, b2, Bool.and_self]
    · show max p.depth (PyData.depthAll qs) ≤ n
      omega
theorem toPy_ok (P : Rep c ρ M H) : ∀ (n : Nat) (d : D) (p : PyData) (v : V), toPy M n d = some p → RD c ρ H d v → Dp c.K H v p ∧ p.plain = true ∧ p.depth ≤ n := by
  have lst : ∀ {n : Nat} {ds : List D} {p : PyData} {a : Addr} {xs : List V} (ih : ∀ (d : D) (p : PyData) (v : V), toPy M n d = some p → RD c ρ H d v → Dp c.K H v p ∧ p.plain = true ∧ p.depth ≤ n),
      (ds.mapM (toPy M n)).map PyData.list = some p → SqL c.K H a xs → RDs c ρ H ds xs → Dp c.K H (.ref a) p ∧ p.plain = true ∧ p.depth ≤ n + 1 := by
    intro n ds p a xs ih h hs r
    cases e : ds.mapM (toPy M n) with
    | none => rw [e] at h; cases h
    | some ps =>
      rw [e] at h
      cases h
      obtain ⟨b1, b2, b3⟩ := toPy_all ih ds ps xs e r
      exact ⟨.lst hs b1, b2, by show PyData.depthAll ps + 1 ≤ n + 1; omega⟩
  intro n
  induction n with
  | zero =>
    intro d p v h r
    cases d with
    | non => cases h; simp only [RD] at r; subst r; exact ⟨.non, rfl, Nat.zero_le _⟩
    | bl b => cases h; simp only [RD] at r; subst r; exact ⟨.bl b, rfl, Nat.zero_le _⟩
    | int i => cases h; simp only [RD] at r; subst r; exact ⟨.int i, rfl, Nat.zero_le _⟩
    | str s => cases h; simp only [RD] at r; subst r; exact ⟨.str s, rfl, Nat.zero_le _⟩
    | _ => cases h
  | succ n ih =>
    intro d p v h r
    cases d with
    | non => cases h; simp only [RD] at r; subst r; exact ⟨.non, rfl, Nat.zero_le _⟩
    | bl b => cases h; simp only [RD] at r; subst r; exact ⟨.bl b, rfl, Nat.zero_le _⟩
    | int i => cases h; simp only [RD] at r; subst r; exact ⟨.int i, rfl, Nat.zero_le _⟩
    | str s => cases h; simp only [RD] at r; subst r; exact ⟨.str s, rfl, Nat.zero_le _⟩
    | tup ds =>
      simp only [RD] at r
      obtain ⟨a, xs, rfl, h1, h2⟩ := r
      cases e : ds.mapM (toPy M n) with
      | none => simp only [toPy, e] at h; cases h
      | some ps =>
        simp only [toPy, e] at h
        cases h
        obtain ⟨b1, b2, b3⟩ := toPy_all ih ds ps xs e h2
        exact ⟨.tup h1.sq b1, b2, by show PyData.depthAll ps + 1 ≤ n + 1; omega⟩
    | rol ds =>
      simp only [RD] at r
      obtain ⟨a, xs, rfl, h1, h2⟩ := r
      exact lst ih h h1.sq h2
    | obj i =>
      simp only [RD] at r
      obtain ⟨a, rfl, h1⟩ := r
      simp only [toPy] at h
      cases e : M[i]? with
      | none => rw [e] at h; cases h
      | some mo =>
        rw [e] at h
        cases mo with
        | lst ds =>
          obtain ⟨xs, q1, q2⟩ := P.at_ i _ a e h1
          exact lst ih h (.of q1) q2
        | _ => cases h
    | _ => cases h
end
def eqD (x y : D) (M : DM) : Rs D := match toPy M 100 x, toPy M 100 y with
  | some p, some q => .ok (.bl (PyData.eqv p q)) M
  | _, _ => .bad
def neD (x y : D) (M : DM) : Rs D := match toPy M 100 x, toPy M 100 y with
  | some p, some q => .ok (.bl (!PyData.eqv p q)) M
  | _, _ => .bad
def anyEq (M : DM) (x : D) (ds : List D) : Option Bool := match toPy M 100 x, ds.mapM (toPy M 100) with
  | some p, some qs => some (qs.any fun q => PyData.eqv q p)
  | _, _ => none
/-- the items of a list or tuple -/
def itemsD (x : D) (M : DM) : Option (List D) := match x with
  | .tup ds => some ds
  | .rol ds => some ds
  | .obj i => match M[i]? with
    | some (.lst ds) => some ds
    | _ => none
  | _ => none
def inSeqD (x y : D) (M : DM) : Rs D := match itemsD y M with
  | some ds => match anyEq M x ds with
    | some b => .ok (.bl b) M
    | none => .bad
  | none => .bad
def ninSeqD (x y : D) (M : DM) : Rs D := match itemsD y M with
  | some ds => match anyEq M x ds with
    | some b => .ok (.bl (!b)) M
    | none => .bad
  | none => .bad
def rEqP (K : PySem.W.Frag) : R2 := fun x y H Q => ∃ d e, Dp K H x d ∧ Dp K H y e ∧ d.plain = true ∧ e.plain = true ∧ d.depth ≤ 100 ∧ Q (.bl (PyData.eqv d e)) H
def rNeP (K : PySem.W.Frag) : R2 := fun x y H Q => ∃ d e, Dp K H x d ∧ Dp K H y e ∧ d.plain = true ∧ e.plain = true ∧ d.depth ≤ 100 ∧ Q (.bl (!PyData.eqv d e)) H
/-- the items of a sequence stand at v -/
def SqV (K : PySem.W.Frag) (H : Hp) (v : V) (xs : List V) : Prop := ∃ a, v = .ref a ∧ (SqL K H a xs ∨ SqT K H a xs)
def rInP (K : PySem.W.Frag) (neg : Bool) : R2 := fun x y H Q => ∃ d es xs, Dp K H x d ∧ SqV K H y xs ∧ DpAll K H xs es ∧ d.plain = true ∧ PyData.plainAll es = true ∧ d.depth ≤ 100 ∧
  Q (.bl (if neg = true then !(es.any fun q => PyData.eqv q d) else es.any fun q => PyData.eqv q d)) H
section
variable {X : Cx}
theorem op_eqP (hu : X.A.units + 200 < cLine) : OpR X (compareOp .Eq) (rEqP X.K) := by
  intro pins s σ H x y v u Q I rx ry h
  obtain ⟨d, e, hd, he, sd, se, dd, q⟩ := h
  obtain ⟨as, r1⟩ := Dp.reads I d x v hd rx
  obtain ⟨bs, r2⟩ := Dp.reads I e y u he ry
  refine SeqAt.eq_plain r1 r2 sd se ?_ ⟨.bl _, H, I, rfl, q⟩
  have : min d.depth e.depth ≤ d.depth := Nat.min_le_left _ _
  omega
theorem op_neP (hu : X.A.units + 200 < cLine) : OpR X (compareOp .NotEq) (rNeP X.K) := by
  intro pins s σ H x y v u Q I rx ry h
  obtain ⟨d, e, hd, he, sd, se, dd, q⟩ := h
  obtain ⟨as, r1⟩ := Dp.reads I d x v hd rx
  obtain ⟨bs, r2⟩ := Dp.reads I e y u he ry
  refine SeqAt.ne_plain r1 r2 sd se ?_ ⟨.bl _, H, I, rfl, q⟩
  have : min d.depth e.depth ≤ d.depth := Nat.min_le_left _ _
  omega
theorem op_inP (hu : X.A.units + 200 < cLine) : OpR X (compareOp .In) (rInP X.K false) := by
  intro pins s σ H x y v u Q I rx ry h
  obtain ⟨d, es, xs, hd, ⟨a, rfl, hs⟩, he, sd, se, dd, q⟩ := h
  obtain ⟨as, r1⟩ := Dp.reads I d x v hd rx
  have hm : min (PyData.depthAll es) d.depth ≤ d.depth := Nat.min_le_right _ _
  rcases hs with hs | hs
  · obtain ⟨bs, r2⟩ := Dp.reads I (.list es) _ u (.lst hs he) ry
    exact SeqAt.in_list_data r2 r1 se sd (by omega) ⟨.bl _, H, I, rfl, q⟩
  · obtain ⟨bs, r2⟩ := Dp.reads I (.tuple es) _ u (.tup hs he) ry
    exact SeqAt.in_tuple_data r2 r1 se sd (by omega) ⟨.bl _, H, I, rfl, q⟩
theorem op_ninP (hu : X.A.units + 200 < cLine) : OpR X (compareOp .NotIn) (rInP X.K true) := by
  intro pins s σ H x y v u Q I rx ry h
  obtain ⟨d, es, xs, hd, ⟨a, rfl, hs⟩, he, sd, se, dd, q⟩ := h
  obtain ⟨as, r1⟩ := Dp.reads I d x v hd rx
  have hm : min (PyData.depthAll es) d.depth ≤ d.depth := Nat.min_le_right _ _
  rcases hs with hs | hs
  · obtain ⟨bs, r2⟩ := Dp.reads I (.list es) _ u (.lst hs he) ry
    exact SeqAt.notIn_list_data r2 r1 se sd (by omega) ⟨.bl _, H, I, rfl, q⟩
  · obtain ⟨bs, r2⟩ := Dp.reads I (.tuple es) _ u (.tup hs he) ry
    exact SeqAt.notIn_tuple_data r2 r1 se sd (by omega) ⟨.bl _, H, I, rfl, q⟩
end
theorem Room_u200 {k : Nat} {A : Around} (r : Rm k A) : A.units + 200 < cLine := by have := r.un; omega
section
variable {c : Ctx} {X : Cx} {W : WX} {k : Nat} {N : List Str} {sc : Scope} {a b : Expr} {fa fb : FE} {pos : Pos}
theorem RDs.sq {ρ : List Addr} {M : DM} {H : Hp} {y : D} {v : V} {ds : List D} (P : Rep c ρ M H) (r : RD c ρ H y v) (h : itemsD y M = some ds) : ∃ xs, SqV c.K H v xs ∧ RDs c ρ H ds xs := by
  cases y with
  | tup es =>
    cases h
    simp only [RD] at r
    obtain ⟨a, xs, rfl, h1, h2⟩ := r
    exact ⟨xs, ⟨a, rfl, .inr h1.sq⟩, h2⟩
  | rol es =>
    cases h
    simp only [RD] at r
    obtain ⟨a, xs, rfl, h1, h2⟩ := r
    exact ⟨xs, ⟨a, rfl, .inl h1.sq⟩, h2⟩
  | obj i =>
    simp only [RD] at r
    obtain ⟨a, rfl, h1⟩ := r
    simp only [itemsD] at h
    cases e : M[i]? with
    | none => rw [e] at h; cases h
    | some mo =>
      rw [e] at h
      cases mo with
      | lst es =>
        cases h
        obtain ⟨xs, q1, q2⟩ := P.at_ i _ a e h1
        exact ⟨xs, ⟨a, rfl, .inl (.of q1)⟩, q2⟩
      | _ => cases h
  | _ => cases h
theorem o_eq : Op2 c W (rEqP c.K) eqD := by
  intro ρ M H σ x y v u Q P rx ry h
  unfold eqD at h
  split at h
  · rename_i p q e1 e2
    obtain ⟨a1, a2, a3⟩ := toPy_ok P _ _ _ _ e1 rx
    obtain ⟨b1, b2, b3⟩ := toPy_ok P _ _ _ _ e2 ry
    exact ⟨p, q, a1, b1, a2, b2, a3, h ρ H _ .refl P (by simp only [RD])⟩
  · exact h.elim
theorem o_ne : Op2 c W (rNeP c.K) neD := by
  intro ρ M H σ x y v u Q P rx ry h
  unfold neD at h
  split at h
  · rename_i p q e1 e2
    obtain ⟨a1, a2, a3⟩ := toPy_ok P _ _ _ _ e1 rx
    obtain ⟨b1, b2, b3⟩ := toPy_ok P _ _ _ _ e2 ry
    exact ⟨p, q, a1, b1, a2, b2, a3, h ρ H _ .refl P (by simp only [RD])⟩
  · exact h.elim
theorem anyEq_ok {ρ : List Addr} {M : DM} {H : Hp} {x : D} {v : V} {ds : List D} {xs : List V} {r : Bool} (P : Rep c ρ M H) (rx : RD c ρ H x v) (rs : RDs c ρ H ds xs) (h : anyEq M x ds = some r) :
    ∃ d es, Dp c.K H v d ∧ DpAll c.K H xs es ∧ d.plain = true ∧ PyData.plainAll es = true ∧ d.depth ≤ 100 ∧ (es.any fun q => PyData.eqv q d) = r := by
  unfold anyEq at h
  split at h
  · rename_i p q e1 e2
    obtain ⟨a1, a2, a3⟩ := toPy_ok P _ _ _ _ e1 rx
    obtain ⟨b1, b2, b3⟩ := toPy_all (fun d p v h r => toPy_ok P 100 d p v h r) ds q xs e2 rs
    cases h
    exact ⟨p, q, a1, b1, a2, b2, a3, rfl⟩
  · cases h
theorem o_inSeq : Op2 c W (rInP c.K false) inSeqD := by
  intro ρ M H σ x y v u Q P rx ry h
  unfold inSeqD at h
  split at h
  · rename_i ds e
    split at h
    · rename_i r e'
      obtain ⟨xs, hs, rs⟩ := RDs.sq P ry e
      obtain ⟨d, es, h1, h2, h3, h4, h5, h6⟩ := anyEq_ok P rx rs e'
      exact ⟨d, es, xs, h1, hs, h2, h3, h4, h5, by simp only [h6]; exact h ρ H _ .refl P (by simp only [RD]; rfl)⟩
    · exact h.elim
  · exact h.elim
theorem o_ninSeq : Op2 c W (rInP c.K true) ninSeqD := by
  intro ρ M H σ x y v u Q P rx ry h
  unfold ninSeqD at h
  split at h
  · rename_i ds e
    split at h
    · rename_i r e'
      obtain ⟨xs, hs, rs⟩ := RDs.sq P ry e
      obtain ⟨d, es, h1, h2, h3, h4, h5, h6⟩ := anyEq_ok P rx rs e'
      exact ⟨d, es, xs, h1, hs, h2, h3, h4, h5, by simp only [h6]; exact h ρ H _ .refl P (by simp only [RD]; rfl)⟩
    · exact h.elim
  · exact h.elim
theorem In.hu (I : In c X W k N sc) : X.A.units + 200 < cLine := Room_u200 I.room
theorem ve_eq (I : In c X W k N sc) (ha : VE c X W a fa) (hb : VE c X W b fb) : VE c X W (.Compare a [.Eq] [b] pos) (e2 eqD fa fb) := ve_cmp (by have h := op_eqP I.hu; rw [I.hK] at h; exact h) o_eq ha hb (nomark _)
theorem ve_ne (I : In c X W k N sc) (ha : VE c X W a fa) (hb : VE c X W b fb) : VE c X W (.Compare a [.NotEq] [b] pos) (e2 neD fa fb) := ve_cmp (by have h := op_neP I.hu; rw [I.hK] at h; exact h) o_ne ha hb (nomark _)
theorem vt_eq (I : In c X W k N sc) (ha : VE c X W a fa) (hb : VE c X W b fb) : VT c X W (.Compare a [.Eq] [b] pos) (tb (e2 eqD fa fb)) := vt_cmp (by have h := op_eqP I.hu; rw [I.hK] at h; exact h) o_eq ha hb (nomark _)
theorem vt_ne (I : In c X W k N sc) (ha : VE c X W a fa) (hb : VE c X W b fb) : VT c X W (.Compare a [.NotEq] [b] pos) (tb (e2 neD fa fb)) := vt_cmp (by have h := op_neP I.hu; rw [I.hK] at h; exact h) o_ne ha hb (nomark _)
theorem ve_inSeq (I : In c X W k N sc) (ha : VE c X W a fa) (hb : VE c X W b fb) (hm : behindInMarks .In b = false := by rfl) : VE c X W (.Compare a [.In] [b] pos) (e2 inSeqD fa fb) := ve_cmp (by have h := op_inP I.hu; rw [I.hK] at h; exact h) o_inSeq ha hb hm
theorem vt_inSeq (I : In c X W k N sc) (ha : VE c X W a fa) (hb : VE c X W b fb) (hm : behindInMarks .In b = false := by rfl) : VT c X W (.Compare a [.In] [b] pos) (tb (e2 inSeqD fa fb)) := vt_cmp (by have h := op_inP I.hu; rw [I.hK] at h; exact h) o_inSeq ha hb hm
theorem ve_ninSeq (I : In c X W k N sc) (ha : VE c X W a fa) (hb : VE c X W b fb) (hm : behindInMarks .NotIn b = false := by rfl) : VE c X W (.Compare a [.NotIn] [b] pos) (e2 ninSeqD fa fb) := ve_cmp (by have h := op_ninP I.hu; rw [I.hK] at h; exact h) o_ninSeq ha hb hm
theorem vt_ninSeq (I : In c X W k N sc) (ha : VE c X W a fa) (hb : VE c X W b fb) (hm : behindInMarks .NotIn b = false := by rfl) : VT c X W (.Compare a [.NotIn] [b] pos) (tb (e2 ninSeqD fa fb)) := vt_cmp (by have h := op_ninP I.hu; rw [I.hK] at h; exact h) o_ninSeq ha hb hm

/-! ### order, is None -/
def ordD (p : Int → Int → Bool) (x y : D) (M : DM) : Rs D := match x, y with
  | .int i, .int j => .ok (.bl (p i j)) M
  | _, _ => .bad
abbrev ltD := ordD fun i j => decide (i < j)
abbrev leD := ordD fun i j => decide (i ≤ j)
abbrev gtD := ordD fun i j => decide (j < i)
abbrev geD := ordD fun i j => decide (j ≤ i)
theorem o_ord {p : Int → Int → Bool} : Op2 c W (rI0 fun i j => .bl (p i j)) (ordD p) := by
  intro ρ M H σ x y v u Q P rx ry h
  unfold ordD at h
  split at h
  · rename_i i j
    simp only [RD] at rx ry
    exact ⟨i, j, rx, ry, h ρ H _ .refl P (by simp only [RD])⟩
  · exact h.elim
theorem ve_lt (ha : VE c X W a fa) (hb : VE c X W b fb) : VE c X W (.Compare a [.Lt] [b] pos) (e2 ltD fa fb) := ve_cmp op_lt o_ord ha hb (nomark _)
theorem ve_le (ha : VE c X W a fa) (hb : VE c X W b fb) : VE c X W (.Compare a [.LtE] [b] pos) (e2 leD fa fb) := ve_cmp op_le o_ord ha hb (nomark _)
theorem ve_gt (ha : VE c X W a fa) (hb : VE c X W b fb) : VE c X W (.Compare a [.Gt] [b] pos) (e2 gtD fa fb) := ve_cmp op_gt o_ord ha hb (nomark _)
theorem ve_ge (ha : VE c X W a fa) (hb : VE c X W b fb) : VE c X W (.Compare a [.GtE] [b] pos) (e2 geD fa fb) := ve_cmp op_ge o_ord ha hb (nomark _)
theorem vt_lt (ha : VE c X W a fa) (hb : VE c X W b fb) : VT c X W (.Compare a [.Lt] [b] pos) (tb (e2 ltD fa fb)) := vt_cmp op_lt o_ord ha hb (nomark _)
theorem vt_le (ha : VE c X W a fa) (hb : VE c X W b fb) : VT c X W (.Compare a [.LtE] [b] pos) (tb (e2 leD fa fb)) := vt_cmp op_le o_ord ha hb (nomark _)
theorem vt_gt (ha : VE c X W a fa) (hb : VE c X W b fb) : VT c X W (.Compare a [.Gt] [b] pos) (tb (e2 gtD fa fb)) := vt_cmp op_gt o_ord ha hb (nomark _)
theorem vt_ge (ha : VE c X W a fa) (hb : VE c X W b fb) : VT c X W (.Compare a [.GtE] [b] pos) (tb (e2 geD fa fb)) := vt_cmp op_ge o_ord ha hb (nomark _)
def isNonD : D → Bool
  | .non => true
  | _ => false
def isN (x y : D) (M : DM) : Rs D := match y with
  | .non => .ok (.bl (isNonD x)) M
  | _ => .bad
def isnN (x y : D) (M : DM) : Rs D := match y with
  | .non => .ok (.bl (!isNonD x)) M
  | _ => .bad
theorem isNon_ok {ρ : List Addr} {H : Hp} {x : D} {v : V} (r : RD c ρ H x v) : decide (v = .non) = isNonD x := by
  cases x with
  | tup ds => simp only [RD] at r; obtain ⟨a, xs, rfl, _⟩ := r; rfl
  | rol ds => simp only [RD] at r; obtain ⟨a, xs, rfl, _⟩ := r; rfl
  | obj i => simp only [RD] at r; obtain ⟨a, rfl, _⟩ := r; rfl
  | _ => simp only [RD] at r; subst r; rfl
theorem o_isN : Op2 c W (fun x y H Q => y = .non ∧ Q (.bl (decide (x = .non))) H) isN := by
  intro ρ M H σ x y v u Q P rx ry h
  unfold isN at h
  split at h
  · simp only [RD] at ry
    exact ⟨ry, h ρ H _ .refl P (by simp only [RD]; rw [isNon_ok rx])⟩
  · exact h.elim
theorem o_isnN : Op2 c W (fun x y H Q => y = .non ∧ Q (.bl (!decide (x = .non))) H) isnN := by
  intro ρ M H σ x y v u Q P rx ry h
  unfold isnN at h
  split at h
  · simp only [RD] at ry
    exact ⟨ry, h ρ H _ .refl P (by simp only [RD]; rw [isNon_ok rx])⟩
  · exact h.elim
theorem ve_isN (ha : VE c X W a fa) (hb : VE c X W b fb) : VE c X W (.Compare a [.Is] [b] pos) (e2 isN fa fb) := ve_cmp op_isN o_isN ha hb (nomark _)
theorem vt_isN (ha : VE c X W a fa) (hb : VE c X W b fb) : VT c X W (.Compare a [.Is] [b] pos) (tb (e2 isN fa fb)) := vt_cmp op_isN o_isN ha hb (nomark _)
theorem ve_isnN (ha : VE c X W a fa) (hb : VE c X W b fb) : VE c X W (.Compare a [.IsNot] [b] pos) (e2 isnN fa fb) := ve_cmp op_notN o_isnN ha hb (nomark _)
theorem vt_isnN (ha : VE c X W a fa) (hb : VE c X W b fb) : VT c X W (.Compare a [.IsNot] [b] pos) (tb (e2 isnN fa fb)) := vt_cmp op_notN o_isnN ha hb (nomark _)

/-! ### arithmetic -/
def addD (x y : D) (M : DM) : Rs D := match x, y with
  | .int i, .int j => .ok (.int (i + j)) M
  | .str i, .str j => if i.length + j.length ≤ sizeLine then .ok (.str (i ++ j)) M else .bad
  | .tup xs, .tup ys => if xs.length + ys.length ≤ sizeLine then .ok (.tup (xs ++ ys)) M else .bad
  | .obj i, .obj j => match M[i]?, M[j]? with
    | some (.lst xs), some (.lst ys) => if xs.length + ys.length ≤ sizeLine then .ok (.obj M.length) (M ++ [.lst (xs ++ ys)]) else .bad
    | _, _ => .bad
  | _, _ => .bad
def rAddA (K : PySem.W.Frag) : R2 := fun x y H Q => (rI0 (fun i j => .int (i + j)) x y H Q ∨ (∃ i j, x = .str i ∧ y = .str j ∧ i.length + j.length ≤ sizeLine ∧ Q (.str (i ++ j)) H)) ∨ (rCatA K x y H Q ∨ rCat x y H Q)
theorem op_addA : OpR X (binaryOp .Add) (rAddA X.K) := (op_add.or op_add_str).or (op_catA.or op_cat)
theorem o_add : Op2 c W (rAddA c.K) addD := by
  intro ρ M H σ x y v u Q P rx ry h
  unfold addD at h
  split at h
  · rename_i i j
    simp only [RD] at rx ry
    exact .inl (.inl ⟨i, j, rx, ry, h ρ H _ .refl P (by simp only [RD])⟩)
  · rename_i i j
    simp only [RD] at rx ry
    split at h
    · rename_i hz
      exact .inl (.inr ⟨i, j, rx, ry, hz, h ρ H _ .refl P (by simp only [RD])⟩)
    · exact h.elim
  · rename_i xs ys
    split at h
    · rename_i hz
      simp only [RD] at rx ry
      obtain ⟨a1, vs1, rfl, t1, r1⟩ := rx
      obtain ⟨a2, vs2, rfl, t2, r2⟩ := ry
      have l1 := RDs.len _ _ r1
      have l2 := RDs.len _ _ r2
      refine .inr (.inl ⟨a1, a2, vs1, vs2, rfl, rfl, t1.sq, t2.sq, by omega, fun e => ?_, fun _ e => ?_, fun _ _ p hp => ?_⟩)
      · subst e
        have : xs = [] := List.eq_nil_of_length_eq_zero l1
        subst this
        exact h ρ H _ .refl P (by simp only [RD]; exact ⟨a2, vs2, rfl, t2, r2⟩)
      · subst e
        have : ys = [] := List.eq_nil_of_length_eq_zero l2
        subst this
        rw [List.append_nil] at h
        exact h ρ H _ .refl P (by simp only [RD]; exact ⟨a1, vs1, rfl, t1, r1⟩)
      · exact post_tup P (RDs.append _ _ _ _ r1 r2) hp h
    · exact h.elim
  · rename_i i j
    split at h
    · rename_i xs ys e1 e2
      split at h
      · rename_i hz
        simp only [RD] at rx ry
        obtain ⟨a1, rfl, t1⟩ := rx
        obtain ⟨a2, rfl, t2⟩ := ry
        obtain ⟨vs1, q1, r1⟩ := P.at_ _ _ _ e1 t1
        obtain ⟨vs2, q2, r2⟩ := P.at_ _ _ _ e2 t2
        have l1 := RDs.len _ _ r1
        have l2 := RDs.len _ _ r2
        exact .inr (.inr ⟨a1, a2, vs1, vs2, rfl, rfl, q1, q2, by omega, fun p hp => post_lst P (RDs.append _ _ _ _ r1 r2) hp h⟩)
      · exact h.elim
    · exact h.elim
  · exact h.elim
theorem ve_add (I : In c X W k N sc) (ha : VE c X W a fa) (hb : VE c X W b fb) : VE c X W (.BinOp a .Add b pos) (e2 addD fa fb) := ve_op (by have h := op_addA (X := X); rw [I.hK] at h; exact h) o_add ha hb
/-- no greater than k -/
def lim (k : Nat) (i : Int) : Bool := Nat.ble i.natAbs k
theorem lim_le {k : Nat} {i : Int} (h : lim k i = true) : i.natAbs ≤ k := Nat.le_of_ble_eq_true h
theorem lim_of {k : Nat} {i : Int} (h : i.natAbs ≤ k) : lim k i = true := Nat.ble_eq_true_of_le h
/-- ints under a condition -/
def arD (C : Int → Int → Bool) (g : Int → Int → Int) (x y : D) (M : DM) : Rs D := match x, y with
  | .int i, .int j => if C i j = true then .ok (.int (g i j)) M else .bad
  | _, _ => .bad
theorem o_ar {C : Int → Int → Prop} {C' : Int → Int → Bool} {g : Int → Int → Int} (hC : ∀ i j, C' i j = true → C i j) : Op2 c W (rI C fun i j => .int (g i j)) (arD C' g) := by
  intro ρ M H σ x y v u Q P rx ry h
  unfold arD at h
  split at h
  · rename_i i j
    split at h
    · rename_i hc
      simp only [RD] at rx ry
      exact ⟨i, j, rx, ry, hC _ _ hc, h ρ H _ .refl P (by simp only [RD])⟩
    · exact h.elim
  · exact h.elim
abbrev subD := arD (fun _ _ => true) fun i j => i - j
abbrev mulD := arD (fun i j => lim 18446744073709551615 i || lim 18446744073709551615 j) fun i j => i * j
abbrev fdivD := arD (fun _ j => decide (0 < j) && lim 1073741823 j) fun i j => i / j
abbrev modD := arD (fun _ j => decide (0 < j)) fun i j => i % j
abbrev powD := arD (fun i j => decide (0 ≤ j) && lim 1000000 j && lim 18446744073709551615 i) fun i j => i ^ j.toNat
theorem op_subA : OpR X (binaryOp .Sub) (rI (fun _ _ => True) fun i j => .int (i - j)) := opI fun _ _ _ _ _ _ _ _ q => sub_int q
theorem ve_sub (ha : VE c X W a fa) (hb : VE c X W b fb) : VE c X W (.BinOp a .Sub b pos) (e2 subD fa fb) := ve_op op_subA (o_ar fun _ _ _ => trivial) ha hb
theorem mul_lim {i : Int} (h : lim 18446744073709551615 i = true) : -(2 ^ 64) < i ∧ i < 2 ^ 64 := by
  have := lim_le h
  omega
theorem ve_mul (ha : VE c X W a fa) (hb : VE c X W b fb) : VE c X W (.BinOp a .Mult b pos) (e2 mulD fa fb) := ve_op op_mul (o_ar fun i j h => by
  rcases (Bool.or_eq_true _ _).mp h with h | h
  · exact .inl (mul_lim h)
  · exact .inr (mul_lim h)) ha hb
theorem ve_fdiv (ha : VE c X W a fa) (hb : VE c X W b fb) : VE c X W (.BinOp a .FloorDiv b pos) (e2 fdivD fa fb) := ve_op op_fdiv (o_ar fun i j h => by
  rw [Bool.and_eq_true] at h
  have h1 := of_decide_eq_true h.1
  have h2 := lim_le h.2
  exact ⟨h1, by omega⟩) ha hb
theorem ve_mod (ha : VE c X W a fa) (hb : VE c X W b fb) : VE c X W (.BinOp a .Mod b pos) (e2 modD fa fb) := ve_op op_mod (o_ar fun _ _ h => of_decide_eq_true h) ha hb
theorem ve_pow (ha : VE c X W a fa) (hb : VE c X W b fb) : VE c X W (.BinOp a .Pow b pos) (e2 powD fa fb) := ve_op op_pow (o_ar fun i j h => by
  rw [Bool.and_eq_true, Bool.and_eq_true] at h
  have h1 := of_decide_eq_true h.1.1
  have h2 := lim_le h.1.2
  have h3 := lim_le h.2
  exact ⟨h1, by omega, by omega⟩) ha hb
def negD (x : D) (M : DM) : Rs D := match x with
  | .int i => .ok (.int (-i)) M
  | _ => .bad
theorem ve_neg (ha : VE c X W a fa) : VE c X W (.UnaryOp .USub a pos) (e1 negD fa) := by
  obtain ⟨t, p, s⟩ := ha
  refine ⟨_, pe_un un_neg p, sim1 (ta := t) s ?_⟩
  intro ρ M H σ x v Q P rx h
  cases x with
  | int i =>
    simp only [RD] at rx
    exact ⟨i, rx, h ρ H _ .refl P (by simp only [RD])⟩
  | _ => exact h.elim

/-! ### subscripts -/
def ixItems (x : D) (k : Int) (M : DM) : Rs D := match itemsD x M with
  | some ds => match atI ds k with
    | some d => .ok d M
    | none => .bad
  | none => .bad
def ixD (x y : D) (M : DM) : Rs D := match y with
  | .int k => match x with
    | .str s => if s.length ≤ sizeLine then match atI s.cps.toList k with
        | some q => .ok (.str ⟨#[q]⟩) M
        | none => .bad
      else .bad
    | x => ixItems x k M
  | _ => .bad
theorem RDs.atI {ρ : List Addr} {H : Hp} {ds : List D} {vs : List V} {k : Int} {d : D} (r : RDs c ρ H ds vs) (h : atI ds k = some d) : ∃ v, L2.atI vs k = some v ∧ RD c ρ H d v := by
  unfold L2.atI at h ⊢
  rw [← RDs.len _ _ r]
  cases e : ixN ds.length k with
  | none => rw [e] at h; cases h
  | some j =>
    rw [e] at h
    exact RDs.get _ _ r j d h
theorem o_ix : Op2 c W (rIx c.K) ixD := by
  intro ρ M H σ x y v u Q P rx ry h
  cases y with
  | int k =>
    simp only [RD] at ry
    have seq : ∀ ds d, itemsD x M = some ds → atI ds k = some d → Post c (WE W σ) ρ H (RD c) Q (.ok d M) → rIx c.K v u H Q := fun ds d e e' q => by
      obtain ⟨xs, ⟨a, rfl, hs⟩, rs⟩ := RDs.sq P rx e
      obtain ⟨w, h1, h2⟩ := RDs.atI rs e'
      rcases hs with hs | hs
      · exact .inl ⟨a, xs, k, w, rfl, ry, hs, h1, q ρ H _ .refl P h2⟩
      · exact .inr (.inl ⟨a, xs, k, w, rfl, ry, hs, h1, q ρ H _ .refl P h2⟩)
    have other : Post c (WE W σ) ρ H (RD c) Q (ixItems x k M) → rIx c.K v u H Q := fun q => by
      unfold ixItems at q
      split at q
      · rename_i ds e
        split at q
        · rename_i d e'
          exact seq ds d e e' q
        · exact q.elim
      · exact q.elim
    cases x with
    | str s =>
      simp only [RD] at rx
      simp only [ixD] at h
      split at h
      · rename_i hz
        split at h
        · rename_i q e
          exact .inr (.inr ⟨s, k, q, rx, ry, hz, e, h ρ H _ .refl P (by simp only [RD])⟩)
        · exact h.elim
      · exact h.elim
    | _ => exact other h
  | _ => exact h.elim
theorem ve_ix (I : In c X W k N sc) (ha : VE c X W a fa) (hb : VE c X W b fb) (hs : PlainIx b := by exact fun _ _ => rfl) : VE c X W (.Subscript a b pos) (e2 ixD fa fb) := by
  obtain ⟨ta, pa, sa⟩ := ha
  obtain ⟨tb, pb, sb⟩ := hb
  exact ⟨_, pe_ix (by have h := ix_seq (X := X); rw [I.hK] at h; exact h) pa pb hs, sim2 (ta := ta) (tb := tb) sa sb o_ix⟩

/-! ### calls by values -/
def eCall (g : List D → DM → Rs D) (f : FA) : FE := fun δ M => (f δ M).bind g
def OpL (c : Ctx) (W : WX) (r : List V → Hp → VK → Prop) (g : List D → DM → Rs D) : Prop :=
  ∀ ρ M H σ xs vs Q, Rep c ρ M H → RDs c ρ H xs vs → Post c (WE W σ) ρ H (RD c) Q (g xs M) → r vs H Q
theorem sim_call {t : TA} {f : FA} {r : List V → Hp → VK → Prop} {g : List D → DM → Rs D} (s : Sim c W (RDs c) t f) (hg : OpL c W r g) : Sim c W (RD c) (tCB r t) (eCall g f) := by
  intro ρ M H δ σ Q P r' h
  refine s.bind P r' h fun xs M1 ρ1 H1 vs e1 P1 s1 r1 _ h1 => ?_
  exact hg ρ1 M1 H1 σ xs vs Q P1 r1 h1
theorem ve_callB {x : Str} {p : Pos} {e : Expr} {es : List Expr} {id : String} {r : List V → Hp → VK → Prop} {g : List D → DM → Rs D} {f : FA} (I : In c X W k N sc) (hc : CallR X (.builtin id) r) (hg : OpL c W r g) (n : Gn sc x) (hm : c.mg x = none)
    (hv : bootBuiltins x = some (.builtin id)) (ha : VA c X W (e :: es) f) (hn : x ≠ "__name__" := by decide)
    (he : starEach (e :: es) X.env = (false, eval e X.env) :: starEach es X.env := by rfl) (hpl : (backTo pos (starEach es X.env)).any (·.1) = false := by rfl) : VE c X W (.Call (.Name x p) (e :: es) [] pos) (eCall g f) := by
  obtain ⟨⟨t, pa, s⟩, _⟩ := ha
  exact ⟨_, pe_callB hc (I.gl n) (by rw [I.hmg]; exact hm) hv pa hn n.db he hpl, sim_call s hg⟩
theorem ve_callTy {x : Str} {p : Pos} {e : Expr} {es : List Expr} {T : String} {r : List V → Hp → VK → Prop} {g : List D → DM → Rs D} {f : FA} (I : In c X W k N sc) (hc : CallR X (.type T) r) (hg : OpL c W r g) (n : Gn sc x) (hm : c.mg x = none)
    (hv : bootBuiltins x = some (.type T)) (ha : VA c X W (e :: es) f) (hn : x ≠ "__name__" := by decide)
    (he : starEach (e :: es) X.env = (false, eval e X.env) :: starEach es X.env := by rfl) (hpl : (backTo pos (starEach es X.env)).any (·.1) = false := by rfl) : VE c X W (.Call (.Name x p) (e :: es) [] pos) (eCall g f) := by
  obtain ⟨⟨t, pa, s⟩, _⟩ := ha
  exact ⟨_, pe_callTy hc (I.gl n) (by rw [I.hmg]; exact hm) hv pa hn n.db he hpl, sim_call s hg⟩
def intD (xs : List D) (M : DM) : Rs D := match xs with
  | [.int i] => .ok (.int i) M
  | [.bl k] => .ok (.int (if k then 1 else 0)) M
  | _ => .bad
theorem rds1 {ρ : List Addr} {H : Hp} {d : D} {vs : List V} (r : RDs c ρ H [d] vs) : ∃ v, vs = [v] ∧ RD c ρ H d v := by
  simp only [RDs] at r
  obtain ⟨x, xs, rfl, h1, rfl⟩ := r
  exact ⟨x, rfl, h1⟩
theorem rds2 {ρ : List Addr} {H : Hp} {d e : D} {vs : List V} (r : RDs c ρ H [d, e] vs) : ∃ v u, vs = [v, u] ∧ RD c ρ H d v ∧ RD c ρ H e u := by
  simp only [RDs] at r
  obtain ⟨x, xs, rfl, h1, y, ys, rfl, h2, rfl⟩ := r
  exact ⟨x, y, rfl, h1, h2⟩
theorem ve_int_ {e : Expr} {f : FA} {p : Pos} (I : In c X W k N sc) (n : Gn sc "int") (hm : c.mg "int" = none) (ha : VA c X W [e] f) (he : starEach [e] X.env = [(false, eval e X.env)] := by rfl) : VE c X W (.Call (.Name "int" p) [e] [] pos) (eCall intD f) := by
  refine ve_callTy I call_int1 ?_ n hm PyProof.Rows.boot_int ha (he := he)
  intro ρ M H σ xs vs Q P r h
  unfold intD at h
  split at h
  · obtain ⟨v, rfl, r1⟩ := rds1 r
    simp only [RD] at r1
    exact .inl ⟨_, by rw [r1], h ρ H _ .refl P (by simp only [RD])⟩
  · obtain ⟨v, rfl, r1⟩ := rds1 r
    simp only [RD] at r1
    exact .inr ⟨_, by rw [r1], h ρ H _ .refl P (by simp only [RD])⟩
  · exact h.elim
def lenD (xs : List D) (M : DM) : Rs D := match xs with
  | [.str s] => if s.length ≤ sizeLine then .ok (.int s.length) M else .bad
  | [x] => match itemsD x M with
    | some ds => .ok (.int ds.length) M
    | none => .bad
  | _ => .bad
theorem ve_len {e : Expr} {f : FA} {p : Pos} (I : In c X W k N sc) (n : Gn sc "len") (hm : c.mg "len" = none) (ha : VA c X W [e] f) (he : starEach [e] X.env = [(false, eval e X.env)] := by rfl) : VE c X W (.Call (.Name "len" p) [e] [] pos) (eCall lenD f) := by
  refine ve_callB I (by have h := call_len (X := X); rw [I.hK] at h; exact h) ?_ n hm PySem.boot_len ha (he := he)
  intro ρ M H σ xs vs Q P r h
  unfold lenD at h
  split at h
  · rename_i s
    obtain ⟨v, rfl, r1⟩ := rds1 r
    simp only [RD] at r1
    split at h
    · rename_i hz
      exact ⟨v, s.length, rfl, by subst r1; exact ⟨hz, rfl⟩, h ρ H _ .refl P (by simp only [RD])⟩
    · exact h.elim
  · rename_i x _
    obtain ⟨v, rfl, r1⟩ := rds1 r
    split at h
    · rename_i ds e
      obtain ⟨ys, ⟨a, rfl, hs⟩, rs⟩ := RDs.sq P r1 e
      have hl := RDs.len _ _ rs
      refine ⟨.ref a, ds.length, rfl, ?_, h ρ H _ .refl P (by simp only [RD])⟩
      rcases hs with hs | hs
      · exact .inl ⟨ys, hs, hl⟩
      · exact .inr ⟨ys, hs, hl⟩
    · exact h.elim
  · exact h.elim
/-- list(x): a new list -/
def listD (xs : List D) (M : DM) : Rs D := match xs with
  | [x] => match itemsD x M with
    | some ds => .ok (.obj M.length) (M ++ [.lst ds])
    | none => .bad
  | _ => .bad
theorem ve_list {e : Expr} {f : FA} {p : Pos} (I : In c X W k N sc) (n : Gn sc "list") (hm : c.mg "list" = none) (ha : VA c X W [e] f) (he : starEach [e] X.env = [(false, eval e X.env)] := by rfl) : VE c X W (.Call (.Name "list" p) [e] [] pos) (eCall listD f) := by
  refine ve_callTy I (by have h := call_list_of (X := X); rw [I.hK] at h; exact h) ?_ n hm PyProof.Rows.boot_list ha (he := he)
  intro ρ M H σ xs vs Q P r h
  unfold listD at h
  split at h
  · obtain ⟨v, rfl, r1⟩ := rds1 r
    split at h
    · rename_i ds e
      obtain ⟨ys, ⟨a, rfl, hs⟩, rs⟩ := RDs.sq P r1 e
      exact ⟨a, ys, rfl, hs, fun l hl => post_lst P rs hl h⟩
    · exact h.elim
  · exact h.elim
def tupleD (xs : List D) (M : DM) : Rs D := match xs with
  | [x] => match itemsD x M with
    | some ds => .ok (.tup ds) M
    | none => .bad
  | _ => .bad
theorem ve_tuple {e : Expr} {f : FA} {p : Pos} (I : In c X W k N sc) (n : Gn sc "tuple") (hm : c.mg "tuple" = none) (ha : VA c X W [e] f) (he : starEach [e] X.env = [(false, eval e X.env)] := by rfl) : VE c X W (.Call (.Name "tuple" p) [e] [] pos) (eCall tupleD f) := by
  refine ve_callTy I (by have h := call_tuple_of (X := X); rw [I.hK] at h; exact h) ?_ n hm PyProof.Rows.boot_tuple ha (he := he)
  intro ρ M H σ xs vs Q P r h
  unfold tupleD at h
  split at h
  · rename_i x
    obtain ⟨v, rfl, r1⟩ := rds1 r
    split at h
    · rename_i ds e
      cases x with
      | tup es =>
        cases e
        have r2 := r1
        simp only [RD] at r1
        obtain ⟨a, ys, rfl, t, rs⟩ := r1
        exact ⟨a, ys, rfl, .inr ⟨t.sq, h ρ H _ .refl P r2⟩⟩
      | rol es =>
        cases e
        simp only [RD] at r1
        obtain ⟨a, ys, rfl, t, rs⟩ := r1
        exact ⟨a, ys, rfl, .inl ⟨t.sq, fun l hl => post_tup P rs hl h⟩⟩
      | obj i =>
        simp only [RD] at r1
        obtain ⟨a, rfl, h1⟩ := r1
        simp only [itemsD] at e
        cases e2 : M[i]? with
        | none => rw [e2] at e; cases e
        | some mo =>
          rw [e2] at e
          cases mo with
          | lst es =>
            cases e
            obtain ⟨ys, q1, q2⟩ := P.at_ i _ a e2 h1
            exact ⟨a, ys, rfl, .inl ⟨.of q1, fun l hl => post_tup P q2 hl h⟩⟩
          | _ => cases e
      | _ => cases e
    · exact h.elim
  · exact h.elim
/-- isinstance of data and a built-in type -/
def tyName (x : D) (M : DM) : Option String := match x with
  | .non => some "NoneType"
  | .bl _ => some "bool"
  | .int _ => some "int"
  | .str _ => some "str"
  | .tup _ => some "tuple"
  | .rol _ => some "list"
  | .obj i => match M[i]? with
    | some (.lst _) => some "list"
    | some (.dic _) => some "dict"
    | _ => none
  | _ => none
def isiNames : List String := ["NoneType", "bool", "int", "str", "tuple", "list", "dict"]
/-- isinstance of a built-in type's value and a built-in type -/
def isiTab (a b : String) : Option Bool := if isiNames.contains a = true then if isiNames.tail.contains b = true then some (a == b || (a == "bool" && b == "int")) else none else none
theorem isiTab_all : (isiNames.all fun a => isiNames.tail.all fun b => kitB a b == some (a == b || (a == "bool" && b == "int"))) = true := by decide +kernel
theorem isiTab_ok {a b : String} {r : Bool} (h : isiTab a b = some r) : kitB a b = some r := by
  unfold isiTab at h
  split at h
  · rename_i ha
    split at h
    · rename_i hb
      cases h
      have h1 := List.all_eq_true.mp isiTab_all a (List.contains_iff_mem.mp ha)
      have h2 := List.all_eq_true.mp h1 b (List.contains_iff_mem.mp hb)
      exact beq_iff_eq.mp h2
    · cases h
  · cases h
def isiD (xs : List D) (M : DM) : Rs D := match xs with
  | [x, .ty T] => match tyName x M with
    | some n => match isiTab n T with
      | some b => .ok (.bl b) M
      | none => .bad
    | none => .bad
  | _ => .bad
theorem tyName_ok {ρ : List Addr} {M : DM} {H : Hp} {x : D} {v : V} {n : String} (P : Rep c ρ M H) (r : RD c ρ H x v) (h : tyName x M = some n) : TyX c.K H v (.type n) := by
  cases x with
  | non => cases h; simp only [RD] at r; subst r; exact .base .non
  | bl b => cases h; simp only [RD] at r; subst r; exact .base (.bl b)
  | int b => cases h; simp only [RD] at r; subst r; exact .base (.int b)
  | str b => cases h; simp only [RD] at r; subst r; exact .base (.str b)
  | tup ds =>
    cases h
    simp only [RD] at r
    obtain ⟨a, xs, rfl, t, _⟩ := r
    rcases t with t | ⟨o, its, m, h1, h2, _⟩
    · exact .base (.tup t)
    · exact .kTuple h1 h2
  | rol ds =>
    cases h
    simp only [RD] at r
    obtain ⟨a, xs, rfl, t, _⟩ := r
    rcases t with ⟨o, t⟩ | ⟨o, its, m, h1, h2, _⟩
    · exact .base (.frz t)
    · exact .kList h1 h2
  | obj i =>
    simp only [RD] at r
    obtain ⟨a, rfl, h1⟩ := r
    simp only [tyName] at h
    cases e : M[i]? with
    | none => rw [e] at h; cases h
    | some mo =>
      rw [e] at h
      cases mo with
      | lst es =>
        cases h
        obtain ⟨ys, q1, q2⟩ := P.at_ i _ a e h1
        exact .base (.lst q1)
      | dic es =>
        cases h
        obtain ⟨ys, q1, q2⟩ := P.at_ i _ a e h1
        exact .base (.dK q1)
      | _ => cases h
  | _ => cases h
theorem ve_isi {e e' : Expr} {f : FA} {p : Pos} (I : In c X W k N sc) (n : Gn sc "isinstance") (hm : c.mg "isinstance" = none) (ha : VA c X W [e, e'] f) (he : starEach [e, e'] X.env = (false, eval e X.env) :: starEach [e'] X.env := by rfl)
    (hpl : (backTo pos (starEach [e'] X.env)).any (·.1) = false := by rfl) : VE c X W (.Call (.Name "isinstance" p) [e, e'] [] pos) (eCall isiD f) := by
  refine ve_callB I (by have h := call_isi (X := X); rw [I.hK] at h; exact h) ?_ n hm (by decide +kernel) ha (he := he) (hpl := hpl)
  intro ρ M H σ xs vs Q P r h
  unfold isiD at h
  split at h
  · rename_i x T
    obtain ⟨v, u, rfl, r1, r2⟩ := rds2 r
    split at h
    · rename_i m e
      split at h
      · rename_i b e'
        simp only [RD] at r2
        subst r2
        exact ⟨v, _, _, _, b, rfl, .ty T, tyName_ok P r1 e, kit_ty (isiTab_ok e'), h ρ H _ .refl P (by simp only [RD])⟩
      · exact h.elim
    · exact h.elim
  · exact h.elim
end
end DL

set_option Elab.async false
set_option linter.all false
set_option maxRecDepth 100000
set_option maxHeartbeats 2000000
namespace DL
open PySem PySem.Spec L2
open PyProof.Rows hiding St

/-! ### blocks, small statements -/
def sNil : FS := fun δ M => .nx δ M
def sSeq (f g : FS) : FS := fun δ M => (f δ M).seq g
def sExpr (f : FE) : FS := fun δ M => (f δ M).ro δ fun _ M1 => .nx δ M1
def sRet (f : FE) : FS := fun δ M => (f δ M).ro δ fun d M1 => .rt d M1
def sRetN : FS := fun _ M => .rt .non M
def sIf (t : FT) (f g : FS) : FS := fun δ M => (t δ M).ro δ fun b M1 => if b = true then f δ M1 else g δ M1
def sSet (i : Nat) (f : FE) : FS := fun δ M => (f δ M).ro δ fun d M1 => .nx (δ.set i (some d)) M1
def sBad : FS := fun _ _ => .bad
def sBreak : FS := fun δ M => .bk δ M
def sCont : FS := fun δ M => .ct δ M
/-- o[i] = e of a list -/
def putD (o i d : D) (M : DM) : Option DM := match o, i with
  | .obj n, .int k => match M[n]? with
    | some (.lst ds) => match ixN ds.length k with
      | some j => some (M.set n (.lst (ds.set j d)))
      | none => none
    | _ => none
  | _, _ => none
def sSub (fe fo fi : FE) : FS := fun δ M => (fe δ M).ro δ fun d M1 => (fo δ M1).ro δ fun o M2 => (fi δ M2).ro δ fun i M3 => match putD o i d M3 with
  | some M4 => .nx δ M4
  | none => .bad
section
variable {c : Ctx} {X : Cx} {W : WX} {k : Nat} {N : List Str} {sc : Scope} {e : Expr} {f : FE} {pos : Pos} {st : Stmt} {rest : List Stmt} {fs gs : FS}
theorem vss_nil : VSs c X W [] sNil := ⟨_, pss_nil, fun ρ M H δ σ Dn P s h => h ρ H σ .refl P s⟩
theorem vss_cons (h1 : VS c X W st fs) (h2 : VSs c X W rest gs) : VSs c X W (st :: rest) (sSeq fs gs) := by
  obtain ⟨t, p, s⟩ := h1
  obtain ⟨u, q, r⟩ := h2
  refine ⟨_, pss_cons p q, fun ρ M H δ σ Dn P rs h => ?_⟩
  refine s ρ M H δ σ _ P rs ?_
  unfold sSeq at h
  cases e : fs δ M with
  | nx δ1 M1 =>
    rw [e] at h
    intro ρ1 H1 σ1 e1 P1 r1
    exact r ρ1 M1 H1 δ1 σ1 Dn P1 r1 (PostS.mono e1 h)
  | rt d M1 => rw [e] at h; exact h
  | bk δ1 M1 => rw [e] at h; exact h
  | ct δ1 M1 => rw [e] at h; exact h
  | ex x δ1 M1 => rw [e] at h; exact h
  | bad => rw [e] at h; exact h
theorem vss_one (h1 : VS c X W st fs) : VSs c X W [st] fs := let ⟨t, p, s⟩ := h1; ⟨t, pss_one p, s⟩
theorem vs_pass : VS c X W (.Pass pos) sNil := ⟨_, ps_pass, fun ρ M H δ σ Dn P s h => h ρ H σ .refl P s⟩
theorem vs_break : VS c X W (.Break pos) sBreak := ⟨_, ps_break, fun ρ M H δ σ Dn P s h => h ρ H σ .refl P s⟩
theorem vs_cont : VS c X W (.Continue pos) sCont := ⟨_, ps_continue, fun ρ M H δ σ Dn P s h => h ρ H σ .refl P s⟩
theorem vs_doc {x : Str} {j : Nat} {pos' : Pos} : VS c X W (.Expr (.Constant (.str x) j pos) pos') sNil := ⟨_, ps_doc, fun ρ M H δ σ Dn P s h => h ρ H σ .refl P s⟩
theorem vs_never : VS c X W st sBad := ⟨_, ps_never, fun ρ M H δ σ Dn P s h => h.elim⟩
theorem vs_expr (he : VE c X W e f) (hs : swapsWith e none pos.line X.env = pure false := by rfl) : VS c X W (.Expr e pos) (sExpr f) := by
  obtain ⟨t, p, s⟩ := he
  refine ⟨_, ps_expr p hs, fun ρ M H δ σ Dn P r h => ?_⟩
  exact s.ro P r h fun d M1 ρ1 H1 v e1 P1 s1 r1 _ h1 => h1 ρ1 H1 σ .refl P1 s1
theorem vs_ret (he : VE c X W e f) : VS c X W (.Return (some e) pos) (sRet f) := by
  obtain ⟨t, p, s⟩ := he
  refine ⟨_, ps_ret p, fun ρ M H δ σ Dn P r h => ?_⟩
  exact s.ro P r h fun d M1 ρ1 H1 v e1 P1 s1 r1 _ h1 => h1 ρ1 H1 v .refl P1 r1
theorem vs_retN : VS c X W (.Return none pos) sRetN := ⟨_, ps_retN, fun ρ M H δ σ Dn P r h => h ρ H .non .refl P (by simp only [RD])⟩
theorem vs_if {a b : List Stmt} {t : FT} (ht : VT c X W e t) (ha : VSs c X W a fs) (hb : VSs c X W b gs) : VS c X W (.If e a b pos) (sIf t fs gs) := by
  obtain ⟨t, p, s⟩ := ht
  obtain ⟨t1, p1, s1⟩ := ha
  obtain ⟨t2, p2, s2⟩ := hb
  refine ⟨_, ps_if p p1 p2, fun ρ M H δ σ Dn P r h => ?_⟩
  refine s.ro P r h fun x M1 ρ1 H1 v e1 P1 r1 q1 _ h1 => ?_
  cases q1
  cases x with
  | true => rw [if_pos rfl] at h1 ⊢; exact s1 ρ1 M1 H1 δ σ Dn P1 r1 h1
  | false => rw [if_neg Bool.false_ne_true] at h1 ⊢; exact s2 ρ1 M1 H1 δ σ Dn P1 r1 h1
theorem In.nd' (I : In c X W k N sc) : X.N.Nodup := by rw [I.hN]; exact I.nd
theorem In.at' (I : In c X W k N sc) {i : Nat} {x : Str} (n : Nm N sc i x) : X.N[i]? = some x := by rw [I.hN]; exact n.at_
theorem vs_set (I : InS c X W k N sc) {i : Nat} {x : Str} {pos' : Pos} (n : Nm N sc i x) (he : VE c X W e f) (hs : swapsWith e (some (.Name x pos')) pos.line X.env = pure false := by rfl) : VS c X W (.Assign [.Name x pos'] e pos) (sSet i f) := by
  obtain ⟨t, p, s⟩ := he
  refine ⟨_, ps_set I.nd' (I.at' n) (I.loc n) p hs (.inl (I.hfn x)), fun ρ M H δ σ Dn P r h => ?_⟩
  exact s.ro P r h fun d M1 ρ1 H1 v e1 P1 s1 r1 _ h1 => h1 ρ1 H1 _ .refl P1 (s1.set i r1)
theorem post_write {W : WX} {ρ : List Addr} {M : DM} {H : Hp} {i : Nat} {a : Addr} {ds ds' : List D} {xs' : List V} (P : Rep c ρ M H) (h1 : ρ[i]? = some a) (r : RDs c ρ H ds' xs') :
    Rep c ρ (M.set i (.lst ds')) (upd H a (.lst xs')) ∧ Ext ρ H ρ (upd H a (.lst xs')) := by
  have m := (P.there (List.mem_of_getElem? h1)).choose_spec.2
  have e : Ext ρ H ρ (upd H a (.lst xs')) := Ext.write m
  exact ⟨P.write h1 ⟨xs', upd_same, RDs.mono e _ _ r⟩, e⟩
theorem vs_sub (I : In c X W k N sc) {o i : Expr} {fo fi : FE} {pos' : Pos} (he : VE c X W e f) (ho : VE c X W o fo) (hi : VE c X W i fi)
    (ha : ∀ v, assign (.Subscript o i pos') X.env v = (do
      let ov ← holding [v] (eval o X.env)
      let iv ← holding [v, ov] (eval i X.env)
      standAt pos'
      holding [v, ov, iv] (setItem ov iv v)
      release [v, ov, iv] []) := by intro _; rfl)
    (hs : swapsWithSole [.Subscript o i pos'] e pos.line X.env = pure false := by rfl) (hw : swappedStores [.Subscript o i pos'] e X.env = pure none := by rfl)
    (h1 : (assignEach [.Subscript o i pos'] X.env).map (·.2) = [assign (.Subscript o i pos') X.env] := by rfl) : VS c X W (.Assign [.Subscript o i pos'] e pos) (sSub f fo fi) := by
  obtain ⟨t, p, s⟩ := he
  obtain ⟨t1, p1, s1⟩ := ho
  obtain ⟨t2, p2, s2⟩ := hi
  refine ⟨_, ps_asg p (pg_sub p1 p2 set_list ha) hs hw h1, fun ρ M H δ σ Dn P r h => ?_⟩
  refine s.ro P r h fun d M1 ρ1 H1 v e1 P1 s1' r1 q7 h1 => ?_
  clear q7
  refine s1.ro P1 s1' h1 fun o M2 ρ2 H2 ov e2 P2 s2' r2 q8 h2 => ?_
  clear q8
  refine s2.ro P2 s2' h2 fun i M3 ρ3 H3 iv e3 P3 s3' r3 q9 h3 => ?_
  clear q9
  unfold putD at h3
  cases o with
  | obj n =>
    cases i with
    | int j =>
      simp only at h3
      cases eM : M3[n]? with
      | none => simp only [eM] at h3; exact h3.elim
      | some mo =>
        cases mo with
        | lst ds =>
          simp only [eM] at h3
          cases em : ixN ds.length j with
          | none => simp only [em] at h3; exact h3.elim
          | some m =>
            simp only [em] at h3
            simp only [RD] at r3
            have r2' := RD.mono e3 _ _ r2
            simp only [RD] at r2'
            obtain ⟨a, rfl, ha⟩ := r2'
            obtain ⟨xs, q1, q2⟩ := P3.at_ _ _ _ eM ha
            have rv := RD.mono (e2.trans e3) _ _ r1
            obtain ⟨P4, e4⟩ := post_write (W := W) (ds := ds) P3 ha (RDs.set _ _ q2 m _ _ rv)
            refine ⟨a, xs, j, m, rfl, r3, q1, by rw [← RDs.len _ _ q2]; exact em, ?_⟩
            exact h3 ρ3 _ σ e4 P4 (s3'.mono e4)
        | _ => simp only [eM] at h3; exact h3.elim
    | _ => exact h3.elim
  | _ => exact h3.elim

/-! ### methods of lists -/
def tyD (T : String) (x : D) (M : DM) : Bool := match x with
  | .str _ => T == "str"
  | .int _ => T == "int"
  | .rol _ => T == "list"
  | .obj i => match M[i]? with
    | some (.lst _) => T == "list"
    | some (.dic _) => T == "dict"
    | _ => false
  | _ => false
theorem tyD_ok {ρ : List Addr} {M : DM} {H : Hp} {x : D} {v : V} {T : String} (P : Rep c ρ M H) (r : RD c ρ H x v) (h : tyD T x M = true) : tyV c.K T v H := by
  cases x with
  | str s => simp only [RD] at r; subst r; exact beq_iff_eq.mp h
  | int s => simp only [RD] at r; subst r; exact beq_iff_eq.mp h
  | rol ds =>
    simp only [RD] at r
    obtain ⟨a, xs, rfl, t, _⟩ := r
    exact .inl ⟨beq_iff_eq.mp h, xs, t.sq⟩
  | obj i =>
    simp only [RD] at r
    obtain ⟨a, rfl, h1⟩ := r
    simp only [tyD] at h
    cases e : M[i]? with
    | none => rw [e] at h; cases h
    | some mo =>
      rw [e] at h
      cases mo with
      | lst es =>
        obtain ⟨ys, q1, q2⟩ := P.at_ i _ a e h1
        exact .inl ⟨beq_iff_eq.mp h, ys, .of q1⟩
      | dic es =>
        obtain ⟨ys, q1, q2⟩ := P.at_ i _ a e h1
        exact .inr (.inr (.inl ⟨beq_iff_eq.mp h, .inl ⟨ys, q1⟩⟩))
      | _ => cases h
  | _ => cases h
def eMt (T : String) (g : D → List D → DM → Rs D) (fo : FE) (fa : FA) : FE := fun δ M => (fo δ M).bind fun x M1 => if tyD T x M1 = true then (fa δ M1).bind fun xs M2 => g x xs M2 else .bad
def OpM (c : Ctx) (W : WX) (r : V → List V → Hp → VK → Prop) (g : D → List D → DM → Rs D) : Prop :=
  ∀ ρ M H σ x v xs vs Q, Rep c ρ M H → RD c ρ H x v → RDs c ρ H xs vs → Post c (WE W σ) ρ H (RD c) Q (g x xs M) → r v vs H Q
theorem ve_bm {o : Expr} {es : List Expr} {name : Str} {apos cpos : Pos} {T id : String} {r : V → List V → Hp → VK → Prop} {g : D → List D → DM → Rs D} {fo : FE} {fa : FA} (I : In c X W k N sc) (pa : PlainAttrs T) (slot : Slot T name id)
    (hty : typeOf (.builtin id) = pure (.type "method_descriptor")) (hm : MtR X id r) (hg : OpM c W r g) (ho : VE c X W o fo) (ha : VA c X W (e :: es) fa)
    (hbase : attributeBase o name X.env (eval o X.env) = eval o X.env := by rfl)
    (hfew : ((backTo cpos (starEach (e :: es) X.env)).all (fun x => !x.1) && (backToKw cpos (keywordEach [] X.env)).all (fun x => x.1.isSome)
      && decide ((e :: es).length + ([] : List Keyword).length + (if ([] : List Keyword).isEmpty then 0 else 1) < 30)) = true := by rfl)
    (hline : (apos.endLine == cpos.line) = true := by rfl) (hs : starEach (e :: es) X.env = (false, eval e X.env) :: starEach es X.env := by rfl) (hplain : (backTo cpos (starEach es X.env)).any (·.1) = false := by rfl) :
    VE c X W (.Call (.Attribute o name apos) (e :: es) [] cpos) (eMt T g fo fa) := by
  obtain ⟨t, p, s⟩ := ho
  obtain ⟨⟨t1, p1, s1⟩, _⟩ := ha
  refine ⟨_, pe_bm pa slot hty hm p p1 hbase hfew hline hs hplain, fun ρ M H δ σ Q P r h => ?_⟩
  refine s.bind P r h fun x M1 ρ1 H1 v e1 P1 s1' r1 _ h1 => ?_
  split at h1
  · rename_i ty
    refine ⟨by rw [I.hK]; exact tyD_ok P1 r1 ty, ?_⟩
    refine s1.bind P1 s1' h1 fun xs M2 ρ2 H2 vs e2 P2 s2' r2 _ h2 => ?_
    exact hg ρ2 M2 H2 σ x v xs vs Q P2 (RD.mono e2 _ _ r1) r2 h2
  · exact h1.elim
def appendD (x : D) (xs : List D) (M : DM) : Rs D := match x, xs with
  | .obj n, [y] => match M[n]? with
    | some (.lst ds) => if ds.length < sizeLine then .ok .non (M.set n (.lst (ds ++ [y]))) else .bad
    | _ => .bad
  | _, _ => .bad
theorem o_append : OpM c W rAppend appendD := by
  intro ρ M H σ x v xs vs Q P rx rs h
  unfold appendD at h
  split at h
  · rename_i n y
    split at h
    · rename_i ds eM
      split at h
      · rename_i hz
        simp only [RD] at rx
        obtain ⟨a, rfl, ha⟩ := rx
        obtain ⟨y', rfl, ry⟩ := rds1 rs
        obtain ⟨zs, q1, q2⟩ := P.at_ _ _ _ eM ha
        obtain ⟨P4, e4⟩ := post_write (W := W) (ds := ds) P ha (RDs.append _ _ _ _ q2 (RDs.one ry))
        exact ⟨a, zs, y', rfl, rfl, q1, by rw [← RDs.len _ _ q2]; exact hz, h ρ _ .non e4 P4 (by simp only [RD])⟩
      · exact h.elim
    · exact h.elim
  · exact h.elim
theorem ve_append {o : Expr} {apos cpos : Pos} {fo : FE} {fa : FA} (I : In c X W k N sc) (ho : VE c X W o fo) (ha : VA c X W [e] fa)
    (hbase : attributeBase o "append" X.env (eval o X.env) = eval o X.env := by rfl)
    (hfew : ((backTo cpos (starEach [e] X.env)).all (fun x => !x.1) && (backToKw cpos (keywordEach [] X.env)).all (fun x => x.1.isSome)
      && decide ([e].length + ([] : List Keyword).length + (if ([] : List Keyword).isEmpty then 0 else 1) < 30)) = true := by rfl)
    (hline : (apos.endLine == cpos.line) = true := by rfl) (hs : starEach [e] X.env = (false, eval e X.env) :: starEach [] X.env := by rfl) :
    VE c X W (.Call (.Attribute o "append" apos) [e] [] cpos) (eMt "list" appendD fo fa) :=
  ve_bm I PySem.F.plainAttrs_list PySem.F.slot_list_append PySem.F.type_list_append mt_append o_append ho ha hbase hfew hline hs rfl

/-! ### targets -/
abbrev FG := D → DSt → DM → Option (DSt × DM)
def SimG (c : Ctx) (t : TG) (g : FG) : Prop := ∀ ρ M H δ σ d v Q, Rep c ρ M H → RS c ρ H δ σ → RD c ρ H d v →
  (match g d δ M with | some (δ', M') => ∀ ρ' H' σ', Ext ρ H ρ' H' → Rep c ρ' M' H' → RS c ρ' H' δ' σ' → Q σ' H' | _ => False) → t v σ H Q
def VG (c : Ctx) (X : Cx) (tg : Expr) (g : FG) : Prop := ∃ t, PG X tg t ∧ SimG c t g
def gNm (i : Nat) : FG := fun d δ M => some (δ.set i (some d), M)
theorem vg_name (I : InS c X W k N sc) {i : Nat} {x : Str} (n : Nm N sc i x) : VG c X (.Name x pos) (gNm i) :=
  ⟨_, pg_name I.nd' (I.at' n) (I.loc n) (.inl (I.hfn x)), fun ρ M H δ σ d v Q P s r h => h ρ H _ .refl P (s.set i r)⟩
/-- (a, b, ..) = a tuple -/
def gNms : List Nat → List D → DSt → Option DSt
  | [], [], δ => some δ
  | i :: is, d :: ds, δ => gNms is ds (δ.set i (some d))
  | _, _, _ => none
def gTupN (is : List Nat) : FG := fun d δ M => match d with
  | .tup ds => match gNms is ds δ with
    | some δ' => some (δ', M)
    | none => none
  | _ => none
def VGs (c : Ctx) (X : Cx) (tgs : List Expr) (is : List Nat) : Prop := (∃ t, PGs X tgs t ∧ ∀ ρ M H δ σ ds vs Q δ', Rep c ρ M H → RS c ρ H δ σ → RDs c ρ H ds vs → gNms is ds δ = some δ' →
  (∀ σ', RS c ρ H δ' σ' → Q σ' H) → t vs σ H Q) ∧ is.length = tgs.length
theorem vgs_nil : VGs c X [] [] := by
  refine ⟨⟨_, pgs_nil, fun ρ M H δ σ ds vs Q δ' P s r e h => ?_⟩, rfl⟩
  cases ds with
  | nil =>
    cases e
    simp only [RDs] at r
    exact ⟨r, h _ s⟩
  | cons d ds => cases e
theorem vgs_cons (I : InS c X W k N sc) {i : Nat} {x : Str} {es : List Expr} {is : List Nat} (n : Nm N sc i x) (h : VGs c X es is)
    (hs : (assignEach (.Name x pos :: es) X.env).map (·.2) = assign (.Name x pos) X.env :: (assignEach es X.env).map (·.2) := by rfl) : VGs c X (.Name x pos :: es) (i :: is) := by
  obtain ⟨⟨t, p, s⟩, hl⟩ := h
  refine ⟨⟨_, pgs_cons (pg_name I.nd' (I.at' n) (I.loc n) (.inl (I.hfn x))) p hs, fun ρ M H δ σ ds vs Q δ' P r rd e h => ?_⟩, by rw [List.length_cons, List.length_cons, hl]⟩
  cases ds with
  | nil => cases e
  | cons d ds =>
    simp only [RDs] at rd
    obtain ⟨v, vs', rfl, r1, r2⟩ := rd
    exact ⟨v, vs', rfl, s ρ M H _ _ ds vs' Q δ' P (r.set i r1) r2 e h⟩
theorem gNms_len : ∀ {is : List Nat} {ds : List D} {δ δ' : DSt}, gNms is ds δ = some δ' → is.length = ds.length
  | [], [], _, _, _ => rfl
  | _ :: is, _ :: ds, _, _, h => by rw [List.length_cons, List.length_cons, gNms_len (is := is) (ds := ds) h]
  | [], _ :: _, _, _, h => nomatch h
  | _ :: _, [], _, _, h => nomatch h
theorem vg_tup (I : InS c X W k N sc) (hC : Cold X) {es : List Expr} {m : Nat} {is : List Nat} (h : VGs c X es is) (hn : (assignEach es X.env).length = es.length := by rfl) (hst : (assignEach es X.env).findIdx? (·.1) = none := by rfl) : VG c X (.Tuple es m pos) (gTupN is) := by
  obtain ⟨⟨t, p, s⟩, hl⟩ := h
  refine ⟨_, pg_tup hC.calm p hn hst, fun ρ M H δ σ d v Q P r rd h => ?_⟩
  cases d with
  | tup ds =>
    simp only [gTupN] at h
    cases e : gNms is ds δ with
    | none => rw [e] at h; exact h.elim
    | some δ' =>
      rw [e] at h
      simp only [RD] at rd
      obtain ⟨a, xs, rfl, t1, r1⟩ := rd
      refine ⟨a, xs, rfl, by rw [I.hK]; exact t1.sq, by rw [← RDs.len _ _ r1, ← gNms_len e, hl], ?_⟩
      exact s ρ M H δ σ ds xs Q δ' P r r1 e fun σ' s' => h ρ H σ' .refl P s'
  | _ => exact h.elim
/-- target = value, one target -/
def sAsg (f : FE) (g : FG) : FS := fun δ M => (f δ M).ro δ fun d M1 => match g d δ M1 with
  | some (δ', M2) => .nx δ' M2
  | none => .bad
theorem vs_asg {tg : Expr} {g : FG} (he : VE c X W e f) (hg : VG c X tg g) (hs : swapsWithSole [tg] e pos.line X.env = pure false := by rfl) (hw : swappedStores [tg] e X.env = pure none := by rfl)
    (h1 : (assignEach [tg] X.env).map (·.2) = [assign tg X.env] := by rfl) : VS c X W (.Assign [tg] e pos) (sAsg f g) := by
  obtain ⟨t, p, s⟩ := he
  obtain ⟨t1, p1, s1⟩ := hg
  refine ⟨_, ps_asg p p1 hs hw h1, fun ρ M H δ σ Dn P r h => ?_⟩
  refine s.ro P r h fun d M1 ρ1 H1 v e1 P1 s1' r1 _ h1 => ?_
  refine s1 ρ1 M1 H1 δ σ d v Dn.nx P1 s1' r1 ?_
  cases e : g d δ M1 with
  | some q =>
    obtain ⟨δ', M'⟩ := q
    rw [e] at h1
    exact fun ρ' H' σ' e' P' s' => h1 ρ' H' σ' e' P' s'
  | none => rw [e] at h1; exact h1

/-! ### for -/
/-- over items that stand still -/
def forDs (g : FG) (body : FS) : List D → DSt → DM → Ro
  | [], δ, M => .nx δ M
  | d :: ds, δ, M => match g d δ M with
    | none => .bad
    | some (δ1, M1) => match body δ1 M1 with
      | .nx δ2 M2 => forDs g body ds δ2 M2
      | .ct δ2 M2 => forDs g body ds δ2 M2
      | .bk δ2 M2 => .nx δ2 M2
      | .rt d M2 => .rt d M2
      | .ex x δ2 M2 => .ex x δ2 M2
      | .bad => .bad
/-- over a list of ours as it stands at each turn -/
def forObj (n : Nat) (g : FG) (body : FS) : Nat → Nat → DSt → DM → Ro
  | 0, _, _, _ => .bad
  | m + 1, i, δ, M => match M[n]? with
    | some (.lst ds) => match ds[i]? with
      | none => .nx δ M
      | some d => match g d δ M with
        | none => .bad
        | some (δ1, M1) => match body δ1 M1 with
          | .nx δ2 M2 => forObj n g body m (i + 1) δ2 M2
          | .ct δ2 M2 => forObj n g body m (i + 1) δ2 M2
          | .bk δ2 M2 => .nx δ2 M2
          | .rt d M2 => .rt d M2
          | .ex x δ2 M2 => .ex x δ2 M2
          | .bad => .bad
    | _ => .bad
/-- over lo, lo + 1, .., n of them -/
def forR (g : FG) (body : FS) : Nat → Int → DSt → DM → Ro
  | 0, _, δ, M => .nx δ M
  | n + 1, i, δ, M => match g (.int i) δ M with
    | none => .bad
    | some (δ1, M1) => match body δ1 M1 with
      | .nx δ2 M2 => forR g body n (i + 1) δ2 M2
      | .ct δ2 M2 => forR g body n (i + 1) δ2 M2
      | .bk δ2 M2 => .nx δ2 M2
      | .rt d M2 => .rt d M2
      | .ex x δ2 M2 => .ex x δ2 M2
      | .bad => .bad
def fuelOf (fu : DSt → DM → Nat) (x : D) (δ : DSt) (M : DM) : Nat := fu δ M + match itemsD x M with
  | some ds => ds.length + 1
  | none => 0
/-- for tg in e: a list or tuple; fu: turns beyond the list's first length -/
def sFor (fu : DSt → DM → Nat) (f : FE) (g : FG) (body : FS) : FS := fun δ M => (f δ M).ro δ fun x M1 => match x with
  | .tup ds => forDs g body ds δ M1
  | .rol ds => forDs g body ds δ M1
  | .obj n => forObj n g body (fuelOf fu x δ M1) 0 δ M1
  | _ => .bad
def rngOk (n : Int) : Bool := lim 4611686018427387903 n
def sForR (f : FE) (g : FG) (body : FS) : FS := fun δ M => (f δ M).ro δ fun x M1 => match x with
  | .int n => if rngOk n = true then forR g body n.toNat 0 δ M1 else .bad
  | _ => .bad
/-- what is walked: a list or a tuple -/
def iSeq (K : PySem.W.Frag) (tl : TE) : TI := fun σ H R => tl σ H fun x H1 => (∃ a, x = .ref a ∧ (∃ xs, SqL K H1 a xs) ∧ R (Itl K a) H1) ∨ (∃ a, x = .ref a ∧ (∃ xs, SqT K H1 a xs) ∧ R (Itt K a) H1)
theorem pi_seq {tg l : Expr} {tl : TE} (hl : PE X l tl) : PI X tg l (iSeq X.K tl) := by
  refine ⟨fun pins s σ H R I h => ?_⟩
  refine thn (hl.run pins s σ H _ I h) fun v s1 ⟨x, H1, I1, r1, q1⟩ => ?_
  rcases q1 with ⟨a, e, ⟨xs, hq⟩, q⟩ | ⟨a, e, ⟨xs, hq⟩, q⟩
  · subst e
    cases r1
    obtain ⟨its, rv, p, hz⟩ := I1.list hq
    refine wpAny_pyIter_list p.isList ?_
    refine ⟨s1.heap.objs.size, [s1.heap.objs.size], _, _, H1, rfl, I1.kept (t' := s1.toks) fun b o e => Heap.get?_push_of_some _ e, turn_list a _, ⟨_, Heap.get?_push_size _ rfl, rfl, rfl⟩, fun b hb => ?_, q⟩
    have e : b = s1.heap.objs.size := by simpa using hb
    subst e
    exact I1.fpOk (Nat.le_refl _) (I1.hok.fresh (Nat.le_refl _))
  · subst e
    cases r1
    obtain ⟨its, rv, p, hz⟩ := I1.tuple hq
    refine wpAny_pyIter_tuple (show s1.heap.IsTuple a its.toArray from p) ?_
    refine ⟨s1.heap.objs.size, [s1.heap.objs.size], _, _, H1, rfl, I1.kept (t' := s1.toks) fun b o e => Heap.get?_push_of_some _ e, turn_tuple a _, ⟨_, Heap.get?_push_size _ rfl, rfl, rfl⟩, fun b hb => ?_, q⟩
    have e : b = s1.heap.objs.size := by simpa using hb
    subst e
    exact I1.fpOk (Nat.le_refl _) (I1.hok.fresh (Nat.le_refl _))
/-- one turn: the target, then the body, towards what is wanted of the next turn -/
theorem turn_sim {tg : TG} {g : FG} {t : TS} {body : FS} {ρ : List Addr} {M : DM} {H : Hp} {δ : DSt} {σ : St} {d : D} {v : V} {Dn : Ends} {Nw : St → Hp → Prop} {next : DSt → DM → Ro} (sg : SimG c tg g) (sb : SimS c W t body) (P : Rep c ρ M H) (s : RS c ρ H δ σ)
    (r : RD c ρ H d v) (h : PostS c W ρ H Dn (match g d δ M with
      | none => .bad
      | some (δ1, M1) => match body δ1 M1 with
        | .nx δ2 M2 => next δ2 M2
        | .ct δ2 M2 => next δ2 M2
        | .bk δ2 M2 => .nx δ2 M2
        | .rt d M2 => .rt d M2
        | .ex x δ2 M2 => .ex x δ2 M2
        | .bad => .bad))
    (hN : ∀ ρ' M' H' δ' σ', Ext ρ H ρ' H' → Rep c ρ' M' H' → RS c ρ' H' δ' σ' → PostS c W ρ' H' Dn (next δ' M') → Nw σ' H') :
    tg v σ H fun σ2 H2 => t { Dn with nx := Nw, ct := Nw, bk := Dn.nx } σ2 H2 := by
  refine sg ρ M H δ σ d v _ P s r ?_
  cases e : g d δ M with
  | none => rw [e] at h; exact h
  | some q =>
    obtain ⟨δ1, M1⟩ := q
    rw [e] at h
    intro ρ1 H1 σ1 e1 P1 s1
    refine sb ρ1 M1 H1 δ1 σ1 _ P1 s1 ?_
    have h' := PostS.mono e1 h
    simp only at h'
    cases e2 : body δ1 M1 with
    | nx δ2 M2 =>
      rw [e2] at h'
      intro ρ2 H2 σ2 e2 P2 s2
      exact hN ρ2 M2 H2 δ2 σ2 (e1.trans e2) P2 s2 (PostS.mono e2 h')
    | ct δ2 M2 =>
      rw [e2] at h'
      intro ρ2 H2 σ2 e2 P2 s2
      exact hN ρ2 M2 H2 δ2 σ2 (e1.trans e2) P2 s2 (PostS.mono e2 h')
    | bk δ2 M2 => rw [e2] at h'; exact h'
    | rt d M2 => rw [e2] at h'; exact h'
    | ex x δ2 M2 => rw [e2] at h'; exact h'
    | bad => rw [e2] at h'; exact h'
theorem RolAt.now {ρ : List Addr} {H : Hp} {y : D} {ds : List D} {v : V} (r : RD c ρ H y v) (h : y = .tup ds ∨ y = .rol ds) : ∃ a xs, v = .ref a ∧ RDs c ρ H ds xs ∧ ((y = .tup ds ∧ TupAt c.K H a xs) ∨ (y = .rol ds ∧ RolAt c.K H a xs)) := by
  rcases h with rfl | rfl
  · simp only [RD] at r
    obtain ⟨a, xs, e, t, q⟩ := r
    exact ⟨a, xs, e, q, .inl ⟨rfl, t⟩⟩
  · simp only [RD] at r
    obtain ⟨a, xs, e, t, q⟩ := r
    exact ⟨a, xs, e, q, .inr ⟨rfl, t⟩⟩
/-- a loop over items that stand still -/
theorem for_still {J : It} {tg : TG} {g : FG} {t : TS} {body : FS} {ρ : List Addr} {M : DM} {H : Hp} {δ : DSt} {σ : St} {ds : List D} {xs : List V} {Dn : Ends} (sg : SimG c tg g) (sb : SimS c W t body) (P : Rep c ρ M H) (s : RS c ρ H δ σ) (rs : RDs c ρ H ds xs)
    (hgo : ∀ ρ' H' i, Ext ρ H ρ' H' → i < xs.length → J.go i H') (hst : ∀ ρ' H', Ext ρ H ρ' H' → J.stop xs.length H') (hy : ∀ ρ' H' H2 i x, Ext ρ H ρ' H' → J.yld i H' x H2 → H2 = H' ∧ xs[i]? = some x)
    (h : PostS c W ρ H Dn (forDs g body ds δ M)) :
    ∃ Wv : Nat → Nat → St → Hp → Prop, (∃ m, Wv 0 m σ H) ∧ ∀ i m σ H, Wv i m σ H →
      (J.stop i H ∧ Dn.nx σ H) ∨ (J.go i H ∧ ∃ Nv : St → Hp → Prop, (∀ σ' H', Nv σ' H' → ∃ m', m' < m ∧ Wv (i + 1) m' σ' H') ∧ ∀ x H', J.yld i H x H' → tg x σ H' fun σ2 H2 => t { Dn with nx := Nv, ct := Nv, bk := Dn.nx } σ2 H2) := by
  have hl := RDs.len _ _ rs
  refine ⟨fun i m σ' H' => ∃ ρ' M' δ', m = ds.length - i ∧ i ≤ ds.length ∧ Ext ρ H ρ' H' ∧ Rep c ρ' M' H' ∧ RS c ρ' H' δ' σ' ∧ PostS c W ρ' H' Dn (forDs g body (ds.drop i) δ' M'), ⟨ds.length, ρ, M, δ, by simp, Nat.zero_le _, .refl, P, s, by simpa using h⟩, ?_⟩
  rintro i m σ1 H1 ⟨ρ1, M1, δ1, rfl, hi, e1, P1, s1, h1⟩
  by_cases hlt : i < ds.length
  · refine .inr ⟨hgo ρ1 H1 i e1 (hl ▸ hlt), fun σ' H' => ∃ ρ' M' δ', Ext ρ H ρ' H' ∧ Rep c ρ' M' H' ∧ RS c ρ' H' δ' σ' ∧ PostS c W ρ' H' Dn (forDs g body (ds.drop (i + 1)) δ' M'), ?_, fun x H2 y => ?_⟩
    · rintro σ' H' ⟨ρ', M', δ', a1, a2, a3, a4⟩
      exact ⟨ds.length - (i + 1), by omega, ρ', M', δ', rfl, hlt, a1, a2, a3, a4⟩
    · obtain ⟨rfl, hx⟩ := hy ρ1 H1 H2 i x e1 y
      have hd : ds[i]? = some ds[i] := List.getElem?_eq_getElem hlt
      obtain ⟨v, hv, rv⟩ := RDs.get _ _ rs i _ hd
      rw [hv] at hx
      cases hx
      rw [List.drop_eq_getElem_cons hlt] at h1
      refine turn_sim (next := fun δ2 M2 => forDs g body (ds.drop (i + 1)) δ2 M2) sg sb P1 s1 (RD.mono e1 _ _ rv) h1 fun ρ' M' H' δ' σ' e' P' s' h' => ?_
      exact ⟨ρ', M', δ', e1.trans e', P', s', h'⟩
  · have e : i = ds.length := by omega
    subst e
    rw [List.drop_length] at h1
    exact .inl ⟨by rw [hl]; exact hst ρ1 H1 e1, h1 ρ1 H1 σ1 .refl P1 s1⟩
theorem Itl_still {ρ ρ' : List Addr} {H H' : Hp} {a : Addr} {xs : List V} (I1 : RolAt c.K H a xs) (e : Ext ρ H ρ' H') : SqL c.K H' a xs := (RolAt.mono e I1).sq
theorem vs_for (I : InS c X W k N sc) (hC : Cold X) (fu : DSt → DM → Nat) {tg iter : Expr} {body : List Stmt} {g : FG} {fb : FS} (he : VE c X W iter f) (hg : VG c X tg g) (hb : VSs c X W body fb) (hs : ∀ x, foldedSetIterable iter X.env x = pure x := by intro _; rfl) :
    VS c X W (.For tg iter body [] pos) (sFor fu f g fb) := by
  obtain ⟨t, p, s⟩ := he
  obtain ⟨tgt, pg, sg⟩ := hg
  obtain ⟨tb, pb, sb⟩ := hb
  refine ⟨_, ps_for I.own hC.calm (pi_seq p) pg pb hs, fun ρ M H δ σ Dn P r h => ?_⟩
  refine s.ro P r h fun d M1 ρ1 H1 v e1 P1 s1 r1 _ h1 => ?_
  cases d with
  | tup ds =>
    simp only [RD] at r1
    obtain ⟨a, xs, rfl, ta, rs⟩ := r1
    rw [I.hK]
    refine .inr ⟨a, rfl, ⟨xs, ta.sq⟩, ?_⟩
    refine for_still sg sb P1 s1 rs (fun ρ' H' i e hi => ⟨xs, xs[i], (TupAt.mono e ta).sq, List.getElem?_eq_getElem hi⟩) (fun ρ' H' e => ⟨xs, (TupAt.mono e ta).sq, Nat.le_refl _⟩) (fun ρ' H' H2 i x e y => ⟨y.1, y.2 xs (TupAt.mono e ta).sq⟩) h1
  | rol ds =>
    simp only [RD] at r1
    obtain ⟨a, xs, rfl, ta, rs⟩ := r1
    rw [I.hK]
    refine .inl ⟨a, rfl, ⟨xs, ta.sq⟩, ?_⟩
    refine for_still sg sb P1 s1 rs (fun ρ' H' i e hi => ⟨xs, xs[i], (RolAt.mono e ta).sq, List.getElem?_eq_getElem hi⟩) (fun ρ' H' e => ⟨xs, (RolAt.mono e ta).sq, Nat.le_refl _⟩) (fun ρ' H' H2 i x e y => ⟨y.1, y.2 xs (RolAt.mono e ta).sq⟩) h1
  | obj n =>
    simp only [RD] at r1
    obtain ⟨a, rfl, ha⟩ := r1
    rw [I.hK]
    have look : ∀ {ρ' : List Addr} {M' : DM} {H' : Hp} {ds : List D}, Ext ρ1 H1 ρ' H' → Rep c ρ' M' H' → M'[n]? = some (.lst ds) → ∃ xs, H' a = some (.lst xs) ∧ RDs c ρ' H' ds xs := fun e P' q => P'.at_ n _ a q (e.get ha)
    have first : ∃ xs, SqL c.K H1 a xs := by
      cases q : fuelOf fu (.obj n) δ M1 with
      | zero => simp only [q, forObj] at h1; exact h1.elim
      | succ m =>
        simp only [q, forObj] at h1
        split at h1
        · rename_i ds eM
          obtain ⟨xs, q1, _⟩ := look .refl P1 eM
          exact ⟨xs, .of q1⟩
        · exact h1.elim
    refine .inl ⟨a, rfl, first, ?_⟩
    refine ⟨fun i m σ' H' => ∃ ρ' M' δ', Ext ρ1 H1 ρ' H' ∧ Rep c ρ' M' H' ∧ RS c ρ' H' δ' σ' ∧ PostS c W ρ' H' Dn (forObj n g fb m i δ' M'), ⟨_, ρ1, M1, δ, .refl, P1, s1, h1⟩, ?_⟩
    rintro i m σ2 H2 ⟨ρ2, M2, δ2, e2, P2, s2, h2⟩
    cases m with
    | zero => exact h2.elim
    | succ m =>
      simp only [forObj] at h2
      split at h2
      · rename_i ds eM
        obtain ⟨xs, q1, rs⟩ := look e2 P2 eM
        have hl := RDs.len _ _ rs
        split at h2
        · rename_i e9
          refine .inl ⟨⟨xs, .of q1, ?_⟩, h2 ρ2 H2 σ2 .refl P2 s2⟩
          have := List.getElem?_eq_none_iff.mp e9
          omega
        · rename_i d e9
          obtain ⟨v, hv, rv⟩ := RDs.get _ _ rs i d e9
          refine .inr ⟨⟨xs, v, .of q1, hv⟩, fun σ' H' => ∃ ρ' M' δ', Ext ρ1 H1 ρ' H' ∧ Rep c ρ' M' H' ∧ RS c ρ' H' δ' σ' ∧ PostS c W ρ' H' Dn (forObj n g fb m (i + 1) δ' M'), ?_, fun x H3 y => ?_⟩
          · intro σ' H' q
            exact ⟨m, Nat.lt_succ_self m, q⟩
          · obtain ⟨rfl, hx⟩ := y
            have hx' := hx xs (.of q1)
            rw [hv] at hx'
            cases hx'
            refine turn_sim (next := fun δ' M' => forObj n g fb m (i + 1) δ' M') sg sb P2 s2 rv h2 fun ρ' M' H' δ' σ' e' P' s' h' => ?_
            exact ⟨ρ', M', δ', e2.trans e', P', s', h'⟩
      · exact h2.elim
  | _ => exact h1.elim
theorem vs_forR (I : InS c X W k N sc) (hC : Cold X) {tg e : Expr} {body : List Stmt} {g : FG} {fb : FS} {p pos' : Pos} (n : Gn sc "range") (hm : c.mg "range" = none) (he : VE c X W e f) (hg : VG c X tg g) (hb : VSs c X W body fb)
    (hs : ∀ x, foldedSetIterable (.Call (.Name "range" p) [e] [] pos') X.env x = pure x := by intro _; rfl) (hst : starEach [e] X.env = [(false, eval e X.env)] := by rfl) :
    VS c X W (.For tg (.Call (.Name "range" p) [e] [] pos') body [] pos) (sForR f g fb) := by
  obtain ⟨t, p, s⟩ := he
  obtain ⟨tgt, pg, sg⟩ := hg
  obtain ⟨tb, pb, sb⟩ := hb
  refine ⟨_, ps_for I.own hC.calm (pi_range1 (I.gl n) (by rw [I.hmg]; exact hm) (pa_cons p pa_nil hst) hst) pg pb hs, fun ρ M H δ σ Dn P r h => ?_⟩
  refine s.ro P r h fun d M1 ρ1 H1 v e1 P1 s1 r1 _ h1 => ?_
  cases d with
  | int j =>
    simp only [RD] at r1
    subst r1
    simp only at h1
    split at h1
    · rename_i hz
      have hz : -(2 ^ 62) ≤ j ∧ j < 2 ^ 62 := by
        have := lim_le hz
        omega
      refine ⟨j, rfl, hz.1, hz.2, ?_⟩
      refine ⟨fun i m σ' H' => ∃ ρ' M' δ', m = j.toNat - i ∧ i ≤ j.toNat ∧ Ext ρ1 H1 ρ' H' ∧ Rep c ρ' M' H' ∧ RS c ρ' H' δ' σ' ∧ PostS c W ρ' H' Dn (forR g fb (j.toNat - i) (i : Int) δ' M'), ⟨j.toNat, ρ1, M1, δ, by simp, Nat.zero_le _, .refl, P1, s1, by simpa using h1⟩, ?_⟩
      rintro i m σ2 H2 ⟨ρ2, M2, δ2, rfl, hi, e2, P2, s2, h2⟩
      by_cases hlt : i < j.toNat
      · obtain ⟨q, hq⟩ : ∃ q, j.toNat - i = q + 1 := ⟨j.toNat - i - 1, by omega⟩
        have hq' : j.toNat - (i + 1) = q := by omega
        rw [hq] at h2
        refine .inr ⟨hlt, fun σ' H' => ∃ ρ' M' δ', Ext ρ1 H1 ρ' H' ∧ Rep c ρ' M' H' ∧ RS c ρ' H' δ' σ' ∧ PostS c W ρ' H' Dn (forR g fb q ((i + 1 : Nat) : Int) δ' M'), ?_, fun x H3 y => ?_⟩
        · rintro σ' H' ⟨ρ', M', δ', a1, a2, a3, a4⟩
          exact ⟨q, by omega, ρ', M', δ', hq'.symm, hlt, a1, a2, a3, by rw [hq']; exact a4⟩
        · obtain ⟨rfl, rfl⟩ := y
          refine turn_sim (next := fun δ' M' => forR g fb q ((i : Int) + 1) δ' M') sg sb P2 s2 (by simp only [RD]; rw [Int.zero_add]) h2 fun ρ' M' H' δ' σ' e' P' s' h' => ?_
          exact ⟨ρ', M', δ', e2.trans e', P', s', by simpa using h'⟩
      · have e : i = j.toNat := by omega
        subst e
        rw [Nat.sub_self] at h2
        exact .inl ⟨Nat.le_refl _, h2 ρ2 H2 σ2 .refl P2 s2⟩
    · exact h1.elim
  | _ => exact h1.elim

/-! ### while -/
def whileF (t : FT) (body : FS) : Nat → DSt → DM → Ro
  | 0, _, _ => .bad
  | n + 1, δ, M => match t δ M with
    | .ok true M1 => match body δ M1 with
      | .nx δ2 M2 => whileF t body n δ2 M2
      | .ct δ2 M2 => whileF t body n δ2 M2
      | .bk δ2 M2 => .nx δ2 M2
      | .rt d M2 => .rt d M2
      | .ex x δ2 M2 => .ex x δ2 M2
      | .bad => .bad
    | .ok false M1 => .nx δ M1
    | .ex x M1 => .ex x δ M1
    | .bad => .bad
def sWhile (fu : DSt → DM → Nat) (t : FT) (body : FS) : FS := fun δ M => whileF t body (fu δ M) δ M
theorem vs_while (I : InS c X W k N sc) (fu : DSt → DM → Nat) {body : List Stmt} {t : FT} {fb : FS} (ht : VT c X W e t) (hb : VSs c X W body fb) : VS c X W (.While e body [] pos) (sWhile fu t fb) := by
  obtain ⟨tt, p, s⟩ := ht
  obtain ⟨tb, pb, sb⟩ := hb
  refine ⟨_, ps_while I.own p pb, fun ρ M H δ σ Dn P r h => ?_⟩
  refine ⟨fun m σ' H' => ∃ ρ' M' δ', Ext ρ H ρ' H' ∧ Rep c ρ' M' H' ∧ RS c ρ' H' δ' σ' ∧ PostS c W ρ' H' Dn (whileF t fb m δ' M'), ⟨_, ρ, M, δ, .refl, P, r, h⟩, ?_⟩
  rintro m σ1 H1 ⟨ρ1, M1, δ1, e1, P1, s1, h1⟩
  cases m with
  | zero => exact h1.elim
  | succ m =>
    refine s ρ1 M1 H1 δ1 σ1 _ P1 s1 ?_
    simp only [whileF] at h1
    cases e2 : t δ1 M1 with
    | ok b M2 =>
      rw [e2] at h1
      intro ρ2 H2 b' e3 P2 rb
      cases rb
      have s2 := s1.mono e3
      cases b with
      | false =>
        simp only [Bool.false_eq_true, if_false]
        exact h1 ρ2 H2 σ1 e3 P2 s2
      | true =>
        simp only [if_true]
        refine ⟨fun σ' H' => ∃ ρ' M' δ', Ext ρ H ρ' H' ∧ Rep c ρ' M' H' ∧ RS c ρ' H' δ' σ' ∧ PostS c W ρ' H' Dn (whileF t fb m δ' M'), fun σ' H' q => ⟨m, Nat.lt_succ_self m, q⟩, ?_⟩
        refine sb ρ2 M2 H2 δ1 σ1 _ P2 s2 ?_
        have h2 := PostS.mono e3 h1
        simp only at h2
        have e13 := e1.trans e3
        cases e4 : fb δ1 M2 with
        | nx δ2 M3 =>
          rw [e4] at h2
          intro ρ3 H3 σ3 e5 P3 s3
          exact ⟨ρ3, M3, δ2, e13.trans e5, P3, s3, PostS.mono e5 h2⟩
        | ct δ2 M3 =>
          rw [e4] at h2
          intro ρ3 H3 σ3 e5 P3 s3
          exact ⟨ρ3, M3, δ2, e13.trans e5, P3, s3, PostS.mono e5 h2⟩
        | bk δ2 M3 => rw [e4] at h2; exact h2
        | rt d M3 => rw [e4] at h2; exact h2
        | ex x δ2 M3 => rw [e4] at h2; exact h2
        | bad => rw [e4] at h2; exact h2
    | ex x M2 =>
      rw [e2] at h1
      intro ρ2 H2 cls od e3 P2 rx
      exact h1 ρ2 H2 σ1 cls od e3 P2 (s1.mono e3) rx
    | bad => rw [e2] at h1; exact h1

/-! ### defs -/
/-- what a def promises: what g says -/
def spOf (c : Ctx) (n : Nat) (g : List D → DM → Rs D) : Sp := fun vs H Q E => ∃ ρ M ds, Rep c ρ M H ∧ RDs c ρ H ds vs ∧ ds.length = n ∧ Post c E ρ H (RD c) Q (g ds M)
/-- a def of the module that keeps it -/
structure Callee (c : Ctx) (x : Str) (k n : Nat) (g : List D → DM → Rs D) : Prop where
  ex : ∃ f fd ps, FnOk c.P c.w c.K c.mg c.base (L2.CX c.P c.w) k f fd ps (spOf c n g) ∧ c.mg x = some (.ref f) ∧ PySem.W.keepIn c.K (.ref f) = true ∧ Binds c.K fd ps []
theorem Callee.mono {x : Str} {j n : Nat} {g : List D → DM → Rs D} (C : Callee c x j n g) (h : j ≤ k) : Callee c x k n g := by
  obtain ⟨f, fd, ps, F, h1, h2, h3⟩ := C.ex
  exact ⟨f, fd, ps, F.mono h, h1, h2, h3⟩
theorem ve_call {x : Str} {p : Pos} {es : List Expr} {n : Nat} {g : List D → DM → Rs D} {fa : FA} (I : In c X W k N sc) (hC : Cold X) (nm : Gn sc x) (C : Callee c x k n g) (ha : VA c X W (e :: es) fa) (hn : (e :: es).length = n := by rfl)
    (he : starEach (e :: es) X.env = (false, eval e X.env) :: starEach es X.env := by rfl) (hpl : (backTo pos (starEach es X.env)).any (·.1) = false := by rfl) : VE c X W (.Call (.Name x p) (e :: es) [] pos) (eCall g fa) := by
  obtain ⟨f, fd, ps, F, h1, h2, h3⟩ := C.ex
  obtain ⟨⟨t, pa, s⟩, hl⟩ := ha
  rw [← I.hP, ← I.hw, ← I.hK, ← I.hmg, ← I.hb] at F
  refine ⟨_, pe_callS F (hC.room I) (I.gl nm) (by rw [I.hmg]; exact h1) (by rw [I.hK]; exact h2) (by rw [I.hK]; exact h3) (fun σ => passAt I.take σ) pa nm.db he hpl, fun ρ M H δ σ Q P r h => ?_⟩
  refine s.bind P r h fun xs M1 ρ1 H1 vs e1 P1 s1 r1 e2 h1 => ?_
  exact ⟨ρ1, M1, xs, P1, r1, by rw [hl _ _ _ _ e2]; exact hn, h1⟩
theorem ve_call0 {x : Str} {p : Pos} {g : List D → DM → Rs D} (I : In c X W k N sc) (hC : Cold X) (nm : Gn sc x) (C : Callee c x k 0 g) : VE c X W (.Call (.Name x p) [] [] pos) (eCall g aNil) := by
  obtain ⟨f, fd, ps, F, h1, h2, h3⟩ := C.ex
  rw [← I.hP, ← I.hw, ← I.hK, ← I.hmg, ← I.hb] at F
  refine ⟨tCallS (spOf c 0 g) (WE W) tNil, ⟨fun pins s σ H Q J h => ?_⟩, fun ρ M H δ σ Q P r h => ?_⟩
  · refine wpAny_Call_Name_kw (ld_glob J (I.gl nm) (by rw [I.hmg]; exact h1) ?_ nm.db)
    exact PySem.W.callWith_K0 J.kIn (by rw [I.hK]; exact h2) (run_fnS (us := []) F (hC.room I) (by rw [I.hK]; exact h3) (passAt I.take σ) J .nil h)
  · exact ⟨ρ, M, [], P, by simp only [RDs], rfl, h⟩
def dstart (N : List Str) (ds : List D) : DSt := ds.map some ++ List.replicate (N.length - ds.length) none
/-- a def's function from its body's -/
def fnD (n : Nat) (fb : FS) (ds : List D) (M : DM) : Rs D := (fb (ds.map some ++ List.replicate (n - ds.length) none) M).fin
theorem RS.start {ρ : List Addr} {H : Hp} {ds : List D} {vs : List V} (r : RDs c ρ H ds vs) : RS c ρ H (ds.map some ++ List.replicate (N.length - ds.length) none) (L2.start N vs) := by
  have hl := RDs.len _ _ r
  refine ⟨by simp [L2.start, hl], fun i d h => ?_⟩
  by_cases hi : i < ds.length
  · rw [List.getElem?_append_left (by simpa using hi), List.getElem?_map] at h
    cases e : ds[i]? with
    | none => rw [e] at h; cases h
    | some d' =>
      rw [e] at h
      cases h
      obtain ⟨v, h1, h2⟩ := RDs.get _ _ r i _ e
      refine ⟨v, ?_, h2⟩
      unfold L2.start
      rw [List.getElem?_append_left (by simpa [← hl] using hi), List.getElem?_map, h1]
      rfl
  · rw [List.getElem?_append_right (by simpa using hi), List.getElem?_replicate] at h
    split at h <;> cases h
theorem fnok_of {x qual : Str} {st : Stmt} {f : Addr} {fd : FuncData} {ps : List Str} {fb : FS} (F : Fun c.K x qual st f fd) (S : FnScope N ps (defScope st))
    (body : ∀ (X : Cx) (W : WX), InS c X W k N (defScope st) → Cold X → VSs c X W (defBody st) fb) : FnOk c.P c.w c.K c.mg c.base (L2.CX c.P c.w) (k + 1) f fd ps (spOf c ps.length (fnD N.length fb)) := by
  refine F.okX S (fun vs H Q E ⟨ρ, M, ds, P, r, hl, h⟩ => by rw [← RDs.len _ _ r, hl]) (fun cdv A outer s H vs Q E hr hsp => ?_)
  obtain ⟨ρ, M, ds, P, r, hl, h⟩ := hsp
  obtain ⟨t, p, sm⟩ := body (cxOf (L2.CX c.P c.w) c.P c.w c.K c.mg c.base N qual (defScope st) f cdv A outer s H E) (fun cls d _ H => E cls d H)
    ⟨⟨rfl, rfl, rfl, rfl, rfl, rfl, S.nd, rfl, ⟨hr.dp, hr.un⟩, takes_of rfl rfl rfl rfl, passes_of rfl⟩, fun _ => rfl, rfl, rfl, rfl⟩ ⟨rfl, hr.hd⟩
  refine ⟨t, p, ?_⟩
  refine sm ρ M H _ _ _ P (RS.start r) ?_
  unfold fnD at h
  cases e : fb (ds.map some ++ List.replicate (N.length - ds.length) none) M with
  | nx δ1 M1 =>
    rw [e] at h
    exact fun ρ' H' σ' e' P' s' => h ρ' H' .non e' P' (by simp only [RD])
  | rt d M1 =>
    rw [e] at h
    exact fun ρ' H' v e' P' r' => h ρ' H' v e' P' r'
  | bk δ1 M1 => rw [e] at h; exact h.elim
  | ct δ1 M1 => rw [e] at h; exact h.elim
  | ex x δ1 M1 =>
    rw [e] at h
    exact fun ρ' H' σ' cls od e' P' s' rx => h ρ' H' cls od e' P' rx
  | bad => rw [e] at h; exact h.elim
theorem callee_of {x qual : Str} {st : Stmt} {f : Addr} {fd : FuncData} {ps : List Str} {fb : FS} (F : Fun c.K x qual st f fd) (S : FnScope N ps (defScope st)) (hm : c.mg x = some (.ref f)) (hb : Binds c.K fd ps [])
    (body : ∀ (X : Cx) (W : WX), InS c X W k N (defScope st) → Cold X → VSs c X W (defBody st) fb) : Callee c x (k + 1) ps.length (fnD N.length fb) :=
  ⟨f, fd, ps, fnok_of F S body, hm, F.kp, hb⟩
/-- a def that is never called further down -/
theorem callee_none {x qual : Str} {st : Stmt} {f : Addr} {fd : FuncData} {ps : List Str} (F : Fun c.K x qual st f fd) (hm : c.mg x = some (.ref f)) (hb : Binds c.K fd ps []) (n k : Nat) : Callee c x k n (fun _ _ => .bad) :=
  ⟨f, fd, ps, ⟨fun vs H Q E ⟨ρ, M, ds, P, r, hl, h⟩ => h.elim, fun A outer s H args us vs Q E hr e0 hb r ⟨ρ, M, ds, P, r, hl, h⟩ => h.elim⟩, hm, F.kp, hb⟩
end
end DL

set_option Elab.async false
set_option linter.all false
set_option maxRecDepth 100000
set_option maxHeartbeats 2000000
namespace DL
open PySem PySem.Spec L2
open PyProof.Rows hiding St
/-- a plain def of the module -/
structure DefAt (c : Ctx) (x qual : Str) (st : Stmt) (ps : List Str) : Prop where
  ex : ∃ f fd, c.mg x = some (.ref f) ∧ Fun c.K x qual st f fd ∧ Binds c.K fd ps []
section
variable {c : Ctx} {k : Nat} {N ps : List Str} {x qual : Str} {st : Stmt} {fb : FS}
theorem callee_def (F : DefAt c x qual st ps) (S : FnScope N ps (defScope st)) (body : ∀ (X : Cx) (W : WX), InS c X W k N (defScope st) → Cold X → VSs c X W (defBody st) fb) : Callee c x (k + 1) ps.length (fnD N.length fb) := by
  obtain ⟨f, fd, h1, h2, h3⟩ := F.ex
  exact callee_of h2 S h1 h3 body
theorem callee_zero (F : DefAt c x qual st ps) (n k : Nat) : Callee c x k n (fun _ _ => .bad) := by
  obtain ⟨f, fd, h1, h2, h3⟩ := F.ex
  exact callee_none h2 h1 h3 n k
end
/-- the law's promise -/
def spLaw (K : PySem.W.Frag) : Sp := fun vs H Q _ => ∃ (a : Addr) (ns : List Int), vs = [.ref a] ∧ RolAt K H a (ns.map V.int) ∧ ns.length ≤ 63 ∧ ∀ H', Q (.bl true) H'
theorem rds_ints {c : Ctx} {ρ : List Addr} {H : Hp} : ∀ ns : List Int, RDs c ρ H (ns.map D.int) (ns.map V.int)
  | [] => by simp only [List.map_nil, RDs]
  | n :: ns => by
    simp only [List.map_cons, RDs]
    exact ⟨_, _, rfl, by simp only [RD], rds_ints ns⟩
/-- the law's function gives True -/
theorem law_sp {c : Ctx} {k : Nat} {f : Addr} {fd : FuncData} {ps : List Str} {g : List D → DM → Rs D} (F : FnOk c.P c.w c.K c.mg c.base (L2.CX c.P c.w) k f fd ps (spOf c 1 g)) (h : ∀ ns : List Int, ns.length ≤ 63 → ∃ M, g [.rol (ns.map .int)] [] = .ok (.bl true) M) :
    FnOk c.P c.w c.K c.mg c.base (L2.CX c.P c.w) k f fd ps (spLaw c.K) := by
  refine F.imp fun vs H Q E hs => ?_
  obtain ⟨a, ns, rfl, hr, hl, q⟩ := hs
  obtain ⟨M, hm⟩ := h ns hl
  refine ⟨[], [], [.rol (ns.map .int)], ⟨rfl, List.nodup_nil, fun i mo a h => by simp at h⟩, ?_, rfl, ?_⟩
  · simp only [RDs]
    exact ⟨_, [], rfl, by simp only [RD]; exact ⟨a, _, rfl, hr, rds_ints ns⟩, rfl⟩
  · rw [hm]
    intro ρ' H' b e P r
    simp only [RD] at r
    subst r
    exact q H'
theorem only_rol {K : PySem.W.Frag} {H : Hp} {a : Addr} {xs : List V} (hO : Only H) (h : SqL K H a xs) : RolAt K H a xs := by
  rcases h with (h | ⟨o, h⟩) | h
  · rcases hO a with z | ⟨o, ys, z⟩
    · rw [h] at z; cases z
    · rw [h] at z; cases z
  · exact .inl ⟨o, h⟩
  · exact .inr h
end DL

set_option Elab.async false
set_option linter.all false
set_option maxRecDepth 100000
set_option maxHeartbeats 4000000
namespace DL
open PySem PySem.Spec L2
open PyProof.Rows hiding St
/-! ### the plain side -/
theorem ofString_inj {a b : String} : (Str.ofString a = Str.ofString b) = (a = b) := by
  refine propext ⟨fun h => ?_, fun h => by rw [h]⟩
  rw [Str.ofString_eq_toList, Str.ofString_eq_toList] at h
  have h1 : a.toList.map Char.toNat = b.toList.map Char.toNat := by
    have := congrArg (fun s : Str => s.cps.toList) h
    simpa using this
  have h2 : a.toList = b.toList := by
    refine (List.map_inj_right (f := Char.toNat) ?_).mp h1
    intro x y e
    exact Char.ext (UInt32.toNat_inj.mp e)
  exact String.toList_inj.mp h2
def Rs.sat {α : Type} (r : Rs α) (Q : α → DM → Prop) : Prop := match r with
  | .ok a M => Q a M
  | _ => False
theorem sat_ok {α : Type} {a : α} {M : DM} {Q : α → DM → Prop} : (Rs.ok a M).sat Q = Q a M := rfl
theorem sat_eq {α : Type} {r : Rs α} {a : α} {M : DM} {Q : α → DM → Prop} (h : r = .ok a M) (q : Q a M) : r.sat Q := by rw [h]; exact q
theorem sat_bind {α β : Type} {r : Rs α} {k : α → DM → Rs β} {Q : β → DM → Prop} : ((r.bind k).sat Q) = r.sat fun a M => (k a M).sat Q := by
  cases r <;> rfl
theorem sat_mono {α : Type} {r : Rs α} {Q Q' : α → DM → Prop} (h : r.sat Q) (q : ∀ a M, Q a M → Q' a M) : r.sat Q' := by
  cases r with
  | ok a M => exact q _ _ h
  | ex e M => exact h
  | bad => exact h
theorem sat_get {α : Type} {r : Rs α} {Q : α → DM → Prop} (h : r.sat Q) : ∃ a M, r = .ok a M ∧ Q a M := by
  cases r with
  | ok a M => exact ⟨a, M, rfl, h⟩
  | ex e M => exact h.elim
  | bad => exact h.elim
/-- behind a statement: what holds where it goes on, where it returns, where it breaks off -/
def Ro.sat (r : Ro) (Q : Ro → Prop) : Prop := match r with
  | .bad => False
  | .ex _ _ _ => False
  | r => Q r
theorem ro_sat_mono {r : Ro} {Q Q' : Ro → Prop} (h : r.sat Q) (q : ∀ r, Q r → Q' r) : r.sat Q' := by
  cases r <;> first | exact h.elim | exact q _ h
def seqQ (k : DSt → DM → Ro) (R : Ro → Prop) (r : Ro) : Prop := match r with
  | .nx δ M => (k δ M).sat R
  | r => R r
def finQ (Q : D → DM → Prop) (r : Ro) : Prop := match r with
  | .nx _ M => Q .non M
  | .rt d M => Q d M
  | _ => False
theorem sat_fin {r : Ro} {Q : D → DM → Prop} : (r.fin).sat Q = r.sat (finQ Q) := by cases r <;> rfl
theorem sat_seq {r : Ro} {k : DSt → DM → Ro} {R : Ro → Prop} : (r.seq k).sat R = r.sat (seqQ k R) := by cases r <;> rfl
theorem sat_ro {α : Type} {r : Rs α} {δ : DSt} {k : α → DM → Ro} {R : Ro → Prop} : (r.ro δ k).sat R = r.sat fun a M => (k a M).sat R := by cases r <;> rfl
theorem rsat_nx {δ : DSt} {M : DM} {R : Ro → Prop} : (Ro.nx δ M).sat R = R (.nx δ M) := rfl
theorem rsat_rt {d : D} {M : DM} {R : Ro → Prop} : (Ro.rt d M).sat R = R (.rt d M) := rfl
theorem rsat_ct {δ : DSt} {M : DM} {R : Ro → Prop} : (Ro.ct δ M).sat R = R (.ct δ M) := rfl
theorem rsat_bk {δ : DSt} {M : DM} {R : Ro → Prop} : (Ro.bk δ M).sat R = R (.bk δ M) := rfl
theorem seqQ_nx {δ : DSt} {M : DM} {k : DSt → DM → Ro} {R : Ro → Prop} : seqQ k R (.nx δ M) = (k δ M).sat R := rfl
theorem seqQ_rt {d : D} {M : DM} {k : DSt → DM → Ro} {R : Ro → Prop} : seqQ k R (.rt d M) = R (.rt d M) := rfl
theorem seqQ_ct {δ : DSt} {M : DM} {k : DSt → DM → Ro} {R : Ro → Prop} : seqQ k R (.ct δ M) = R (.ct δ M) := rfl
theorem seqQ_bk {δ : DSt} {M : DM} {k : DSt → DM → Ro} {R : Ro → Prop} : seqQ k R (.bk δ M) = R (.bk δ M) := rfl
theorem finQ_nx {δ : DSt} {M : DM} {Q : D → DM → Prop} : finQ Q (.nx δ M) = Q .non M := rfl
theorem finQ_rt {d : D} {M : DM} {Q : D → DM → Prop} : finQ Q (.rt d M) = Q d M := rfl
theorem bind_ok {α β : Type} {a : α} {M : DM} {k : α → DM → Rs β} : (Rs.ok a M).bind k = k a M := rfl
theorem ro_ok {α : Type} {a : α} {M : DM} {δ : DSt} {k : α → DM → Ro} : (Rs.ok a M).ro δ k = k a M := rfl
theorem seq_nx {δ : DSt} {M : DM} {k : DSt → DM → Ro} : (Ro.nx δ M).seq k = k δ M := rfl
theorem seq_rt {d : D} {M : DM} {k : DSt → DM → Ro} : (Ro.rt d M).seq k = .rt d M := rfl
theorem seq_ct {δ : DSt} {M : DM} {k : DSt → DM → Ro} : (Ro.ct δ M).seq k = .ct δ M := rfl
theorem seq_bk {δ : DSt} {M : DM} {k : DSt → DM → Ro} : (Ro.bk δ M).seq k = .bk δ M := rfl
theorem fin_nx {δ : DSt} {M : DM} : (Ro.nx δ M).fin = .ok .non M := rfl
theorem fin_rt {d : D} {M : DM} : (Ro.rt d M).fin = .ok d M := rfl
theorem ix0 {a : D} {l : List D} {M : DM} : ixD (.tup (a :: l)) (.int 0) M = .ok a M := by
  have h : (0 : Int) < ((a :: l).length : Int) := by rw [List.length_cons]; omega
  show ixItems (.tup (a :: l)) 0 M = _
  unfold ixItems
  simp only [itemsD, atI, ixN, Int.le_refl, if_true, h, Option.bind_some]
  rfl
theorem ixn {l : List D} {k : Nat} {a : D} {M : DM} (h : l[k]? = some a) : ixD (.tup l) (.int k) M = .ok a M := by
  show ixItems (.tup l) k M = _
  unfold ixItems
  simp only [itemsD]
  rw [atI_nat h]
theorem ix1 {a b : D} {l : List D} {M : DM} : ixD (.tup (a :: b :: l)) (.int 1) M = .ok b M := ixn (k := 1) rfl
theorem ix2 {a b c : D} {l : List D} {M : DM} : ixD (.tup (a :: b :: c :: l)) (.int 2) M = .ok c M := ixn (k := 2) rfl
theorem ix3 {a b c d : D} {l : List D} {M : DM} : ixD (.tup (a :: b :: c :: d :: l)) (.int 3) M = .ok d M := ixn (k := 3) rfl
theorem ix4 {a b c d e : D} {l : List D} {M : DM} : ixD (.tup (a :: b :: c :: d :: e :: l)) (.int 4) M = .ok e M := ixn (k := 4) rfl
/-- an item of a list of ours -/
theorem ixo {n k : Nat} {ds : List D} {a : D} {M : DM} (hM : M[n]? = some (.lst ds)) (h : ds[k]? = some a) : ixD (.obj n) (.int k) M = .ok a M := by
  show ixItems (.obj n) k M = _
  unfold ixItems
  simp only [itemsD, hM]
  rw [atI_nat h]
theorem ixs {s : Str} {k : Nat} {q : Nat} {M : DM} (hl : s.length ≤ sizeLine) (h : s.cps.toList[k]? = some q) : ixD (.str s) (.int k) M = .ok (.str ⟨#[q]⟩) M := by
  simp only [ixD, hl, if_true]
  rw [atI_nat h]
theorem eq_ss {a b : Str} {M : DM} : eqD (.str a) (.str b) M = .ok (.bl (decide (a = b))) M := by
  simp only [eqD, toPy, PyData.eqv]
  rfl
theorem eq_ii {a b : Int} {M : DM} : eqD (.int a) (.int b) M = .ok (.bl (decide (a = b))) M := by
  simp only [eqD, toPy, PyData.eqv]
  rfl
theorem eq_bb {a b : Bool} {M : DM} : eqD (.bl a) (.bl b) M = .ok (.bl (decide (a = b))) M := by
  simp only [eqD, toPy, PyData.eqv]
  rfl
theorem ne_ss {a b : Str} {M : DM} : neD (.str a) (.str b) M = .ok (.bl (!decide (a = b))) M := by
  simp only [neD, toPy, PyData.eqv]
  rfl
theorem ne_ii {a b : Int} {M : DM} : neD (.int a) (.int b) M = .ok (.bl (!decide (a = b))) M := by
  simp only [neD, toPy, PyData.eqv]
  rfl
theorem add_ii {a b : Int} {M : DM} : addD (.int a) (.int b) M = .ok (.int (a + b)) M := rfl
theorem add_ss {a b : Str} {M : DM} (h : a.length + b.length ≤ sizeLine) : addD (.str a) (.str b) M = .ok (.str (a ++ b)) M := by
  simp only [addD, h, if_true]
theorem sub_ii {a b : Int} {M : DM} : subD (.int a) (.int b) M = .ok (.int (a - b)) M := rfl
theorem mul_ii {a b : Int} {M : DM} (h : lim 18446744073709551615 b = true) : mulD (.int a) (.int b) M = .ok (.int (a * b)) M := by
  simp only [mulD, arD, h, Bool.or_true, if_true]
theorem mod_ii {a b : Int} {M : DM} (h : 0 < b) : modD (.int a) (.int b) M = .ok (.int (a % b)) M := by
  simp only [modD, arD, decide_eq_true h, if_true]
theorem fdiv_ii {a b : Int} {M : DM} (h : 0 < b) (h' : lim 1073741823 b = true) : fdivD (.int a) (.int b) M = .ok (.int (a / b)) M := by
  simp only [fdivD, arD, decide_eq_true h, h', Bool.and_self, if_true]
theorem ord_ii {p : Int → Int → Bool} {a b : Int} {M : DM} : ordD p (.int a) (.int b) M = .ok (.bl (p a b)) M := rfl
theorem isN_ {x : D} {M : DM} : isN x .non M = .ok (.bl (isNonD x)) M := rfl
theorem int_i {i : Int} {M : DM} : intD [.int i] M = .ok (.int i) M := rfl
theorem ixo0 {n : Nat} {a : D} {l : List D} {M : DM} (h : n < M.length) : ixD (.obj n) (.int 0) (M.set n (.lst (a :: l))) = .ok a (M.set n (.lst (a :: l))) := ixo (k := 0) (List.getElem?_set_self h) rfl
theorem ixo1 {n : Nat} {a b : D} {l : List D} {M : DM} (h : n < M.length) : ixD (.obj n) (.int 1) (M.set n (.lst (a :: b :: l))) = .ok b (M.set n (.lst (a :: b :: l))) := ixo (k := 1) (List.getElem?_set_self h) rfl
theorem ixo2 {n : Nat} {a b c : D} {l : List D} {M : DM} (h : n < M.length) : ixD (.obj n) (.int 2) (M.set n (.lst (a :: b :: c :: l))) = .ok c (M.set n (.lst (a :: b :: c :: l))) := ixo (k := 2) (List.getElem?_set_self h) rfl
theorem ixo3 {n : Nat} {a b c d : D} {l : List D} {M : DM} (h : n < M.length) : ixD (.obj n) (.int 3) (M.set n (.lst (a :: b :: c :: d :: l))) = .ok d (M.set n (.lst (a :: b :: c :: d :: l))) := ixo (k := 3) (List.getElem?_set_self h) rfl
theorem ixo4 {n : Nat} {a b c d e : D} {l : List D} {M : DM} (h : n < M.length) : ixD (.obj n) (.int 4) (M.set n (.lst (a :: b :: c :: d :: e :: l))) = .ok e (M.set n (.lst (a :: b :: c :: d :: e :: l))) := ixo (k := 4) (List.getElem?_set_self h) rfl
theorem put_at {n k : Nat} {ds : List D} {M : DM} {d : D} (h : M[n]? = some (.lst ds)) (hk : k < ds.length) : putD (.obj n) (.int k) d M = some (M.set n (.lst (ds.set k d))) := by
  have e : ixN ds.length (k : Int) = some k := by
    unfold ixN
    rw [if_pos (by omega), if_pos (by omega)]
    simp
  simp only [putD, h, e]
theorem put1 {n : Nat} {a b d : D} {l : List D} {M : DM} (h : M[n]? = some (.lst (a :: b :: l))) : putD (.obj n) (.int 1) d M = some (M.set n (.lst (a :: d :: l))) := put_at (k := 1) h (by simp only [List.length_cons]; omega)
theorem put2 {n : Nat} {a b c d : D} {l : List D} {M : DM} (h : M[n]? = some (.lst (a :: b :: c :: l))) : putD (.obj n) (.int 2) d M = some (M.set n (.lst (a :: b :: d :: l))) := put_at (k := 2) h (by simp only [List.length_cons]; omega)
theorem put3 {n : Nat} {a b c e d : D} {l : List D} {M : DM} (h : M[n]? = some (.lst (a :: b :: c :: e :: l))) : putD (.obj n) (.int 3) d M = some (M.set n (.lst (a :: b :: c :: d :: l))) := put_at (k := 3) h (by simp only [List.length_cons]; omega)
theorem put4 {n : Nat} {a b c e f d : D} {l : List D} {M : DM} (h : M[n]? = some (.lst (a :: b :: c :: e :: f :: l))) : putD (.obj n) (.int 4) d M = some (M.set n (.lst (a :: b :: c :: e :: d :: l))) := put_at (k := 4) h (by simp only [List.length_cons]; omega)
theorem puts1 {n : Nat} {a b d : D} {l : List D} {M : DM} (h : n < M.length) : putD (.obj n) (.int 1) d (M.set n (.lst (a :: b :: l))) = some (M.set n (.lst (a :: d :: l))) := by rw [put1 (List.getElem?_set_self h), List.set_set]
theorem puts2 {n : Nat} {a b c d : D} {l : List D} {M : DM} (h : n < M.length) : putD (.obj n) (.int 2) d (M.set n (.lst (a :: b :: c :: l))) = some (M.set n (.lst (a :: b :: d :: l))) := by rw [put2 (List.getElem?_set_self h), List.set_set]
theorem puts3 {n : Nat} {a b c e d : D} {l : List D} {M : DM} (h : n < M.length) : putD (.obj n) (.int 3) d (M.set n (.lst (a :: b :: c :: e :: l))) = some (M.set n (.lst (a :: b :: c :: d :: l))) := by rw [put3 (List.getElem?_set_self h), List.set_set]
theorem puts4 {n : Nat} {a b c e f d : D} {l : List D} {M : DM} (h : n < M.length) : putD (.obj n) (.int 4) d (M.set n (.lst (a :: b :: c :: e :: f :: l))) = some (M.set n (.lst (a :: b :: c :: e :: d :: l))) := by rw [put4 (List.getElem?_set_self h), List.set_set]
/-- the first step of a for -/
theorem itemsD_tup {ds : List D} {M : DM} : itemsD (.tup ds) M = some ds := rfl
theorem itemsD_rol {ds : List D} {M : DM} : itemsD (.rol ds) M = some ds := rfl
/-- behind a turn -/
def loopQ (N : DSt → DM → Prop) (R : Ro → Prop) (r : Ro) : Prop := match r with
  | .nx δ M => N δ M
  | .ct δ M => N δ M
  | .bk δ M => R (.nx δ M)
  | r => R r
theorem loopQ_nx {N : DSt → DM → Prop} {R : Ro → Prop} {δ : DSt} {M : DM} : loopQ N R (.nx δ M) = N δ M := rfl
theorem loopQ_ct {N : DSt → DM → Prop} {R : Ro → Prop} {δ : DSt} {M : DM} : loopQ N R (.ct δ M) = N δ M := rfl
theorem loopQ_bk {N : DSt → DM → Prop} {R : Ro → Prop} {δ : DSt} {M : DM} : loopQ N R (.bk δ M) = R (.nx δ M) := rfl
theorem loopQ_rt {N : DSt → DM → Prop} {R : Ro → Prop} {d : D} {M : DM} : loopQ N R (.rt d M) = R (.rt d M) := rfl
theorem turn_sat {g : FG} {body : FS} {d : D} {δ : DSt} {M : DM} {N : DSt → DM → Prop} {R : Ro → Prop} {next : DSt → DM → Ro} (h : ∃ δ1 M1, g d δ M = some (δ1, M1) ∧ (body δ1 M1).sat (loopQ N R)) (hn : ∀ δ' M', N δ' M' → (next δ' M').sat R) :
    Ro.sat (match g d δ M with
      | none => .bad
      | some (δ1, M1) => match body δ1 M1 with
        | .nx δ2 M2 => next δ2 M2
        | .ct δ2 M2 => next δ2 M2
        | .bk δ2 M2 => .nx δ2 M2
        | .rt d M2 => .rt d M2
        | .ex x δ2 M2 => .ex x δ2 M2
        | .bad => .bad) R := by
  obtain ⟨δ1, M1, e1, h1⟩ := h
  simp only [e1]
  cases e : body δ1 M1 with
  | nx δ2 M2 => rw [e] at h1; exact hn δ2 M2 h1
  | ct δ2 M2 => rw [e] at h1; exact hn δ2 M2 h1
  | bk δ2 M2 => rw [e] at h1; exact h1
  | rt d M2 => rw [e] at h1; exact h1
  | ex x δ2 M2 => rw [e] at h1; exact h1
  | bad => rw [e] at h1; exact h1
/-- a loop over items that stand still, by an invariant -/
theorem forDs_sat {g : FG} {body : FS} {R : Ro → Prop} (J : Nat → DSt → DM → Prop) : ∀ (ds : List D) (i : Nat) (δ : DSt) (M : DM)
    (step : ∀ j d δ M, ds[j]? = some d → J (i + j) δ M → ∃ δ1 M1, g d δ M = some (δ1, M1) ∧ (body δ1 M1).sat (loopQ (J (i + j + 1)) R)) (fin : ∀ δ M, J (i + ds.length) δ M → R (.nx δ M)) (h : J i δ M), (forDs g body ds δ M).sat R
  | [], i, δ, M, _, fin, h => fin δ M h
  | d :: ds, i, δ, M, step, fin, h => by
    refine turn_sat (next := fun δ' M' => forDs g body ds δ' M') (step 0 d δ M rfl h) fun δ' M' q => ?_
    refine forDs_sat J ds (i + 1) δ' M' (fun j d δ M hd hJ => ?_) (fun δ M q => fin δ M (by rw [List.length_cons, show i + (ds.length + 1) = i + 1 + ds.length by omega]; exact q)) q
    have := step (j + 1) d δ M (by simpa using hd) (by rw [show i + (j + 1) = i + 1 + j by omega]; exact hJ)
    rw [show i + (j + 1) + 1 = i + 1 + j + 1 by omega] at this
    exact this
theorem forObj_sat {n : Nat} {g : FG} {body : FS} {R : Ro → Prop} (ds : List D) (J : Nat → DSt → DM → Prop) (hJ : ∀ i δ M, J i δ M → M[n]? = some (.lst ds))
    (step : ∀ i d δ M, ds[i]? = some d → J i δ M → ∃ δ1 M1, g d δ M = some (δ1, M1) ∧ (body δ1 M1).sat (loopQ (J (i + 1)) R)) (fin : ∀ δ M, J ds.length δ M → R (.nx δ M)) : ∀ (m i : Nat) (δ : DSt) (M : DM), i ≤ ds.length → ds.length - i < m → J i δ M → (forObj n g body m i δ M).sat R
  | 0, i, δ, M, _, hm, _ => absurd hm (Nat.not_lt_zero _)
  | m + 1, i, δ, M, hi, hm, h => by
    simp only [forObj, hJ i δ M h]
    cases e : ds[i]? with
    | none =>
      have := List.getElem?_eq_none_iff.mp e
      have e' : i = ds.length := by omega
      subst e'
      exact fin δ M h
    | some d =>
      have hlt := (List.getElem?_eq_some_iff.mp e).1
      exact turn_sat (next := fun δ' M' => forObj n g body m (i + 1) δ' M') (step i d δ M e h) fun δ' M' q => forObj_sat ds J hJ step fin m (i + 1) δ' M' hlt (by omega) q
theorem forR_sat {g : FG} {body : FS} {R : Ro → Prop} (J : Nat → DSt → DM → Prop)
    : ∀ (n i : Nat) (δ : DSt) (M : DM) (step : ∀ j δ M, i ≤ j → j < i + n → J j δ M → ∃ δ1 M1, g (.int j) δ M = some (δ1, M1) ∧ (body δ1 M1).sat (loopQ (J (j + 1)) R)) (fin : ∀ δ M, J (i + n) δ M → R (.nx δ M)), J i δ M → (forR g body n (i : Int) δ M).sat R
  | 0, i, δ, M, _, fin, h => fin δ M h
  | n + 1, i, δ, M, step, fin, h => by
    show Ro.sat (match g (.int i) δ M with
      | none => .bad
      | some (δ1, M1) => match body δ1 M1 with
        | .nx δ2 M2 => forR g body n ((i : Int) + 1) δ2 M2
        | .ct δ2 M2 => forR g body n ((i : Int) + 1) δ2 M2
        | .bk δ2 M2 => .nx δ2 M2
        | .rt d M2 => .rt d M2
        | .ex x δ2 M2 => .ex x δ2 M2
        | .bad => .bad) R
    refine turn_sat (next := fun δ' M' => forR g body n ((i : Int) + 1) δ' M') (step i δ M (Nat.le_refl _) (by omega) h) fun δ' M' q => ?_
    rw [← Int.natCast_succ]
    exact forR_sat J n (i + 1) δ' M' (fun j δ M h1 h2 hJ => step j δ M (by omega) (by omega) hJ) (fun δ M q => fin δ M (by rw [show i + (n + 1) = i + 1 + n by omega]; exact q)) q
/-- for x in a tuple -/
theorem sforT_sat {fu : DSt → DM → Nat} {f : FE} {g : FG} {body : FS} {δ : DSt} {M M' : DM} {ds : List D} {R : Ro → Prop} (h : f δ M = .ok (.tup ds) M') (J : Nat → DSt → DM → Prop) (h0 : J 0 δ M')
    (step : ∀ j d δ M, ds[j]? = some d → J j δ M → ∃ δ1 M1, g d δ M = some (δ1, M1) ∧ (body δ1 M1).sat (loopQ (J (j + 1)) R)) (fin : ∀ δ M, J ds.length δ M → R (.nx δ M)) : (sFor fu f g body δ M).sat R := by
  unfold sFor
  rw [h]
  exact forDs_sat J ds 0 δ M' (fun j d δ M hd hJ => by rw [Nat.zero_add] at hJ ⊢; exact step j d δ M hd hJ) (fun δ M q => fin δ M (by rw [Nat.zero_add] at q; exact q)) h0
/-- for x in a list of ours -/
theorem sforO_sat {fu : DSt → DM → Nat} {f : FE} {g : FG} {body : FS} {δ : DSt} {M M' : DM} {n : Nat} (ds : List D) {R : Ro → Prop} (h : f δ M = .ok (.obj n) M') (J : Nat → DSt → DM → Prop) (hJ : ∀ i δ M, J i δ M → M[n]? = some (.lst ds)) (h0 : J 0 δ M')
    (step : ∀ j d δ M, ds[j]? = some d → J j δ M → ∃ δ1 M1, g d δ M = some (δ1, M1) ∧ (body δ1 M1).sat (loopQ (J (j + 1)) R)) (fin : ∀ δ M, J ds.length δ M → R (.nx δ M)) : (sFor fu f g body δ M).sat R := by
  unfold sFor
  rw [h]
  refine forObj_sat ds J hJ step fin _ 0 δ M' (Nat.zero_le _) ?_ h0
  unfold fuelOf
  simp only [itemsD, hJ 0 δ M' h0]
  show ds.length - 0 < fu δ M' + (ds.length + 1)
  omega
/-- for i in range(n) -/
theorem sforR_sat {f : FE} {g : FG} {body : FS} {δ : DSt} {M M' : DM} {n : Int} {R : Ro → Prop} (h : f δ M = .ok (.int n) M') (hn : rngOk n = true) (J : Nat → DSt → DM → Prop) (h0 : J 0 δ M')
    (step : ∀ (j : Nat) δ M, (j : Int) < n → J j δ M → ∃ δ1 M1, g (.int j) δ M = some (δ1, M1) ∧ (body δ1 M1).sat (loopQ (J (j + 1)) R)) (fin : ∀ δ M, J n.toNat δ M → R (.nx δ M)) : (sForR f g body δ M).sat R := by
  unfold sForR
  rw [h]
  simp only [ro_ok, hn, if_true]
  exact forR_sat J n.toNat 0 δ M' (fun j δ M _ h2 hJ => step j δ M (by omega) hJ) (fun δ M q => fin δ M (by rw [Nat.zero_add] at q; exact q)) h0
theorem len_o {n : Nat} {ds : List D} {M : DM} (h : M[n]? = some (.lst ds)) : lenD [.obj n] M = .ok (.int ds.length) M := by simp only [lenD, itemsD, h]
theorem len_t {ds : List D} {M : DM} : lenD [.tup ds] M = .ok (.int ds.length) M := rfl
theorem len_s {s : Str} {M : DM} (h : s.length ≤ sizeLine) : lenD [.str s] M = .ok (.int s.length) M := by simp only [lenD, h, if_true]
theorem pow_18 {M : DM} : powD (.int 10) (.int 18) M = .ok (.int 1000000000000000000) M := rfl
/-! step by step -/
theorem sseq_nx {f g : FS} {δ δ' : DSt} {M M' : DM} (h : f δ M = .nx δ' M') : sSeq f g δ M = g δ' M' := by unfold sSeq; rw [h]; rfl
theorem sseq_rt {f g : FS} {δ : DSt} {d : D} {M M' : DM} (h : f δ M = .rt d M') : sSeq f g δ M = .rt d M' := by unfold sSeq; rw [h]; rfl
theorem sif_no {t : FT} {f g : FS} {δ : DSt} {M M' : DM} (h : t δ M = .ok false M') : sIf t f g δ M = g δ M' := by unfold sIf; rw [h]; rfl
theorem sif_none {t : FT} {f : FS} {δ : DSt} {M M' : DM} (h : t δ M = .ok false M') : sIf t f sNil δ M = .nx δ M' := sif_no h
theorem sif_yes {t : FT} {f g : FS} {δ : DSt} {M M' : DM} (h : t δ M = .ok true M') : sIf t f g δ M = f δ M' := by unfold sIf; rw [h]; rfl
theorem tb_ok {f : FE} {δ : DSt} {M M' : DM} {b : Bool} (h : f δ M = .ok (.bl b) M') : tb f δ M = .ok b M' := by unfold tb; rw [h]; rfl
theorem tnot_ok {f : FT} {δ : DSt} {M M' : DM} {b : Bool} (h : f δ M = .ok b M') : tNotF f δ M = .ok (!b) M' := by unfold tNotF; rw [h]; rfl
theorem tand_no {f g : FT} {δ : DSt} {M M' : DM} (h : f δ M = .ok false M') : tAndF f g δ M = .ok false M' := by unfold tAndF; rw [h]; rfl
theorem tand_yes {f g : FT} {δ : DSt} {M M' : DM} (h : f δ M = .ok true M') : tAndF f g δ M = g δ M' := by unfold tAndF; rw [h]; rfl
theorem tor_no {f g : FT} {δ : DSt} {M M' : DM} (h : f δ M = .ok false M') : tOrF f g δ M = g δ M' := by unfold tOrF; rw [h]; rfl
theorem tor_yes {f g : FT} {δ : DSt} {M M' : DM} (h : f δ M = .ok true M') : tOrF f g δ M = .ok true M' := by unfold tOrF; rw [h]; rfl
theorem call1_eq {g : List D → DM → Rs D} {f : FE} {δ : DSt} {M M' : DM} {x : D} (h : f δ M = .ok x M') : eCall g (aCons f aNil) δ M = g [x] M' := by unfold eCall aCons; rw [h]; rfl
theorem call2_eq {g : List D → DM → Rs D} {f f' : FE} {δ : DSt} {M M' M2 : DM} {x y : D} (h : f δ M = .ok x M') (h' : f' δ M' = .ok y M2) : eCall g (aCons f (aCons f' aNil)) δ M = g [x, y] M2 := by
  unfold eCall aCons
  rw [h]
  simp only [Rs.bind, h', aNil]
theorem e2_eq {op : D → D → DM → Rs D} {f f' : FE} {δ : DSt} {M M' M2 : DM} {x y : D} (h : f δ M = .ok x M') (h' : f' δ M' = .ok y M2) : e2 op f f' δ M = op x y M2 := by
  unfold e2
  rw [h]
  simp only [Rs.bind, h']
theorem var_eq {i : Nat} {δ : DSt} {d : D} {M : DM} (h : δ[i]? = some (some d)) : eVar i δ M = .ok d M := by unfold eVar; rw [h]
theorem sforR_eq {f : FE} {g : FG} {body : FS} {δ : DSt} {M M' : DM} {n : Nat} {r : Ro} (h : f δ M = .ok (.int (n : Int)) M') (hn : rngOk n = true) (hr : forR g body n 0 δ M' = r) : sForR f g body δ M = r := by
  unfold sForR
  rw [h]
  show (if rngOk (n : Int) = true then forR g body (n : Int).toNat 0 δ M' else .bad) = r
  rw [if_pos hn, Int.toNat_natCast]
  exact hr
end DL

set_option Elab.async false
set_option linter.all false
set_option maxRecDepth 100000
set_option maxHeartbeats 2000000
namespace DL
open PySem PySem.Spec L2
open PyProof.Rows hiding St
section
variable {c : Ctx} {X : Cx} {W : WX} {k : Nat} {N : List Str} {sc : Scope} {a b : Expr} {fa fb : FE} {pos : Pos}
/-! ### dicts as data -/
def keyD : D → Option Key
  | .int i => some (.inl i)
  | .str s => some (.inr s)
  | _ => none
def getK : List (Key × D) → Key → Option D
  | [], _ => none
  | p :: r, k => if p.1 = k then some p.2 else getK r k
def setK : List (Key × D) → Key → D → List (Key × D)
  | [], _, _ => []
  | p :: r, k, d => (if p.1 = k then (p.1, d) else p) :: setK r k d
def putKD (kvs : List (Key × D)) (k : Key) (d : D) : List (Key × D) := if (getK kvs k).isSome = true then setK kvs k d else kvs ++ [(k, d)]
theorem keyD_rel {ρ : List Addr} {H : Hp} {x : D} {v : V} {q : Key} (r : RD c ρ H x v) (h : keyD x = some q) : v = kV q := by
  cases x with
  | int i => simp only [RD] at r; cases h; exact r
  | str i => simp only [RD] at r; cases h; exact r
  | _ => cases h
theorem RK.get {ρ : List Addr} {H : Hp} (q : Key) : ∀ (kvs : List (Key × D)) (ws : List (Key × V)), RK c ρ H kvs ws → (match getK kvs q with | some d => ∃ v, valV ws q = some v ∧ RD c ρ H d v | none => valV ws q = none)
  | [], ws, h => by simp only [RK] at h; subst h; rfl
  | (n, d) :: ds, ws, h => by
    simp only [RK] at h
    obtain ⟨x, xs, rfl, h1, h2⟩ := h
    unfold getK
    by_cases e : n = q
    · rw [if_pos e]
      exact ⟨x, valV_pos (p := (n, x)) e, h1⟩
    · rw [if_neg e, valV_neg (p := (n, x)) e]
      exact RK.get q ds xs h2
theorem RK.isSome {ρ : List Addr} {H : Hp} {q : Key} {kvs : List (Key × D)} {ws : List (Key × V)} (h : RK c ρ H kvs ws) : (getK kvs q).isSome = (valV ws q).isSome := by
  have := RK.get q kvs ws h
  cases e : getK kvs q with
  | none => rw [e] at this; rw [this]; rfl
  | some d => rw [e] at this; obtain ⟨v, h1, _⟩ := this; rw [h1]; rfl
theorem RK.len {ρ : List Addr} {H : Hp} : ∀ (kvs : List (Key × D)) (ws : List (Key × V)), RK c ρ H kvs ws → kvs.length = ws.length
  | [], ws, h => by simp only [RK] at h; subst h; rfl
  | (n, d) :: ds, ws, h => by
    simp only [RK] at h
    obtain ⟨x, xs, rfl, h1, h2⟩ := h
    rw [List.length_cons, List.length_cons, RK.len ds xs h2]
theorem RK.set {ρ : List Addr} {H : Hp} {d : D} {v : V} {q : Key} (r : RD c ρ H d v) : ∀ (kvs : List (Key × D)) (ws : List (Key × V)), RK c ρ H kvs ws → RK c ρ H (setK kvs q d) (ws.map fun kv => if kv.1 = q then (kv.1, v) else kv)
  | [], ws, h => by simp only [RK] at h; subst h; simp only [setK, List.map_nil, RK]
  | (n, e) :: ds, ws, h => by
    simp only [RK] at h
    obtain ⟨x, xs, rfl, h1, h2⟩ := h
    unfold setK
    rw [List.map_cons]
    by_cases z : n = q
    · rw [if_pos z, if_pos z]
      simp only [RK]
      exact ⟨v, _, rfl, r, RK.set r ds xs h2⟩
    · rw [if_neg z, if_neg z]
      simp only [RK]
      exact ⟨x, _, rfl, h1, RK.set r ds xs h2⟩
theorem RK.snoc {ρ : List Addr} {H : Hp} {d : D} {v : V} {q : Key} (r : RD c ρ H d v) : ∀ (kvs : List (Key × D)) (ws : List (Key × V)), RK c ρ H kvs ws → RK c ρ H (kvs ++ [(q, d)]) (ws ++ [(q, v)])
  | [], ws, h => by
    simp only [RK] at h
    subst h
    simp only [List.nil_append, RK]
    exact ⟨v, [], rfl, r, rfl⟩
  | (n, e) :: ds, ws, h => by
    simp only [RK] at h
    obtain ⟨x, xs, rfl, h1, h2⟩ := h
    simp only [List.cons_append, RK]
    exact ⟨x, _, rfl, h1, RK.snoc r ds xs h2⟩
theorem RK.put {ρ : List Addr} {H : Hp} {d : D} {v : V} {q : Key} {kvs : List (Key × D)} {ws : List (Key × V)} (r : RD c ρ H d v) (h : RK c ρ H kvs ws) : RK c ρ H (putKD kvs q d) (putK ws q v) := by
  unfold putKD putK
  rw [valV_any, h.isSome]
  by_cases z : (valV ws q).isSome = true
  · rw [if_pos z, if_pos z]
    exact RK.set r _ _ h
  · rw [if_neg z, if_neg z]
    exact RK.snoc r _ _ h
/-! ### in: a sign of a text, a key of a dict, an item -/
def inD (x y : D) (M : DM) : Rs D := match y with
  | .str z => match x with
    | .str s => match s.cps.toList with
      | [q] => .ok (.bl (decide (q ∈ z.cps.toList))) M
      | _ => .bad
    | _ => .bad
  | .obj n => match M[n]? with
    | some (.dic kvs) => match keyD x with
      | some q => .ok (.bl (getK kvs q).isSome) M
      | none => .bad
    | _ => inSeqD x (.obj n) M
  | y => inSeqD x y M
def ninD (x y : D) (M : DM) : Rs D := match y with
  | .str z => match x with
    | .str s => match s.cps.toList with
      | [q] => .ok (.bl (!decide (q ∈ z.cps.toList))) M
      | _ => .bad
    | _ => .bad
  | .obj n => match M[n]? with
    | some (.dic kvs) => match keyD x with
      | some q => .ok (.bl (!(getK kvs q).isSome)) M
      | none => .bad
    | _ => ninSeqD x (.obj n) M
  | y => ninSeqD x y M
def rInS (neg : Bool) : R2 := fun x y H Q => ∃ (c : Nat) (z : Str), x = .str ⟨#[c]⟩ ∧ y = .str z ∧ Q (.bl (if neg = true then !decide (c ∈ z.cps.toList) else decide (c ∈ z.cps.toList))) H
def rInK (neg : Bool) : R2 := fun y x H Q => ∃ a o, x = .ref a ∧ DGet H a y o ∧ Q (.bl (if neg = true then !o.isSome else o.isSome)) H
def rInA (K : PySem.W.Frag) (neg : Bool) : R2 := fun x y H Q => rInP K neg x y H Q ∨ rInS neg x y H Q ∨ rInK neg x y H Q
theorem op_inK (hu : X.A.units + 1 < cLine) : OpR X (compareOp .In) (rInK false) := by
  intro pins s σ H y x v u Q I ry rx h
  obtain ⟨a, ov, ex, g, q⟩ := h
  subst ex
  obtain rfl : u = Value.ref a := rx
  exact d_in hu I g ry fun s3 I3 => ⟨.bl ov.isSome, H, I3, rfl, q⟩
theorem op_ninK (hu : X.A.units + 1 < cLine) : OpR X (compareOp .NotIn) (rInK true) := by
  intro pins s σ H y x v u Q I ry rx h
  obtain ⟨a, ov, ex, g, q⟩ := h
  subst ex
  obtain rfl : u = Value.ref a := rx
  exact d_notIn hu I g ry fun s3 I3 => ⟨.bl (!ov.isSome), H, I3, rfl, q⟩
theorem op_inA (hu : X.A.units + 200 < cLine) : OpR X (compareOp .In) (rInA X.K false) := (op_inP hu).or (OpR.or op_in_sign (op_inK (by omega)))
theorem op_ninA (hu : X.A.units + 200 < cLine) : OpR X (compareOp .NotIn) (rInA X.K true) := (op_ninP hu).or (OpR.or op_notIn_sign (op_ninK (by omega)))
theorem one_sign {s : Str} {q : Nat} (h : s.cps.toList = [q]) : s = ⟨#[q]⟩ := by
  cases s with
  | mk cs =>
    have : cs = #[q] := by apply Array.toList_inj.mp; exact h
    rw [this]
theorem o_in : Op2 c W (rInA c.K false) inD := by
  intro ρ M H σ x y v u Q P rx ry h
  cases y with
  | str z =>
    simp only [RD] at ry
    subst ry
    simp only [inD] at h
    cases x with
    | str s =>
      simp only [RD] at rx
      subst rx
      simp only at h
      split at h
      · rename_i q e
        rw [one_sign e]
        exact .inr (.inl ⟨q, z, rfl, rfl, h ρ H _ .refl P (by simp only [RD]; rfl)⟩)
      · exact h.elim
    | _ => exact h.elim
  | obj n =>
    simp only [inD] at h
    split at h
    · rename_i kvs eM
      split at h
      · rename_i q ek
        have ry' := ry
        simp only [RD] at ry'
        obtain ⟨p, rfl, hp⟩ := ry'
        obtain ⟨ws, h1, h2⟩ := P.at_ _ _ _ eM hp
        have ev := keyD_rel rx ek
        subst ev
        exact .inr (.inr ⟨p, _, rfl, DGet.k h1, h ρ H _ .refl P (by simp only [RD]; rw [← h2.isSome]; rfl)⟩)
      · exact h.elim
    · exact .inl (o_inSeq ρ M H σ x _ v u Q P rx ry h)
  | _ => exact .inl (o_inSeq ρ M H σ x _ v u Q P rx ry h)
theorem o_nin : Op2 c W (rInA c.K true) ninD := by
  intro ρ M H σ x y v u Q P rx ry h
  cases y with
  | str z =>
    simp only [RD] at ry
    subst ry
    simp only [ninD] at h
    cases x with
    | str s =>
      simp only [RD] at rx
      subst rx
      simp only at h
      split at h
      · rename_i q e
        rw [one_sign e]
        exact .inr (.inl ⟨q, z, rfl, rfl, h ρ H _ .refl P (by simp only [RD]; rfl)⟩)
      · exact h.elim
    | _ => exact h.elim
  | obj n =>
    simp only [ninD] at h
    split at h
    · rename_i kvs eM
      split at h
      · rename_i q ek
        have ry' := ry
        simp only [RD] at ry'
        obtain ⟨p, rfl, hp⟩ := ry'
        obtain ⟨ws, h1, h2⟩ := P.at_ _ _ _ eM hp
        have ev := keyD_rel rx ek
        subst ev
        exact .inr (.inr ⟨p, _, rfl, DGet.k h1, h ρ H _ .refl P (by simp only [RD]; rw [← h2.isSome]; rfl)⟩)
      · exact h.elim
    · exact .inl (o_ninSeq ρ M H σ x _ v u Q P rx ry h)
  | _ => exact .inl (o_ninSeq ρ M H σ x _ v u Q P rx ry h)
theorem ve_in (I : In c X W k N sc) (ha : VE c X W a fa) (hb : VE c X W b fb) (hm : behindInMarks .In b = false := by rfl) : VE c X W (.Compare a [.In] [b] pos) (e2 inD fa fb) := ve_cmp (by have h := op_inA I.hu; rw [I.hK] at h; exact h) o_in ha hb hm
theorem vt_in (I : In c X W k N sc) (ha : VE c X W a fa) (hb : VE c X W b fb) (hm : behindInMarks .In b = false := by rfl) : VT c X W (.Compare a [.In] [b] pos) (tb (e2 inD fa fb)) := vt_cmp (by have h := op_inA I.hu; rw [I.hK] at h; exact h) o_in ha hb hm
theorem ve_nin (I : In c X W k N sc) (ha : VE c X W a fa) (hb : VE c X W b fb) (hm : behindInMarks .NotIn b = false := by rfl) : VE c X W (.Compare a [.NotIn] [b] pos) (e2 ninD fa fb) := ve_cmp (by have h := op_ninA I.hu; rw [I.hK] at h; exact h) o_nin ha hb hm
theorem vt_nin (I : In c X W k N sc) (ha : VE c X W a fa) (hb : VE c X W b fb) (hm : behindInMarks .NotIn b = false := by rfl) : VT c X W (.Compare a [.NotIn] [b] pos) (tb (e2 ninD fa fb)) := vt_cmp (by have h := op_ninA I.hu; rw [I.hK] at h; exact h) o_nin ha hb hm
/-! ### d[k], o[i] -/
def gixD (x y : D) (M : DM) : Rs D := match x with
  | .obj n => match M[n]? with
    | some (.dic kvs) => match keyD y with
      | some q => match getK kvs q with
        | some d => .ok d M
        | none => .bad
      | none => .bad
    | _ => ixD (.obj n) y M
  | x => ixD x y M
def rDGet : R2 := fun x y H Q => ∃ a v, x = .ref a ∧ DGet H a y (some v) ∧ Q v H
theorem ix_dict (hu : X.A.units + 1 < cLine) : IxR X rDGet := by
  intro value slice pins s σ H x y v u Q I rx ry h hs
  obtain ⟨a, w', ex, g, q⟩ := h
  subst ex
  obtain rfl : v = Value.ref a := rx
  exact tail_any (dict_typeIs I g) PySem.F.slot_dict_getitem.lookup (d_getItem hu I g ry fun w2 s3 I3 rw' => ⟨w', H, I3, rw', q⟩) hs
theorem ix_all (hu : X.A.units + 1 < cLine) : IxR X (fun x y H Q => rIx X.K x y H Q ∨ rDGet x y H Q) := ix_seq.or (ix_dict hu)
theorem o_gix : Op2 c W (fun x y H Q => rIx c.K x y H Q ∨ rDGet x y H Q) gixD := by
  intro ρ M H σ x y v u Q P rx ry h
  cases x with
  | obj n =>
    simp only [gixD] at h
    split at h
    · rename_i kvs eM
      split at h
      · rename_i q ek
        split at h
        · rename_i d ed
          simp only [RD] at rx
          obtain ⟨p, rfl, hp⟩ := rx
          obtain ⟨ws, h1, h2⟩ := P.at_ _ _ _ eM hp
          have ev := keyD_rel ry ek
          subst ev
          have g := RK.get q kvs ws h2
          rw [ed] at g
          obtain ⟨w', g1, g2⟩ := g
          exact .inr ⟨p, w', rfl, by rw [← g1]; exact DGet.k h1, h ρ H _ .refl P g2⟩
        · exact h.elim
      · exact h.elim
    · exact .inl (o_ix ρ M H σ _ y v u Q P rx ry h)
  | _ => exact .inl (o_ix ρ M H σ _ y v u Q P rx ry h)
theorem ve_gix (I : In c X W k N sc) (ha : VE c X W a fa) (hb : VE c X W b fb) (hs : PlainIx b := by exact fun _ _ => rfl) : VE c X W (.Subscript a b pos) (e2 gixD fa fb) := by
  obtain ⟨ta, pa, sa⟩ := ha
  obtain ⟨tb, pb, sb⟩ := hb
  have hu := I.hu
  exact ⟨_, pe_ix (by have h := ix_all (X := X) (by omega); rw [I.hK] at h; exact h) pa pb hs, sim2 (ta := ta) (tb := tb) sa sb o_gix⟩
/-! ### d[k] = e, o[i] = e -/
def gputD (o i d : D) (M : DM) : Option DM := match o with
  | .obj n => match M[n]? with
    | some (.dic kvs) => match keyD i with
      | some q => if kvs.length < sizeLine then some (M.set n (.dic (putKD kvs q d))) else none
      | none => none
    | _ => putD (.obj n) i d M
  | _ => none
def sPut (fe fo fi : FE) : FS := fun δ M => (fe δ M).ro δ fun d M1 => (fo δ M1).ro δ fun o M2 => (fi δ M2).ro δ fun i M3 => match gputD o i d M3 with
  | some M4 => .nx δ M4
  | none => .bad
def rSetA : TSet := fun o i v H Q => rSetL o i v H Q ∨ ∃ a H', o = .ref a ∧ DPut H a i v H' ∧ Q H'
theorem set_any (hu : X.A.units + 1 < cLine) : PSet X rSetA := by
  intro pins s σ H o i v ov iv u Q I ro ri rv h
  rcases h with h | ⟨a, H', ex, g, q⟩
  · exact set_list pins s σ H o i v ov iv u Q I ro ri rv h
  · subst ex
    obtain rfl : ov = Value.ref a := ro
    exact d_setItem hu I g ri rv fun s4 I4 => ⟨H', I4, q⟩
theorem post_dic {ρ : List Addr} {M : DM} {H : Hp} {i : Nat} {a : Addr} {ds' : List (Key × D)} {xs' : List (Key × V)} (P : Rep c ρ M H) (h1 : ρ[i]? = some a) (r : RK c ρ H ds' xs') :
    Rep c ρ (M.set i (.dic ds')) (upd H a (.dK xs')) ∧ Ext ρ H ρ (upd H a (.dK xs')) := by
  have m := (P.there (List.mem_of_getElem? h1)).choose_spec.2
  have e : Ext ρ H ρ (upd H a (.dK xs')) := Ext.write m
  exact ⟨P.write h1 ⟨xs', upd_same, RK.mono e _ _ r⟩, e⟩
theorem gput_ok {ρ : List Addr} {M M4 : DM} {H : Hp} {o i d : D} {ov iv v : V} {Q : Hp → Prop} (P : Rep c ρ M H) (ro : RD c ρ H o ov) (ri : RD c ρ H i iv) (rd : RD c ρ H d v) (h : gputD o i d M = some M4)
    (hQ : ∀ H', Ext ρ H ρ H' → Rep c ρ M4 H' → Q H') : rSetA ov iv v H Q := by
  cases o with
  | obj n =>
    simp only [RD] at ro
    obtain ⟨a, rfl, ha⟩ := ro
    simp only [gputD] at h
    split at h
    · rename_i kvs eM
      split at h
      · rename_i q ek
        split at h
        · rename_i hz
          cases h
          obtain ⟨ws, q1, q2⟩ := P.at_ _ _ _ eM ha
          have ev := keyD_rel ri ek
          subst ev
          obtain ⟨P4, e4⟩ := post_dic P ha (q2.put (q := q) rd)
          exact .inr ⟨a, _, rfl, DPut.k q1 (by rw [← RK.len _ _ q2]; exact hz), hQ _ e4 P4⟩
        · cases h
      · cases h
    · cases i with
      | int j =>
        simp only [putD] at h
        cases eM : M[n]? with
        | none => rw [eM] at h; cases h
        | some mo =>
          rw [eM] at h
          cases mo with
          | lst ds =>
            simp only at h
            cases em : ixN ds.length j with
            | none => rw [em] at h; cases h
            | some m =>
              rw [em] at h
              cases h
              simp only [RD] at ri
              obtain ⟨xs, q1, q2⟩ := P.at_ _ _ _ eM ha
              obtain ⟨P4, e4⟩ := post_write (W := fun _ _ _ _ => True) (ds := ds) P ha (RDs.set _ _ q2 m _ _ rd)
              exact .inl ⟨a, xs, j, m, rfl, ri, q1, by rw [← RDs.len _ _ q2]; exact em, hQ _ e4 P4⟩
          | _ => cases h
      | _ => cases h
  | _ => cases h
theorem vs_put (I : In c X W k N sc) {o i e : Expr} {f fo fi : FE} {pos' : Pos} (he : VE c X W e f) (ho : VE c X W o fo) (hi : VE c X W i fi)
    (ha : ∀ v, assign (.Subscript o i pos') X.env v = (do
      let ov ← holding [v] (eval o X.env)
      let iv ← holding [v, ov] (eval i X.env)
      standAt pos'
      holding [v, ov, iv] (setItem ov iv v)
      release [v, ov, iv] []) := by intro _; rfl)
    (hs : swapsWithSole [.Subscript o i pos'] e pos.line X.env = pure false := by rfl) (hw : swappedStores [.Subscript o i pos'] e X.env = pure none := by rfl)
    (h1 : (assignEach [.Subscript o i pos'] X.env).map (·.2) = [assign (.Subscript o i pos') X.env] := by rfl) : VS c X W (.Assign [.Subscript o i pos'] e pos) (sPut f fo fi) := by
  obtain ⟨t, p, s⟩ := he
  obtain ⟨t1, p1, s1⟩ := ho
  obtain ⟨t2, p2, s2⟩ := hi
  have hu := I.hu
  refine ⟨_, ps_asg p (pg_sub p1 p2 (set_any (by omega)) ha) hs hw h1, fun ρ M H δ σ Dn P r h => ?_⟩
  refine s.ro P r h fun d M1 ρ1 H1 v e1 P1 s1' r1 q7 h1 => ?_
  clear q7
  refine s1.ro P1 s1' h1 fun o M2 ρ2 H2 ov e2 P2 s2' r2 q8 h2 => ?_
  clear q8
  refine s2.ro P2 s2' h2 fun i M3 ρ3 H3 iv e3 P3 s3' r3 q9 h3 => ?_
  clear q9
  cases em : gputD o i d M3 with
  | none => rw [em] at h3; exact h3.elim
  | some M4 =>
    rw [em] at h3
    exact gput_ok P3 (RD.mono e3 _ _ r2) r3 (RD.mono (e2.trans e3) _ _ r1) em fun H' e4 P4 => h3 ρ3 H' σ e4 P4 (s3'.mono e4)
/-! ### {} -/
def eDic0 : FE := fun _ M => .ok (.obj M.length) (M ++ [.dic []])
theorem ve_dic0 : VE c X W (.Dict [] [] pos) eDic0 := by
  refine ⟨_, pe_dnewK, fun ρ M H δ σ Q P r h => ?_⟩
  intro p hp
  exact h (ρ ++ [p]) _ (.ref p) (.alloc hp) (P.alloc hp ⟨[], upd_same, by simp only [RK]⟩) (RD.new P)
/-! ### a <= b <= c -/
def eCh (op op' : D → D → DM → Rs D) (f g h : FE) : FE := fun δ M => (f δ M).bind fun x M1 => (g δ M1).bind fun y M2 => (op x y M2).bind fun z M3 => match z with
  | .bl b => if b = true then (h δ M3).bind fun w M4 => op' y w M4 else .ok (.bl false) M3
  | _ => .bad
theorem Op2.bind {r : R2} {op : D → D → DM → Rs D} (o : Op2 c W r op) {ρ : List Addr} {M : DM} {H : Hp} {δ : DSt} {σ : St} {x y : D} {v u : V} {Q : VK} {kk : D → DM → Rs D} {T : VK} (P : Rep c ρ M H) (s : RS c ρ H δ σ) (rx : RD c ρ H x v) (ry : RD c ρ H y u)
    (h : Post c (WE W σ) ρ H (RD c) Q ((op x y M).bind kk))
    (hk : ∀ z M1 ρ1 H1 b, Ext ρ H ρ1 H1 → Rep c ρ1 M1 H1 → RS c ρ1 H1 δ σ → RD c ρ1 H1 z b → Post c (WE W σ) ρ1 H1 (RD c) Q (kk z M1) → T b H1) : r v u H T := by
  refine o ρ M H σ x y v u T P rx ry ?_
  cases e : op x y M with
  | ok z M1 =>
    rw [e] at h
    intro ρ1 H1 b e1 P1 r1
    exact hk z M1 ρ1 H1 b e1 P1 (s.mono e1) r1 (Post.mono e1 h)
  | ex q M1 => rw [e] at h; exact h
  | bad => rw [e] at h; exact h
theorem sim_chain {cc : Expr} {ta tb tc : TE} {r r' : R2} {op op' : D → D → DM → Rs D} {fc : FE} (ho : Op2 c W r op) (ho' : Op2 c W r' op') (sa : Sim c W (RD c) ta fa) (sb : Sim c W (RD c) tb fb) (sc' : Sim c W (RD c) tc fc) : Sim c W (RD c) (tChain r r' ta tb tc) (eCh op op' fa fb fc) := by
  intro ρ M H δ σ Q P s h
  refine sa.bind P s h fun x M1 ρ1 H1 v e1 P1 s1 r1 _ h1 => ?_
  refine sb.bind P1 s1 h1 fun y M2 ρ2 H2 u e2 P2 s2 r2 _ h2 => ?_
  refine ho.bind P2 s2 (RD.mono e2 _ _ r1) r2 h2 fun z M3 ρ3 H3 w e3 P3 s3 r3 h3 => ?_
  cases z with
  | bl b =>
    simp only [RD] at r3
    subst r3
    refine ⟨b, rfl, ?_⟩
    cases b with
    | true =>
      simp only [if_true] at h3 ⊢
      refine sc'.bind P3 s3 h3 fun q M4 ρ4 H4 u' e4 P4 s4 r4 _ h4 => ?_
      exact ho' ρ4 M4 H4 σ y q u u' Q P4 (RD.mono (e3.trans e4) _ _ r2) r4 h4
    | false =>
      simp only [Bool.false_eq_true, if_false] at h3 ⊢
      exact h3 ρ3 H3 _ .refl P3 (by simp only [RD])
  | _ => exact h3.elim
theorem ve_ch {op op' : CmpOp} {r r' : R2} {g g' : D → D → DM → Rs D} {cc : Expr} {fc : FE} (h : OpR X (compareOp op) r) (h' : OpR X (compareOp op') r') (hg : Op2 c W r g) (hg' : Op2 c W r' g') (ha : VE c X W a fa) (hb : VE c X W b fb) (hc : VE c X W cc fc)
    (hm : lastMarks [op, op'] [b, cc] = false := by with_unfolding_all rfl) : VE c X W (.Compare a [op, op'] [b, cc] pos) (eCh g g' fa fb fc) := by
  obtain ⟨ta, pa, sa⟩ := ha
  obtain ⟨tb, pb, sb⟩ := hb
  obtain ⟨tc, pc, sc'⟩ := hc
  exact ⟨_, pe_chain h h' pa pb pc hm, sim_chain (cc := cc) hg hg' sa sb sc'⟩
theorem vt_ch {op op' : CmpOp} {r r' : R2} {g g' : D → D → DM → Rs D} {cc : Expr} {fc : FE} (h : OpR X (compareOp op) r) (h' : OpR X (compareOp op') r') (hg : Op2 c W r g) (hg' : Op2 c W r' g') (ha : VE c X W a fa) (hb : VE c X W b fb) (hc : VE c X W cc fc)
    (hm : lastMarks [op, op'] [b, cc] = false := by with_unfolding_all rfl) : VT c X W (.Compare a [op, op'] [b, cc] pos) (tb (eCh g g' fa fb fc)) := by
  obtain ⟨ta, pa, sa⟩ := ha
  obtain ⟨tb', pb, sb⟩ := hb
  obtain ⟨tc, pc, sc'⟩ := hc
  exact ⟨_, pt_chain h h' pa pb pc hm, sim_tb (sim_chain (cc := cc) hg hg' sa sb sc')⟩
/-! ### order of texts, too -/
def ltSD (x y : D) (M : DM) : Rs D := match x, y with
  | .int i, .int j => .ok (.bl (decide (i < j))) M
  | .str i, .str j => .ok (.bl (decide (i.cps.toList < j.cps.toList))) M
  | _, _ => .bad
def rLtS : R2 := fun x y H Q => ∃ i j, x = .str i ∧ y = .str j ∧ Q (.bl (decide (i.cps.toList < j.cps.toList))) H
theorem o_ltS : Op2 c W (fun x y H Q => rI0 (fun i j => .bl (decide (i < j))) x y H Q ∨ rLtS x y H Q) ltSD := by
  intro ρ M H σ x y v u Q P rx ry h
  unfold ltSD at h
  split at h
  · simp only [RD] at rx ry
    exact .inl ⟨_, _, rx, ry, h ρ H _ .refl P (by simp only [RD])⟩
  · simp only [RD] at rx ry
    exact .inr ⟨_, _, rx, ry, h ρ H _ .refl P (by simp only [RD])⟩
  · exact h.elim
theorem ve_ltS (ha : VE c X W a fa) (hb : VE c X W b fb) : VE c X W (.Compare a [.Lt] [b] pos) (e2 ltSD fa fb) := ve_cmp (OpR.or op_lt op_lt_str) o_ltS ha hb (nomark _)
theorem vt_ltS (ha : VE c X W a fa) (hb : VE c X W b fb) : VT c X W (.Compare a [.Lt] [b] pos) (tb (e2 ltSD fa fb)) := vt_cmp (OpR.or op_lt op_lt_str) o_ltS ha hb (nomark _)
end
end DL

set_option Elab.async false
set_option linter.all false
set_option maxRecDepth 100000
set_option maxHeartbeats 2000000
namespace DL
open PySem PySem.Spec L2
open PyProof.Rows hiding St
/-! ### list.extend of a tuple -/
theorem meets_extend_tuple (l : Addr) (items : Array Value) (n : Nat) (b : Addr) (od : Option Addr) (sl : Array (Option Value)) (items2 : Array Value) (n2 : Nat) (hs0 : ¬(!items.isEmpty && Builtin.List.listTooLong (items.size + items2.size)) = true) (hs1 : items.size ≤ sizeLine) (hs2 : items.size + items2.size ≤ sizeLine + 1) :
    Meets (Builtin.«list.extend» ⟨[.ref l, .ref b], []⟩) (fun _ R s => s.heap.get? l = some { cls := .type "list", dict := none, data := .seq items n, slots := #[] } ∧ s.heap.get? b = some { cls := .type "tuple", dict := od, data := .seq items2 n2, slots := sl } ∧ R (.ok (.ret Value.none)) { s with heap := s.heap.update l (Obj.mapSeq fun x => x ++ items2), toks := s.toks }) :=
  .of_wp fun prog w A R s h => by
    obtain ⟨hp, g, d, tk, os⟩ := s; obtain ⟨hl, hb, h⟩ := h; have f1 := AutoSeq1.idx_int; have f2 := AutoSeq1.sub_tuple_tuple; have f3 := AutoSeq1.sub_list_list; have f4 := AutoSeq1.sub_tuple_list; have f5 := AutoSeq1.sub_list_tuple;
    have hz' : (items ++ items2).size ≤ sizeLine + 1 := by rw [Array.size_append]; exact hs2
    wp_walk using (wpAny_updateSeq hl rfl (hz := hs1) (_hz' := hz')), AutoSeq1.wpAny_loadPart' hl, AutoSeq1.wpAny_loadPart' hb; exact ⟨_, rfl, h⟩
def rExtT (K : PySem.W.Frag) : V → List V → Hp → VK → Prop := fun x vs H Q => ∃ l b xs zs, x = .ref l ∧ vs = [.ref b] ∧ H l = some (.lst xs) ∧ SqT K H b zs ∧ xs.length + zs.length ≤ sizeLine ∧ Q .non (upd H l (.lst (xs ++ zs)))
theorem mt_extT {X : Cx} : MtM X "list.extend" (rExtT X.K) := by
  intro pins s σ H x vs v us Q I rx rv h
  obtain ⟨l, b, xs, zs, rfl, rfl, hH, hB, hz, q⟩ := h
  cases rx
  obtain ⟨u, rfl, ru⟩ := rv.one
  cases ru
  obtain ⟨z, its, n, r, hl, e⟩ := I.lstM hH
  obtain ⟨its2, r2, ht, hz2⟩ := I.tuple hB
  obtain ⟨o, eo, ec, n2, ed⟩ := ht
  obtain ⟨cls, od, dat, sl⟩ := o
  simp only at ec ed
  subst ec ed
  have hl2 := r2.length
  have hsz : its.toArray.size + its2.toArray.size ≤ sizeLine := by rw [List.size_toArray, List.size_toArray]; omega
  have hlong : ¬ (!its.toArray.isEmpty && Builtin.List.listTooLong (its.toArray.size + its2.toArray.size)) = true := by
    rw [notLongL hsz, Bool.and_false]
    exact Bool.false_ne_true
  refine call_meets F.slot_list_extend ⟨_, e, rfl⟩ F.entry_list_extend (F.args_list_extend_2 _ _)
    (meets_extend_tuple l its.toArray n b od sl its2.toArray n2 hlong (by rw [List.size_toArray]; omega) (by omega)) ⟨e, eo, ?_⟩
  refine ⟨.non, _, I.lset (its' := its ++ its2) (t' := s.toks) hH e (by simp) (r.append r2) ?_, rfl, q⟩
  rw [List.length_append]
  omega
theorem MtR.or {X : Cx} {id : String} {r r' : V → List V → Hp → VK → Prop} (h : MtR X id r) (h' : MtR X id r') : MtR X id (fun x vs H Q => r x vs H Q ∨ r' x vs H Q) := by
  intro pins s σ H x xs v us Q I rx rv q
  rcases q with q | q
  · exact h pins s σ H x xs v us Q I rx rv q
  · exact h' pins s σ H x xs v us Q I rx rv q
section
variable {c : Ctx} {X : Cx} {W : WX} {k : Nat} {N : List Str} {sc : Scope} {a b : Expr} {fa fb : FE} {pos : Pos}
def extendD (x : D) (xs : List D) (M : DM) : Rs D := match x, xs with
  | .obj n, [.tup es] => match M[n]? with
    | some (.lst ds) => if ds.length + es.length ≤ sizeLine then .ok .non (M.set n (.lst (ds ++ es))) else .bad
    | _ => .bad
  | .obj n, [.obj m] => match M[n]?, M[m]? with
    | some (.lst ds), some (.lst es) => if ds.length + es.length ≤ sizeLine then .ok .non (M.set n (.lst (ds ++ es))) else .bad
    | _, _ => .bad
  | _, _ => .bad
theorem o_extend : OpM c W (fun x vs H Q => rExtend x vs H Q ∨ rExtT c.K x vs H Q) extendD := by
  intro ρ M H σ x v xs vs Q P rx rs h
  unfold extendD at h
  split at h
  · rename_i n es
    split at h
    · rename_i ds eM
      split at h
      · rename_i hz
        simp only [RD] at rx
        obtain ⟨a, rfl, ha⟩ := rx
        obtain ⟨y', rfl, ry⟩ := rds1 rs
        simp only [RD] at ry
        obtain ⟨b, ys, rfl, tb, rys⟩ := ry
        obtain ⟨zs, q1, q2⟩ := P.at_ _ _ _ eM ha
        obtain ⟨P4, e4⟩ := post_write (W := W) (ds := ds) P ha (RDs.append _ _ _ _ q2 rys)
        exact .inr ⟨a, b, zs, ys, rfl, rfl, q1, tb.sq, by rw [← RDs.len _ _ q2, ← RDs.len _ _ rys]; exact hz, h ρ _ .non e4 P4 (by simp only [RD])⟩
      · exact h.elim
    · exact h.elim
  · rename_i n m
    split at h
    · rename_i ds es eM eM2
      split at h
      · rename_i hz
        simp only [RD] at rx
        obtain ⟨a, rfl, ha⟩ := rx
        obtain ⟨y', rfl, ry⟩ := rds1 rs
        simp only [RD] at ry
        obtain ⟨b, rfl, hb⟩ := ry
        obtain ⟨zs, q1, q2⟩ := P.at_ _ _ _ eM ha
        obtain ⟨ys, q3, q4⟩ := P.at_ _ _ _ eM2 hb
        obtain ⟨P4, e4⟩ := post_write (W := W) (ds := ds) P ha (RDs.append _ _ _ _ q2 q4)
        exact .inl ⟨a, b, zs, ys, rfl, rfl, q1, q3, by rw [← RDs.len _ _ q2, ← RDs.len _ _ q4]; exact hz, h ρ _ .non e4 P4 (by simp only [RD])⟩
      · exact h.elim
    · exact h.elim
  · exact h.elim
theorem ve_extend {o e : Expr} {apos cpos : Pos} {fo : FE} {fa : FA} (I : In c X W k N sc) (ho : VE c X W o fo) (ha : VA c X W [e] fa)
    (hbase : attributeBase o "extend" X.env (eval o X.env) = eval o X.env := by rfl)
    (hfew : ((backTo cpos (starEach [e] X.env)).all (fun x => !x.1) && (backToKw cpos (keywordEach [] X.env)).all (fun x => x.1.isSome)
      && decide ([e].length + ([] : List Keyword).length + (if ([] : List Keyword).isEmpty then 0 else 1) < 30)) = true := by rfl)
    (hline : (apos.endLine == cpos.line) = true := by rfl) (hs : starEach [e] X.env = (false, eval e X.env) :: starEach [] X.env := by rfl) :
    VE c X W (.Call (.Attribute o "extend" apos) [e] [] cpos) (eMt "list" extendD fo fa) :=
  ve_bm I PySem.F.plainAttrs_list PySem.F.slot_list_extend PySem.F.type_list_extend (MtR.or mt_extend (by have h := mt_extT (X := X); rw [I.hK] at h; exact h)) o_extend ho ha hbase hfew hline hs rfl
/-! ### slices -/
def VO (c : Ctx) (X : Cx) (W : WX) (e : Option Expr) (f : DSt → DM → Rs (Option Int)) : Prop := ∃ t, PO X e t ∧ Sim c W (fun _ _ a b => a = b) t f
def oN : DSt → DM → Rs (Option Int) := fun _ M => .ok none M
def oS (f : FE) : DSt → DM → Rs (Option Int) := fun δ M => (f δ M).bind fun x M1 => match x with
  | .int i => .ok (some i) M1
  | _ => .bad
theorem vo_none : VO c X W none oN := ⟨_, po_none, fun ρ M H δ σ Q P s h => h ρ H none .refl P rfl⟩
theorem vo_some (h : VE c X W a fa) : VO c X W (some a) (oS fa) := by
  obtain ⟨t, p, s⟩ := h
  refine ⟨_, po_some p, fun ρ M H δ σ Q P r q => ?_⟩
  refine s.bind P r q fun x M1 ρ1 H1 v e1 P1 s1 r1 _ h1 => ?_
  cases x with
  | int i =>
    simp only [RD] at r1
    exact ⟨i, r1, h1 ρ1 H1 _ .refl P1 rfl⟩
  | _ => exact h1.elim
def cutD (ds : List D) (lo hi : Option Int) : List D := (ds.drop (HT.sIx ds.length 0 lo)).take (HT.sIx ds.length ds.length hi - HT.sIx ds.length 0 lo)
def sliceD (x : D) (lo hi : Option Int) (M : DM) : Rs D := match x with
  | .str s => if s.length ≤ sizeLine then .ok (.str (cutS s lo hi)) M else .bad
  | .tup ds => .ok (.tup (cutD ds lo hi)) M
  | .rol ds => .ok (.obj M.length) (M ++ [.lst (cutD ds lo hi)])
  | .obj n => match M[n]? with
    | some (.lst ds) => .ok (.obj M.length) (M ++ [.lst (cutD ds lo hi)])
    | _ => .bad
  | _ => .bad
def eSl (f : FE) (l h : DSt → DM → Rs (Option Int)) : FE := fun δ M => (f δ M).bind fun x M1 => (l δ M1).bind fun lo M2 => (h δ M2).bind fun hi M3 => sliceD x lo hi M3
def rSlAll (K : PySem.W.Frag) : V → Option Int → Option Int → Hp → VK → Prop := fun x lo hi H Q => rSlS x lo hi H Q ∨ (fun x lo hi H Q => rSlA K x lo hi H Q ∨ rSlL K x lo hi H Q) x lo hi H Q
theorem sl_all : SlR X (rSlAll X.K) := SlR.or sl_str (SlR.or sl_tupA sl_list)
theorem RDs.cut {ρ : List Addr} {H : Hp} {ds : List D} {xs : List V} (r : RDs c ρ H ds xs) (lo hi : Option Int) : RDs c ρ H (cutD ds lo hi) (cutV xs lo hi) := by
  unfold cutD cutV
  rw [RDs.len _ _ r]
  exact RDs.take _ _ _ (RDs.drop _ _ _ r)
theorem slice_ok {ρ : List Addr} {M : DM} {H : Hp} {σ : St} {x : D} {v : V} {lo hi : Option Int} {Q : VK} (P : Rep c ρ M H) (rx : RD c ρ H x v) (h : Post c (WE W σ) ρ H (RD c) Q (sliceD x lo hi M)) : rSlAll c.K v lo hi H Q := by
  cases x with
  | str s =>
    simp only [RD] at rx
    simp only [sliceD] at h
    split at h
    · rename_i hz
      exact .inl ⟨s, rx, hz, h ρ H _ .refl P (by simp only [RD])⟩
    · exact h.elim
  | tup ds =>
    have rx' := rx
    simp only [RD] at rx'
    obtain ⟨p, xs, rfl, ht, rs⟩ := rx'
    refine .inr (.inl ⟨p, xs, rfl, ht.sq, fun w => ?_, fun _ p' hp => post_tup P (rs.cut lo hi) hp h⟩)
    refine h ρ H _ .refl P ?_
    have e : cutD ds lo hi = ds := by
      unfold cutD
      rw [RDs.len _ _ rs, w.1, w.2]
      simp only [List.drop_zero, Nat.sub_zero, ← RDs.len _ _ rs, List.take_length]
    rw [e]
    exact rx
  | rol ds =>
    simp only [RD] at rx
    obtain ⟨p, xs, rfl, ht, rs⟩ := rx
    exact .inr (.inr ⟨p, xs, rfl, ht.sq, fun p' hp => post_lst P (rs.cut lo hi) hp h⟩)
  | obj n =>
    simp only [RD] at rx
    obtain ⟨p, rfl, hp⟩ := rx
    simp only [sliceD] at h
    split at h
    · rename_i ds eM
      obtain ⟨xs, q1, q2⟩ := P.at_ _ _ _ eM hp
      exact .inr (.inr ⟨p, xs, rfl, .of q1, fun p' hp => post_lst P (q2.cut lo hi) hp h⟩)
    · exact h.elim
  | _ => exact h.elim
theorem ve_slice (I : In c X W k N sc) {lo hi : Option Expr} {fl fh : DSt → DM → Rs (Option Int)} {p2 : Pos} (he : VE c X W a fa) (hl : VO c X W lo fl) (hh : VO c X W hi fh) : VE c X W (.Subscript a (.Slice lo hi none p2) pos) (eSl fa fl fh) := by
  obtain ⟨t, p, s⟩ := he
  obtain ⟨t1, p1, s1⟩ := hl
  obtain ⟨t2, p2, s2⟩ := hh
  refine ⟨_, pe_slice (by have h := sl_all (X := X); rw [I.hK] at h; exact h) p p1 p2, fun ρ M H δ σ Q P r h => ?_⟩
  refine s.bind P r h fun x M1 ρ1 H1 v e1 P1 s1' r1 _ h1 => ?_
  refine s1.bind P1 s1' h1 fun lo M2 ρ2 H2 l e2 P2 s2' r2 _ h2 => ?_
  refine s2.bind P2 s2' h2 fun hi M3 ρ3 H3 u e3 P3 s3' r3 _ h3 => ?_
  subst r2 r3
  exact slice_ok P3 (RD.mono (e2.trans e3) _ _ r1) h3
/-- xs[::-1] of a list -/
def revLD (x : D) (M : DM) : Rs D := match x with
  | .obj n => match M[n]? with
    | some (.lst ds) => .ok (.obj M.length) (M ++ [.lst ds.reverse])
    | _ => .bad
  | _ => .bad
theorem ve_revL (I : In c X W k N sc) {j : Nat} {p1 p2 p3 : Pos} (he : VE c X W a fa) : VE c X W (.Subscript a (.Slice none none (some (.UnaryOp .USub (.Constant (.int 1) j p1) p2)) p3) pos) (e1 revLD fa) := by
  obtain ⟨t, p, s⟩ := he
  refine ⟨_, pe_revL p, fun ρ M H δ σ Q P r h => ?_⟩
  refine s.bind P r h fun x M1 ρ1 H1 v e1 P1 s1' r1 _ h1 => ?_
  rw [I.hK]
  cases x with
  | obj n =>
    simp only [RD] at r1
    obtain ⟨p, rfl, hp⟩ := r1
    simp only [revLD] at h1
    split at h1
    · rename_i ds eM
      obtain ⟨xs, q1, q2⟩ := P1.at_ _ _ _ eM hp
      exact ⟨p, xs, rfl, .of q1, fun p' hp => post_lst P1 (RDs.reverse _ _ q2) hp h1⟩
    · exact h1.elim
  | _ => exact h1.elim
/-! ### [*xs, a, ..] -/
def aStar (f : FE) (g : FA) : FA := fun δ M => (f δ M).bind fun x M1 => match itemsD x M1 with
  | some ds => (g δ M1).bind fun es M2 => .ok (ds ++ es) M2
  | none => .bad
/-- argument lists with stars: the length is not known -/
def VAs (c : Ctx) (X : Cx) (W : WX) (es : List Expr) (f : FA) : Prop := ∃ t, PA X es t ∧ Sim c W (RDs c) t f
theorem VA.s {es : List Expr} {f : FA} (h : VA c X W es f) : VAs c X W es f := h.1
theorem vas_cons {es : List Expr} {f : FE} {g : FA} (h : VE c X W a f) (h' : VAs c X W es g) (hs : starEach (a :: es) X.env = (false, eval a X.env) :: starEach es X.env := by rfl) : VAs c X W (a :: es) (aCons f g) := by
  obtain ⟨t, p, s⟩ := h
  obtain ⟨t', p', s'⟩ := h'
  refine ⟨_, pa_cons p p' hs, fun ρ M H δ σ Q P r q => ?_⟩
  refine s.bind P r q fun x M1 ρ1 H1 v e1 P1 s1 r1 _ h1 => ?_
  refine s'.bind P1 s1 h1 fun xs M2 ρ2 H2 vs e2 P2 s2 r2 _ h2 => ?_
  exact h2 ρ2 H2 (v :: vs) .refl P2 (by simp only [RDs]; exact ⟨v, vs, rfl, RD.mono e2 _ _ r1, r2⟩)
theorem vas_star (I : In c X W k N sc) {es : List Expr} {f : FE} {g : FA} {p : Pos} (h : VE c X W a f) (h' : VAs c X W es g) (hs : starEach (.Starred a p :: es) X.env = (true, eval a X.env) :: starEach es X.env := by rfl) : VAs c X W (.Starred a p :: es) (aStar f g) := by
  obtain ⟨t, pp, s⟩ := h
  obtain ⟨t', p', s'⟩ := h'
  refine ⟨_, StX.pa_star pp p' hs, fun ρ M H δ σ Q P r q => ?_⟩
  refine s.bind P r q fun x M1 ρ1 H1 v e1 P1 s1 r1 _ h1 => ?_
  rw [I.hK]
  cases e : itemsD x M1 with
  | none => rw [e] at h1; exact h1.elim
  | some ds =>
    rw [e] at h1
    obtain ⟨xs, ⟨a, rfl, hs⟩, rs⟩ := RDs.sq P1 r1 e
    refine ⟨a, xs, rfl, hs.symm, ?_⟩
    refine s'.bind P1 s1 h1 fun es M2 ρ2 H2 vs e2 P2 s2 r2 _ h2 => ?_
    exact h2 ρ2 H2 _ .refl P2 (RDs.append _ _ _ _ (RDs.mono e2 _ _ rs) r2)
def eLstS (f : FA) : FE := fun δ M => (f δ M).bind fun xs M1 => if xs.length ≤ sizeLine then .ok (.obj M1.length) (M1 ++ [.lst xs]) else .bad
theorem ve_lstS {es : List Expr} {f : FA} (h : VAs c X W es f) : VE c X W (.List es pos) (eLstS f) := by
  obtain ⟨t, p, s⟩ := h
  refine ⟨_, pe_lst p, fun ρ M H δ σ Q P r q => ?_⟩
  refine s.bind P r q fun xs M1 ρ1 H1 vs e1 P1 s1 r1 e h1 => ?_
  split at h1
  · rename_i hz
    exact ⟨by rw [← RDs.len _ _ r1]; exact hz, fun p hp => post_lst P1 r1 hp h1⟩
  · exact h1.elim
def eTupS (f : FA) : FE := fun δ M => (f δ M).bind fun xs M1 => if xs.length ≤ sizeLine then .ok (.tup xs) M1 else .bad
theorem ve_tupS {es : List Expr} {x1 : Nat} {f : FA} (h : VAs c X W es f) : VE c X W (.Tuple es x1 pos) (eTupS f) := by
  obtain ⟨t, p, s⟩ := h
  refine ⟨_, pe_tup p, fun ρ M H δ σ Q P r q => ?_⟩
  refine s.bind P r q fun xs M1 ρ1 H1 vs e1 P1 s1 r1 e h1 => ?_
  split at h1
  · rename_i hz
    exact ⟨by rw [← RDs.len _ _ r1]; exact hz, fun p hp => post_tup P1 r1 hp h1⟩
  · exact h1.elim
/-! ### x += e of ints -/
def augD (op : Int → Int → Int) (x y : D) (M : DM) : Rs D := match x, y with
  | .int i, .int j => .ok (.int (op i j)) M
  | _, _ => .bad
def sAug (i : Nat) (op : Int → Int → Int) (f : FE) : FS := fun δ M => match δ[i]? with
  | some (some x) => (f δ M).ro δ fun y M1 => match x, y with
    | .int p, .int q => .nx (δ.set i (some (.int (op p q)))) M1
    | _, _ => .bad
  | _ => .bad
theorem vs_augI (I : InS c X W k N sc) {i : Nat} {x : Str} {pos' : Pos} {o : Operator} {op : Int → Int → Int} (hp : PIp X o (ipI op)) (n : Nm N sc i x) (he : VE c X W a fa) : VS c X W (.AugAssign (.Name x pos') o a pos) (sAug i op fa) := by
  obtain ⟨t, p, s⟩ := he
  refine ⟨_, ps_aug I.nd' (I.at' n) (I.loc n) p hp (.inl (I.hfn x)), fun ρ M H δ σ Dn P r h => ?_⟩
  unfold sAug at h
  split at h
  · rename_i x ex
    obtain ⟨v, h1, h2⟩ := r.get i x ex
    refine ⟨v, h1, ?_⟩
    refine s.ro P r h fun y M1 ρ1 H1 u e1 P1 s1 r1 _ h5 => ?_
    cases x with
    | int p =>
      cases y with
      | int q =>
        simp only [RD] at h2 r1
        subst h2 r1
        exact ⟨p, q, rfl, rfl, h5 ρ1 H1 _ .refl P1 (s1.set i (by simp only [RD]))⟩
      | _ => exact h5.elim
    | _ => exact h5.elim
  · exact h.elim
theorem vs_augAdd (I : InS c X W k N sc) {i : Nat} {x : Str} {pos' : Pos} (n : Nm N sc i x) (he : VE c X W a fa) : VS c X W (.AugAssign (.Name x pos') .Add a pos) (sAug i (fun i j => i + j) fa) := vs_augI I ip_add n he
theorem vs_augSub (I : InS c X W k N sc) {i : Nat} {x : Str} {pos' : Pos} (n : Nm N sc i x) (he : VE c X W a fa) : VS c X W (.AugAssign (.Name x pos') .Sub a pos) (sAug i (fun i j => i - j) fa) := vs_augI I ip_sub n he
end
end DL

set_option Elab.async false
set_option linter.all false
set_option maxRecDepth 100000
set_option maxHeartbeats 2000000
namespace DL
open PySem PySem.Spec L2
open PyProof.Rows hiding St
/-! ### what is walked, in general -/
structure IT where
  nx : Nat → DM → Option (Option D)
  fu : Nat
def itS (ds : List D) : IT := ⟨fun i _ => some ds[i]?, ds.length + 1⟩
def itL (n fu : Nat) : IT := ⟨fun i M => match M[n]? with
  | some (.lst ds) => some ds[i]?
  | _ => none, fu⟩
def itV (n m : Nat) : IT := ⟨fun i M => if i < m then (match M[n]? with
  | some (.lst ds) => match ds[m - 1 - i]? with
    | some d => some (some d)
    | none => none
  | _ => none) else some none, m + 1⟩
def ItOk (c : Ctx) (ρ : List Addr) (H : Hp) (it : IT) (J : It) : Prop := ∀ ρ' M' H' i, Ext ρ H ρ' H' → Rep c ρ' M' H' → match it.nx i M' with
  | none => True
  | some none => J.stop i H'
  | some (some d) => J.go i H' ∧ ∀ x H2, J.yld i H' x H2 → H2 = H' ∧ RD c ρ' H' d x
abbrev FI := DSt → DM → Rs IT
def VI (c : Ctx) (X : Cx) (W : WX) (tg iter : Expr) (f : FI) : Prop := ∃ wi, PI X tg iter wi ∧ Sim c W (ItOk c) wi f
section
variable {c : Ctx} {X : Cx} {W : WX} {k : Nat} {N : List Str} {sc : Scope} {a b : Expr} {fa fb : FE} {pos : Pos}
theorem itS_ok {J : It} {ρ : List Addr} {H : Hp} {ds : List D} {xs : List V} (rs : RDs c ρ H ds xs)
    (hgo : ∀ ρ' H' i, Ext ρ H ρ' H' → i < xs.length → J.go i H') (hst : ∀ ρ' H' i, Ext ρ H ρ' H' → xs.length ≤ i → J.stop i H') (hy : ∀ ρ' H' H2 i x, Ext ρ H ρ' H' → i < xs.length → J.yld i H' x H2 → H2 = H' ∧ xs[i]? = some x) : ItOk c ρ H (itS ds) J := by
  intro ρ' M' H' i e P
  have hl := RDs.len _ _ rs
  simp only [itS]
  cases q : ds[i]? with
  | none =>
    have := List.getElem?_eq_none_iff.mp q
    exact hst ρ' H' i e (by omega)
  | some d =>
    have hi := (List.getElem?_eq_some_iff.mp q).1
    refine ⟨hgo ρ' H' i e (by omega), fun x H2 y => ?_⟩
    obtain ⟨e2, hx⟩ := hy ρ' H' H2 i x e (by omega) y
    subst e2
    obtain ⟨v, hv, rv⟩ := RDs.get _ _ rs i d q
    rw [hv] at hx
    cases hx
    exact ⟨rfl, RD.mono e _ _ rv⟩
/-- a value: list, tuple, text -/
def iVal (x : D) (M : DM) : Rs IT := match x with
  | .tup ds => .ok (itS ds) M
  | .rol ds => .ok (itS ds) M
  | .str s => .ok (itS (s.cps.toList.map fun q => .str ⟨#[q]⟩)) M
  | .obj n => match M[n]? with
    | some (.lst ds) => .ok (itL n (ds.length + 1)) M
    | _ => .bad
  | _ => .bad
def iV (f : FE) : FI := fun δ M => (f δ M).bind iVal
def iSeqS (K : PySem.W.Frag) (tl : TE) : TI := fun σ H R => tl σ H fun x H1 => (∃ a, x = .ref a ∧ (∃ xs, SqL K H1 a xs) ∧ R (Itl K a) H1) ∨ (∃ a, x = .ref a ∧ (∃ xs, SqT K H1 a xs) ∧ R (Itt K a) H1) ∨ (∃ z, x = .str z ∧ R (Its z) H1)
theorem pi_seqS {tg l : Expr} {tl : TE} (hl : PE X l tl) : PI X tg l (iSeqS X.K tl) := by
  refine ⟨fun pins s σ H R I h => ?_⟩
  refine thn (hl.run pins s σ H _ I h) fun v s1 ⟨x, H1, I1, r1, q1⟩ => ?_
  rcases q1 with ⟨a, e, ⟨xs, hq⟩, q⟩ | ⟨a, e, ⟨xs, hq⟩, q⟩ | ⟨z, e, q⟩
  · subst e
    cases r1
    obtain ⟨its, rv, p, hz⟩ := I1.list hq
    refine wpAny_pyIter_list p.isList ?_
    refine ⟨s1.heap.objs.size, [s1.heap.objs.size], _, _, H1, rfl, I1.kept (t' := s1.toks) fun b o e => Heap.get?_push_of_some _ e, turn_list a _, ⟨_, Heap.get?_push_size _ rfl, rfl, rfl⟩, fun b hb => ?_, q⟩
    have e : b = s1.heap.objs.size := by simpa using hb
    subst e
    exact I1.fpOk (Nat.le_refl _) (I1.hok.fresh (Nat.le_refl _))
  · subst e
    cases r1
    obtain ⟨its, rv, p, hz⟩ := I1.tuple hq
    refine wpAny_pyIter_tuple (show s1.heap.IsTuple a its.toArray from p) ?_
    refine ⟨s1.heap.objs.size, [s1.heap.objs.size], _, _, H1, rfl, I1.kept (t' := s1.toks) fun b o e => Heap.get?_push_of_some _ e, turn_tuple a _, ⟨_, Heap.get?_push_size _ rfl, rfl, rfl⟩, fun b hb => ?_, q⟩
    have e : b = s1.heap.objs.size := by simpa using hb
    subst e
    exact I1.fpOk (Nat.le_refl _) (I1.hok.fresh (Nat.le_refl _))
  · subst e
    obtain ⟨t, rfl⟩ := r1
    cases ha : z.cps.all (· < 128)
    · exact wpAny_pyIter_wide ha (pi_one (tk := s1.toks) I1 _ (turn_str _ z t "str_iterator" (.inr rfl)) ⟨_, Heap.get?_push_size _ rfl, rfl, rfl⟩ q)
    · exact wpAny_pyIter_ascii ha (pi_one (tk := s1.toks) I1 _ (turn_str _ z t "str_ascii_iterator" (.inl rfl)) ⟨_, Heap.get?_push_size _ rfl, rfl, rfl⟩ q)
theorem RDs.signs {ρ : List Addr} {H : Hp} : ∀ l : List Nat, RDs c ρ H (l.map fun q => .str ⟨#[q]⟩) (l.map fun q => .str ⟨#[q]⟩)
  | [] => by simp only [List.map_nil, RDs]
  | q :: l => by
    simp only [List.map_cons, RDs]
    exact ⟨_, _, rfl, by simp only [RD], RDs.signs l⟩
theorem itL_ok {ρ : List Addr} {H : Hp} {n fu : Nat} {p : Addr} (hp : ρ[n]? = some p) : ItOk c ρ H (itL n fu) (Itl c.K p) := by
  intro ρ' M' H' i e P'
  simp only [itL]
  cases eM : M'[n]? with
  | none => trivial
  | some mo =>
    cases mo with
    | lst ds =>
      obtain ⟨xs, q1, q2⟩ := P'.at_ n _ p eM (e.get hp)
      have hl := RDs.len _ _ q2
      simp only
      cases q : ds[i]? with
      | none =>
        have := List.getElem?_eq_none_iff.mp q
        exact ⟨xs, .of q1, by omega⟩
      | some d =>
        obtain ⟨v, hv, rv⟩ := RDs.get _ _ q2 i d q
        refine ⟨⟨xs, v, .of q1, hv⟩, fun x H2 y => ?_⟩
        obtain ⟨rfl, hx⟩ := y
        have hx' := hx xs (.of q1)
        rw [hv] at hx'
        cases hx'
        exact ⟨rfl, rv⟩
    | _ => trivial
theorem vi_val (I : In c X W k N sc) {tg : Expr} (he : VE c X W a fa) : VI c X W tg a (iV fa) := by
  obtain ⟨t, p, s⟩ := he
  refine ⟨_, pi_seqS p, fun ρ M H δ σ R P r h => ?_⟩
  refine s.bind P r h fun d M1 ρ1 H1 v e1 P1 s1 r1 _ h1 => ?_
  rw [I.hK]
  cases d with
  | tup ds =>
    simp only [RD] at r1
    obtain ⟨a, xs, rfl, ta, rs⟩ := r1
    refine .inr (.inl ⟨a, rfl, ⟨xs, ta.sq⟩, h1 ρ1 H1 _ .refl P1 (itS_ok rs (fun ρ' H' i e hi => ⟨xs, xs[i], (TupAt.mono e ta).sq, List.getElem?_eq_getElem hi⟩) (fun ρ' H' i e hi => ⟨xs, (TupAt.mono e ta).sq, hi⟩) (fun ρ' H' H2 i x e hi y => ⟨y.1, y.2 xs (TupAt.mono e ta).sq⟩))⟩)
  | rol ds =>
    simp only [RD] at r1
    obtain ⟨a, xs, rfl, ta, rs⟩ := r1
    refine .inl ⟨a, rfl, ⟨xs, ta.sq⟩, h1 ρ1 H1 _ .refl P1 (itS_ok rs (fun ρ' H' i e hi => ⟨xs, xs[i], (RolAt.mono e ta).sq, List.getElem?_eq_getElem hi⟩) (fun ρ' H' i e hi => ⟨xs, (RolAt.mono e ta).sq, hi⟩) (fun ρ' H' H2 i x e hi y => ⟨y.1, y.2 xs (RolAt.mono e ta).sq⟩))⟩
  | str z =>
    simp only [RD] at r1
    subst r1
    refine .inr (.inr ⟨z, rfl, h1 ρ1 H1 _ .refl P1 (itS_ok (RDs.signs _) (fun ρ' H' i e hi => ?_) (fun ρ' H' i e hi => ?_) (fun ρ' H' H2 i x e hi y => ?_))⟩)
    · simp only [List.length_map, Array.length_toList] at hi
      exact hi
    · simp only [List.length_map, Array.length_toList] at hi
      exact hi
    · obtain ⟨rfl, q, e2, rfl⟩ := y
      refine ⟨rfl, ?_⟩
      rw [List.getElem?_map, Array.getElem?_toList, e2]
      rfl
  | obj n =>
    simp only [RD] at r1
    obtain ⟨a, rfl, ha⟩ := r1
    simp only [iVal] at h1
    split at h1
    · rename_i ds eM
      obtain ⟨xs, q1, q2⟩ := P1.at_ n _ a eM ha
      exact .inl ⟨a, rfl, ⟨xs, .of q1⟩, h1 ρ1 H1 _ .refl P1 (itL_ok ha)⟩
    · exact h1.elim
  | _ => exact h1.elim
/-- range(n) -/
def iRng (x : D) (M : DM) : Rs IT := match x with
  | .int n => if rngOk n = true then .ok (itS ((List.range n.toNat).map fun i => .int (Int.ofNat i))) M else .bad
  | _ => .bad
theorem RDs.nats {ρ : List Addr} {H : Hp} : ∀ l : List Nat, RDs c ρ H (l.map fun q => .int (Int.ofNat q)) (l.map fun q => .int (Int.ofNat q))
  | [] => by simp only [List.map_nil, RDs]
  | q :: l => by
    simp only [List.map_cons, RDs]
    exact ⟨_, _, rfl, by simp only [RD], RDs.nats l⟩
def iR (f : FE) : FI := fun δ M => (f δ M).bind iRng
theorem vi_rng (I : In c X W k N sc) {tg e : Expr} {f : FE} {p pos' : Pos} (n : Gn sc "range") (hm : c.mg "range" = none) (he : VE c X W e f) (hst : starEach [e] X.env = [(false, eval e X.env)] := by rfl) :
    VI c X W tg (.Call (.Name "range" p) [e] [] pos') (iR f) := by
  obtain ⟨t, pp, s⟩ := he
  refine ⟨_, pi_range1 (I.gl n) (by rw [I.hmg]; exact hm) (pa_cons pp pa_nil hst) hst, fun ρ M H δ σ R P r h => ?_⟩
  refine s.bind P r h fun d M1 ρ1 H1 v e1 P1 s1 r1 _ h1 => ?_
  cases d with
  | int j =>
    simp only [RD] at r1
    subst r1
    simp only [iRng] at h1
    split at h1
    · rename_i hz
      have hz : -(2 ^ 62) ≤ j ∧ j < 2 ^ 62 := by
        have := lim_le hz
        omega
      refine ⟨j, rfl, hz.1, hz.2, ?_⟩
      refine h1 ρ1 H1 _ .refl P1 (itS_ok (RDs.nats _) (fun ρ' H' i e hi => ?_) (fun ρ' H' i e hi => ?_) (fun ρ' H' H2 i x e hi y => ?_))
      · simp only [List.length_map, List.length_range] at hi
        exact hi
      · simp only [List.length_map, List.length_range] at hi
        exact hi
      · obtain ⟨rfl, rfl⟩ := y
        refine ⟨rfl, ?_⟩
        simp only [List.length_map, List.length_range] at hi
        rw [List.getElem?_map, List.getElem?_range hi, Int.zero_add]
        rfl
    · exact h1.elim
  | _ => exact h1.elim
/-- reversed(x) -/
def iRev (x : D) (M : DM) : Rs IT := match x with
  | .tup ds => .ok (itS ds.reverse) M
  | .rol ds => .ok (itS ds.reverse) M
  | .obj n => match M[n]? with
    | some (.lst ds) => .ok (itV n ds.length) M
    | _ => .bad
  | _ => .bad
def iRv (f : FE) : FI := fun δ M => (f δ M).bind iRev
theorem vi_rev (I : In c X W k N sc) {tg e : Expr} {f : FE} {p pos' : Pos} (n : Gn sc "reversed") (hm : c.mg "reversed" = none) (he : VE c X W e f) (hst : starEach [e] X.env = (false, eval e X.env) :: starEach [] X.env := by rfl) :
    VI c X W tg (.Call (.Name "reversed" p) [e] [] pos') (iRv f) := by
  obtain ⟨t, pp, s⟩ := he
  refine ⟨_, RT.pi_revA (I.gl n) (by rw [I.hmg]; exact hm) pp hst, fun ρ M H δ σ R P r h => ?_⟩
  refine s.bind P r h fun d M1 ρ1 H1 v e1 P1 s1 r1 _ h1 => ?_
  rw [I.hK]
  have rv : ∀ {xs : List V} {i : Nat}, i < xs.length → xs.reverse[i]? = xs[xs.length - 1 - i]? := fun {xs i} hi => by rw [List.getElem?_reverse hi]
  cases d with
  | tup ds =>
    simp only [RD] at r1
    obtain ⟨a, xs, rfl, ta, rs⟩ := r1
    refine ⟨a, xs, rfl, .inr ⟨ta.sq, h1 ρ1 H1 _ .refl P1 (itS_ok (RDs.reverse _ _ rs) (fun ρ' H' i e hi => ?_) (fun ρ' H' i e hi => ?_) (fun ρ' H' H2 i x e hi y => ?_))⟩⟩
    · rw [List.length_reverse] at hi
      exact ⟨hi, xs, xs[xs.length - 1 - i]'(by omega), (TupAt.mono e ta).sq, List.getElem?_eq_getElem _⟩
    · rw [List.length_reverse] at hi
      exact hi
    · rw [List.length_reverse] at hi
      exact ⟨y.1, by rw [rv hi]; exact y.2 xs (TupAt.mono e ta).sq⟩
  | rol ds =>
    simp only [RD] at r1
    obtain ⟨a, xs, rfl, ta, rs⟩ := r1
    refine ⟨a, xs, rfl, .inl ⟨ta.sq, h1 ρ1 H1 _ .refl P1 (itS_ok (RDs.reverse _ _ rs) (fun ρ' H' i e hi => ?_) (fun ρ' H' i e hi => ?_) (fun ρ' H' H2 i x e hi y => ?_))⟩⟩
    · rw [List.length_reverse] at hi
      exact ⟨hi, xs, xs[xs.length - 1 - i]'(by omega), (RolAt.mono e ta).sq, List.getElem?_eq_getElem _⟩
    · rw [List.length_reverse] at hi
      exact hi
    · rw [List.length_reverse] at hi
      exact ⟨y.1, by rw [rv hi]; exact y.2 xs (RolAt.mono e ta).sq⟩
  | obj n =>
    simp only [RD] at r1
    obtain ⟨a, rfl, ha⟩ := r1
    simp only [iRev] at h1
    split at h1
    · rename_i ds eM
      obtain ⟨xs, q1, q2⟩ := P1.at_ n _ a eM ha
      refine ⟨a, xs, rfl, .inl ⟨.of q1, ?_⟩⟩
      rw [← RDs.len _ _ q2]
      refine h1 ρ1 H1 _ .refl P1 ?_
      intro ρ' M' H' i e P'
      simp only [itV]
      by_cases hi : i < ds.length
      · rw [if_pos hi]
        cases eM' : M'[n]? with
        | none => trivial
        | some mo =>
          cases mo with
          | lst es =>
            obtain ⟨ys, q3, q4⟩ := P'.at_ n _ a eM' (e.get ha)
            simp only
            cases q : es[ds.length - 1 - i]? with
            | none => trivial
            | some d =>
              obtain ⟨w', hw, rw'⟩ := RDs.get _ _ q4 _ d q
              refine ⟨⟨hi, ys, w', .of q3, hw⟩, fun x H2 y => ?_⟩
              obtain ⟨rfl, hx⟩ := y
              have hx' := hx ys (.of q3)
              rw [hw] at hx'
              cases hx'
              exact ⟨rfl, rw'⟩
          | _ => trivial
      · rw [if_neg hi]
        show ds.length ≤ i
        omega
    · exact h1.elim
  | _ => exact h1.elim
/-! ### for -/
def forIt (it : IT) (g : FG) (body : FS) : Nat → Nat → DSt → DM → Ro
  | 0, _, _, _ => .bad
  | m + 1, i, δ, M => match it.nx i M with
    | none => .bad
    | some none => .nx δ M
    | some (some d) => match g d δ M with
      | none => .bad
      | some (δ1, M1) => match body δ1 M1 with
        | .nx δ2 M2 => forIt it g body m (i + 1) δ2 M2
        | .ct δ2 M2 => forIt it g body m (i + 1) δ2 M2
        | .bk δ2 M2 => .nx δ2 M2
        | .rt d M2 => .rt d M2
        | .ex x δ2 M2 => .ex x δ2 M2
        | .bad => .bad
def sForI (f : FI) (g : FG) (body : FS) : FS := fun δ M => (f δ M).ro δ fun it M1 => forIt it g body it.fu 0 δ M1
theorem vs_forI (I : InS c X W k N sc) (hC : Cold X) {tg iter : Expr} {body : List Stmt} {f : FI} {g : FG} {fb : FS} (he : VI c X W tg iter f) (hg : VG c X tg g) (hb : VSs c X W body fb) (hs : ∀ x, foldedSetIterable iter X.env x = pure x := by intro _; rfl) :
    VS c X W (.For tg iter body [] pos) (sForI f g fb) := by
  obtain ⟨t, p, s⟩ := he
  obtain ⟨tgt, pg, sg⟩ := hg
  obtain ⟨tb, pb, sb⟩ := hb
  refine ⟨_, ps_for I.own hC.calm p pg pb hs, fun ρ M H δ σ Dn P r h => ?_⟩
  refine s.ro P r h fun it M1 ρ1 H1 J e1 P1 s1 r1 _ h1 => ?_
  refine ⟨fun i m σ' H' => ∃ ρ' M' δ', Ext ρ1 H1 ρ' H' ∧ Rep c ρ' M' H' ∧ RS c ρ' H' δ' σ' ∧ PostS c W ρ' H' Dn (forIt it g fb m i δ' M'), ⟨_, ρ1, M1, δ, .refl, P1, s1, h1⟩, ?_⟩
  rintro i m σ2 H2 ⟨ρ2, M2, δ2, e2, P2, s2, h2⟩
  cases m with
  | zero => exact h2.elim
  | succ m =>
    simp only [forIt] at h2
    have ok := r1 ρ2 M2 H2 i e2 P2
    cases en : it.nx i M2 with
    | none => rw [en] at h2; exact h2.elim
    | some od =>
      rw [en] at h2 ok
      cases od with
      | none => exact .inl ⟨ok, h2 ρ2 H2 σ2 .refl P2 s2⟩
      | some d =>
        refine .inr ⟨ok.1, fun σ' H' => ∃ ρ' M' δ', Ext ρ1 H1 ρ' H' ∧ Rep c ρ' M' H' ∧ RS c ρ' H' δ' σ' ∧ PostS c W ρ' H' Dn (forIt it g fb m (i + 1) δ' M'), ?_, fun x H3 y => ?_⟩
        · intro σ' H' q
          exact ⟨m, Nat.lt_succ_self m, q⟩
        · obtain ⟨rfl, rx⟩ := ok.2 x H3 y
          refine turn_sim (next := fun δ' M' => forIt it g fb m (i + 1) δ' M') sg sb P2 s2 rx h2 fun ρ' M' H' δ' σ' e' P' s' h' => ?_
          exact ⟨ρ', M', δ', e2.trans e', P', s', h'⟩
/-! ### [e for x in ..] -/
def wipeD (δ : DSt) : List Nat → DSt
  | [] => δ
  | v :: vs => (wipeD δ vs).set v none
theorem RS.wipe {ρ : List Addr} {H : Hp} {δ : DSt} {σ : St} (r : RS c ρ H δ σ) : ∀ vs, RS c ρ H (wipeD δ vs) (L2.wipe σ vs)
  | [] => r
  | v :: vs => by
    have ih := RS.wipe r vs
    refine ⟨by simp only [wipeD, L2.wipe, List.length_set]; exact ih.len, fun i d h => ?_⟩
    simp only [wipeD, L2.wipe] at h ⊢
    by_cases hi : v = i
    · subst hi
      by_cases hl : v < (wipeD δ vs).length
      · rw [List.getElem?_set_self hl] at h; cases h
      · rw [List.getElem?_eq_none (by simp; omega)] at h; cases h
    · rw [List.getElem?_set_ne hi] at h ⊢
      exact ih.get i d h
theorem wipe_get {σ : St} {i : Nat} : ∀ {vs : List Nat}, i ∉ vs → (L2.wipe σ vs)[i]? = σ[i]?
  | [], _ => rfl
  | v :: vs, h => by
    simp only [L2.wipe]
    simp only [List.mem_cons, not_or] at h
    rw [List.getElem?_set_ne (fun e => h.1 e.symm)]
    exact wipe_get h.2
theorem wipe_get_in {σ : St} {i : Nat} : ∀ {vs : List Nat}, i ∈ vs → i < σ.length → (L2.wipe σ vs)[i]? = some none
  | [], h, _ => by cases h
  | v :: vs, h, hl => by
    simp only [L2.wipe]
    by_cases e : v = i
    · subst e
      rw [List.getElem?_set_self (by rw [wipe_length]; exact hl)]
    · rw [List.getElem?_set_ne e]
      rcases List.mem_cons.mp h with z | z
      · exact absurd z.symm e
      · exact wipe_get_in z hl
theorem wipe_set {σ : St} {i : Nat} {o : Option V} {vs : List Nat} (h : i ∈ vs) : L2.wipe (σ.set i o) vs = L2.wipe σ vs := by
  apply List.ext_getElem?
  intro j
  by_cases hj : j ∈ vs
  · by_cases hl : j < σ.length
    · rw [wipe_get_in hj hl, wipe_get_in hj (by rw [List.length_set]; exact hl)]
    · rw [List.getElem?_eq_none (by rw [wipe_length, List.length_set]; omega), List.getElem?_eq_none (by rw [wipe_length]; omega)]
  · rw [wipe_get hj, wipe_get hj, List.getElem?_set_ne (fun e => hj (by rw [← e]; exact h))]
theorem wipe_wipe {σ : St} {vs : List Nat} : L2.wipe (L2.wipe σ vs) vs = L2.wipe σ vs := by
  apply List.ext_getElem?
  intro j
  by_cases hj : j ∈ vs
  · by_cases hl : j < σ.length
    · rw [wipe_get_in hj hl, wipe_get_in hj (by rw [wipe_length]; exact hl)]
    · rw [List.getElem?_eq_none (by rw [wipe_length, wipe_length]; omega), List.getElem?_eq_none (by rw [wipe_length]; omega)]
  · rw [wipe_get hj]
abbrev FC := D → DSt → Option DSt
def SimC (c : Ctx) (own : List Nat) (t : TG) (g : FC) : Prop := ∀ ρ H δ σ d v Q, RS c ρ H δ σ → RD c ρ H d v →
  (match g d δ with | some δ' => ∀ σ', RS c ρ H δ' σ' → L2.wipe σ' own = L2.wipe σ own → Q σ' H | none => False) → t v σ H Q
/-- a target in a comprehension -/
def VC (c : Ctx) (X : Cx) (own : List Nat) (tg : Expr) (g : FC) : Prop := ∃ t, PG X tg t ∧ SimC c own t g
/-- an own name in a comprehension's block -/
structure No (N : List Str) (sc : Scope) (own : List Nat) (i : Nat) (x : Str) : Prop where
  at_ : N[i]? = some x
  loc : sc.names.lookup x = some .local
  db : (x == ("__debug__" : Str)) = false
  cd : (x == ("__classdict__" : Str)) = false
  mem : i ∈ own
def cNm (i : Nat) : FC := fun d δ => some (δ.set i (some d))
theorem vc_name (I : In c X W k N sc) {own : List Nat} {i : Nat} {x : Str} (n : No N sc own i x) : VC c X own (.Name x pos) (cNm i) :=
  ⟨_, pg_name I.nd' (by rw [I.hN]; exact n.at_) (.inl (by rw [I.hsc]; exact n.loc)) (.inr (by rw [I.hsc]; exact n.loc)), fun ρ H δ σ d v Q s r h => h _ (s.set i r) (wipe_set n.mem)⟩
def VCs (c : Ctx) (X : Cx) (own : List Nat) (tgs : List Expr) (is : List Nat) : Prop := (∃ t, PGs X tgs t ∧ ∀ ρ H δ σ ds vs Q δ', RS c ρ H δ σ → RDs c ρ H ds vs → gNms is ds δ = some δ' →
  (∀ σ', RS c ρ H δ' σ' → L2.wipe σ' own = L2.wipe σ own → Q σ' H) → t vs σ H Q) ∧ is.length = tgs.length
theorem vcs_nil {own : List Nat} : VCs c X own [] [] := by
  refine ⟨⟨_, pgs_nil, fun ρ H δ σ ds vs Q δ' s r e h => ?_⟩, rfl⟩
  cases ds with
  | nil =>
    cases e
    simp only [RDs] at r
    exact ⟨r, h _ s rfl⟩
  | cons d ds => cases e
theorem vcs_cons (I : In c X W k N sc) {own : List Nat} {i : Nat} {x : Str} {es : List Expr} {is : List Nat} (n : No N sc own i x) (h : VCs c X own es is)
    (hs : (assignEach (.Name x pos :: es) X.env).map (·.2) = assign (.Name x pos) X.env :: (assignEach es X.env).map (·.2) := by rfl) : VCs c X own (.Name x pos :: es) (i :: is) := by
  obtain ⟨⟨t, p, s⟩, hl⟩ := h
  refine ⟨⟨_, pgs_cons (pg_name I.nd' (by rw [I.hN]; exact n.at_) (.inl (by rw [I.hsc]; exact n.loc)) (.inr (by rw [I.hsc]; exact n.loc))) p hs, fun ρ H δ σ ds vs Q δ' r rd e h => ?_⟩, by rw [List.length_cons, List.length_cons, hl]⟩
  cases ds with
  | nil => cases e
  | cons d ds =>
    simp only [RDs] at rd
    obtain ⟨v, vs', rfl, r1, r2⟩ := rd
    exact ⟨v, vs', rfl, s ρ H _ _ ds vs' Q δ' (r.set i r1) r2 e fun σ' s' hw => h σ' s' (hw.trans (wipe_set n.mem))⟩
def cTupN (is : List Nat) : FC := fun d δ => match d with
  | .tup ds => gNms is ds δ
  | _ => none
theorem vc_tup (I : In c X W k N sc) (hC : Cold X) {own : List Nat} {es : List Expr} {m : Nat} {is : List Nat} (h : VCs c X own es is) (hn : (assignEach es X.env).length = es.length := by rfl) (hst : (assignEach es X.env).findIdx? (·.1) = none := by rfl) : VC c X own (.Tuple es m pos) (cTupN is) := by
  obtain ⟨⟨t, p, s⟩, hl⟩ := h
  refine ⟨_, pg_tup hC.calm p hn hst, fun ρ H δ σ d v Q r rd h => ?_⟩
  cases d with
  | tup ds =>
    simp only [cTupN] at h
    cases e : gNms is ds δ with
    | none => rw [e] at h; exact h.elim
    | some δ' =>
      rw [e] at h
      simp only [RD] at rd
      obtain ⟨a, xs, rfl, t1, r1⟩ := rd
      refine ⟨a, xs, rfl, by rw [I.hK]; exact t1.sq, by rw [← RDs.len _ _ r1, ← gNms_len e, hl], ?_⟩
      exact s ρ H δ σ ds xs Q δ' r r1 e fun σ' s' hw => h σ' s' hw
  | _ => exact h.elim
/-- a name seen within a comprehension's block -/
structure Nv (N : List Str) (sc : Scope) (i : Nat) (x : Str) : Prop where
  at_ : N[i]? = some x
  vis : sc.names.lookup x = some .local ∨ sc.names.lookup x = some .cell ∨ sc.names.lookup x = some .free
  db : (x == ("__debug__" : Str)) = false
  cd : (x == ("__classdict__" : Str)) = false
theorem ve_varV (I : In c X W k N sc) {i : Nat} {x : Str} {pos : Pos} (n : Nv N sc i x) : VE c X W (.Name x pos) (eVar i) := by
  refine ⟨_, pe_var (by rw [I.hN]; exact n.at_) (by rw [I.hsc]; exact n.vis) n.db n.cd, ?_⟩
  intro ρ M H δ σ Q P s h
  show ∃ v, σ[i]? = some (some v) ∧ Q v H
  unfold eVar at h
  split at h
  · rename_i d e
    obtain ⟨v, h1, h2⟩ := s.get i d e
    exact ⟨v, h1, h ρ H v .refl P h2⟩
  · exact h.elim
/-- the block's context -/
abbrev WF : WX := fun _ _ _ _ => False
theorem In.blk (I : In c X W k N sc) (scope : Scope) (s : Shared) (H : Hp) (C : Addr) (cl : List (Str × Addr)) (fp : List Addr) : In c (X.blk s H scope (compEnvC scope cl C X.env) fp) WF k N (relS scope sc) where
  hP := I.hP
  hw := I.hw
  hK := I.hK
  hmg := I.hmg
  hb := I.hb
  hN := I.hN
  nd := I.nd
  hsc := by
    show relS scope X.env.scope = _
    rw [I.hsc]
  room := I.room
  take := by
    intro u s' x
    obtain ⟨_, _, _, _, _, _, _, _, _, _, _, _, _, _, _, _, w⟩ := x
    exact w.elim
  own := PassesOwn.never
/-- in the same words, whatever the block's frame -/
theorem PE.all {ι : Type} {X : ι → Cx} {e : Expr} {f : FE} {W : WX} (h : ∀ i, VE c (X i) W e f) : ∃ t, (∀ i, PE (X i) e t) ∧ Sim c W (RD c) t f := by
  refine ⟨fun σ H Q => ∀ i, (h i).choose σ H Q, fun i => ⟨fun pins s σ H Q I q => (h i).choose_spec.1.run pins s σ H Q I (q i)⟩, fun ρ M H δ σ Q P r q i => (h i).choose_spec.2 ρ M H δ σ Q P r q⟩
def VTs (c : Ctx) (X : Cx) (W : WX) (es : List Expr) (f : FT) : Prop := ∃ t, PTs X es t ∧ Sim c W RB t f
def tYesD : FT := fun _ M => .ok true M
theorem vts_nil : VTs c X W [] tYesD := ⟨_, pts_nil, fun ρ M H δ σ Q P r h => h ρ H true .refl P rfl⟩
theorem vts_one {f : FT} (h : VT c X W a f) : VTs c X W [a] f := let ⟨t, p, s⟩ := h; ⟨t, pts_one p, s⟩
theorem PTs.all {ι : Type} {X : ι → Cx} {es : List Expr} {f : FT} {W : WX} (h : ∀ i, VTs c (X i) W es f) : ∃ t, (∀ i, PTs (X i) es t) ∧ Sim c W RB t f := by
  refine ⟨fun σ H Q => ∀ i, (h i).choose σ H Q, fun i => ⟨fun pins s σ H Q I q => (h i).choose_spec.1.run pins s σ H Q I (q i)⟩, fun ρ M H δ σ Q P r q i => (h i).choose_spec.2 ρ M H δ σ Q P r q⟩
theorem PG.all {ι : Type} {X : ι → Cx} {own : List Nat} {tg : Expr} {g : FC} (h : ∀ i, VC c (X i) own tg g) : ∃ t, (∀ i, PG (X i) tg t) ∧ SimC c own t g := by
  refine ⟨fun v σ H Q => ∀ i, (h i).choose v σ H Q, fun i => ⟨fun pins s σ H v u Q I r q => (h i).choose_spec.1.run pins s σ H v u Q I r (q i)⟩, fun ρ H δ σ d v Q s r q i => (h i).choose_spec.2 ρ H δ σ d v Q s r q⟩
def lcIt (n : Nat) (g : FC) (ft : FT) (fe : FE) (it : IT) (δ : DSt) : Nat → Nat → DM → Option DM
  | 0, _, _ => none
  | m + 1, i, M => match it.nx i M with
    | none => none
    | some none => some M
    | some (some d) => match g d δ with
      | none => none
      | some δ1 => match ft δ1 M with
        | .ok false M1 => lcIt n g ft fe it δ m (i + 1) M1
        | .ok true M1 => match fe δ1 M1 with
          | .ok y M2 => match M2[n]? with
            | some (.lst acc) => if acc.length < sizeLine then lcIt n g ft fe it δ m (i + 1) (M2.set n (.lst (acc ++ [y]))) else none
            | _ => none
          | _ => none
        | _ => none
def eLc (own : List Nat) (fi : FI) (g : FC) (ft : FT) (fe : FE) : FE := fun δ M => (fi δ M).bind fun it M1 => match lcIt M1.length g ft fe it (wipeD δ own) it.fu 0 (M1 ++ [.lst []]) with
  | some M2 => .ok (.obj M1.length) M2
  | none => .bad
theorem sim_lc {wi : TI} {g : TG} {tt : TT} {te : TE} {own : List Nat} {fi : FI} {fg : FC} {ft : FT} {fe : FE} (si : Sim c W (ItOk c) wi fi) (sg : SimC c own g fg) (st : Sim c WF RB tt ft) (se : Sim c WF (RD c) te fe) :
    Sim c W (RD c) (tLc wi g tt te own) (eLc own fi fg ft fe) := by
  intro ρ M H δ σ Q P s h
  refine si.bind P s h fun it M1 ρ1 H1 J e1 P1 s1 r1 _ h1 => ?_
  intro D hD
  cases em : lcIt M1.length fg ft fe it (wipeD δ own) it.fu 0 (M1 ++ [.lst []]) with
  | none => rw [em] at h1; exact h1.elim
  | some M2 =>
    rw [em] at h1
    have eA : Ext ρ1 H1 (ρ1 ++ [D]) (upd H1 D (.lst [])) := .alloc hD
    have PA : Rep c (ρ1 ++ [D]) (M1 ++ [.lst []]) (upd H1 D (.lst [])) := P1.alloc hD ⟨[], upd_same, by simp only [RDs]⟩
    have hn : (ρ1 ++ [D])[M1.length]? = some D := by rw [← P1.len]; simp
    refine ⟨fun i m H' => ∃ ρ' M', Ext (ρ1 ++ [D]) (upd H1 D (.lst [])) ρ' H' ∧ Rep c ρ' M' H' ∧ lcIt M1.length fg ft fe it (wipeD δ own) m i M' = some M2, ⟨_, _, _, .refl, PA, em⟩, ?_⟩
    rintro i m H2 ⟨ρ2, M3, e2, P2, h2⟩
    cases m with
    | zero => cases h2
    | succ m =>
      simp only [lcIt] at h2
      have ok := r1 ρ2 M3 H2 i (eA.trans e2) P2
      cases en : it.nx i M3 with
      | none => rw [en] at h2; cases h2
      | some od =>
        rw [en] at h2 ok
        cases od with
        | none =>
          cases h2
          exact .inl ⟨ok, h1 ρ2 H2 (.ref D) (eA.trans e2) P2 (by simp only [RD]; exact ⟨D, rfl, e2.get hn⟩)⟩
        | some d =>
          refine .inr ⟨ok.1, fun H' => ∃ ρ' M', Ext (ρ1 ++ [D]) (upd H1 D (.lst [])) ρ' H' ∧ Rep c ρ' M' H' ∧ lcIt M1.length fg ft fe it (wipeD δ own) m (i + 1) M' = some M2, fun H' q => ⟨m, Nat.lt_succ_self m, q⟩, fun x H3 y => ?_⟩
          obtain ⟨rfl, rx⟩ := ok.2 x H3 y
          have s2 : RS c ρ2 H3 (wipeD δ own) (L2.wipe σ own) := (s1.mono (eA.trans e2)).wipe own
          simp only at h2
          refine sg ρ2 H3 _ _ d x _ s2 rx ?_
          cases eg : fg d (wipeD δ own) with
          | none => rw [eg] at h2; cases h2
          | some δ1 =>
            rw [eg] at h2
            intro σ' s3 hw
            refine ⟨hw.trans wipe_wipe, ?_⟩
            simp only at h2
            refine st ρ2 M3 H3 δ1 σ' _ P2 s3 ?_
            cases et : ft δ1 M3 with
            | bad => rw [et] at h2; cases h2
            | ex z Mz => rw [et] at h2; cases h2
            | ok b M4 =>
              rw [et] at h2
              intro ρ3 H4 b' e3 P3 rb
              cases rb
              cases b with
              | false =>
                simp only [Bool.false_eq_true, if_false] at h2 ⊢
                exact ⟨ρ3, M4, e2.trans e3, P3, h2⟩
              | true =>
                simp only [if_true] at h2 ⊢
                refine se ρ3 M4 H4 δ1 σ' _ P3 (s3.mono e3) ?_
                cases ee : fe δ1 M4 with
                | bad => rw [ee] at h2; cases h2
                | ex z Mz => rw [ee] at h2; cases h2
                | ok yv M5 =>
                  rw [ee] at h2
                  intro ρ4 H5 v e4 P4 rv
                  simp only at h2
                  split at h2
                  · rename_i acc eacc
                    split at h2
                    · rename_i hz
                      have hD4 : ρ4[M1.length]? = some D := (e2.trans (e3.trans e4)).get hn
                      obtain ⟨xs, q1, q2⟩ := P4.at_ _ _ _ eacc hD4
                      obtain ⟨P5, e5⟩ := post_write (W := W) (ds := acc) P4 hD4 (RDs.append _ _ _ _ q2 (RDs.one rv))
                      exact ⟨xs, q1, by rw [← RDs.len _ _ q2]; exact hz, ρ4, _, (e2.trans (e3.trans e4)).trans e5, P5, h2⟩
                    · cases h2
                  · cases h2
theorem ve_lc (I : In c X W k N sc) (hC : Cold X) {elt tg iter : Expr} {ifs : List Expr} {scope : Scope} (own : List (Str × Nat)) {fi : FI} {g : FC} {ft : FT} {fe : FE} (hi : VI c X W tg iter fi)
    (hg : ∀ X', In c X' WF k N (relS scope sc) → Cold X' → VC c X' (own.map (·.2)) tg g) (ht : ∀ X', In c X' WF k N (relS scope sc) → Cold X' → VTs c X' WF ifs ft) (he : ∀ X', In c X' WF k N (relS scope sc) → Cold X' → VE c X' WF elt fe)
    (ok : blkC N sc scope own = true) (hs : ∀ x, foldedSetIterable iter X.env x = pure x := by intro _; rfl) : VE c X W (.ListComp elt [⟨tg, iter, ifs, 0⟩] scope pos) (eLc (own.map (·.2)) fi g ft fe) := by
  obtain ⟨wi, pi, si⟩ := hi
  obtain ⟨g', pg, sg⟩ := PG.all (ι := Shared × Hp × Addr × List (Str × Addr) × List Addr) (X := fun q => X.blk q.1 q.2.1 scope (compEnvC scope q.2.2.2.1 q.2.2.1 X.env) q.2.2.2.2) fun q => hg _ (I.blk scope q.1 q.2.1 q.2.2.1 q.2.2.2.1 q.2.2.2.2) ⟨hC.calm, hC.hd⟩
  obtain ⟨t', pt, st⟩ := PTs.all (ι := Shared × Hp × Addr × List (Str × Addr) × List Addr) (X := fun q => X.blk q.1 q.2.1 scope (compEnvC scope q.2.2.2.1 q.2.2.1 X.env) q.2.2.2.2) fun q => ht _ (I.blk scope q.1 q.2.1 q.2.2.1 q.2.2.2.1 q.2.2.2.2) ⟨hC.calm, hC.hd⟩
  obtain ⟨e', pe, se⟩ := PE.all (ι := Shared × Hp × Addr × List (Str × Addr) × List Addr) (X := fun q => X.blk q.1 q.2.1 scope (compEnvC scope q.2.2.2.1 q.2.2.1 X.env) q.2.2.2.2) fun q => he _ (I.blk scope q.1 q.2.1 q.2.2.1 q.2.2.2.1 q.2.2.2.2) ⟨hC.calm, hC.hd⟩
  exact ⟨_, pe_lc hC.calm I.nd' pi (blkOk_by (by rw [I.hN, I.hsc]; exact ok)) (fun s H C cl fp => pg (s, H, C, cl, fp)) (fun s H C cl fp => pt (s, H, C, cl, fp)) (fun s H C cl fp => pe (s, H, C, cl, fp)) hs, sim_lc si sg st se⟩
/-- name = [..] on one line -/
theorem vs_setLc (I : InS c X W k N sc) (hC : Cold X) {i : Nat} {y : Str} {py : Pos} {elt tg iter : Expr} {ifs : List Expr} {scope : Scope} (own : List (Str × Nat)) {spos : Pos} {fi : FI} {g : FC} {ft : FT} {fe : FE} (n : Nm N sc i y) (hl : sc.names.lookup y = some .local) (hi : VI c X W tg iter fi)
    (hg : ∀ X', In c X' WF k N (relS scope sc) → Cold X' → VC c X' (own.map (·.2)) tg g) (ht : ∀ X', In c X' WF k N (relS scope sc) → Cold X' → VTs c X' WF ifs ft) (he : ∀ X', In c X' WF k N (relS scope sc) → Cold X' → VE c X' WF elt fe)
    (ok : blkC N sc scope own = true) (hkd : sc.kind = .function := by rfl) (hln : (py.line == pos.line) = true := by rfl) (hnm : (scope.names.any fun (n, k) => n == y && (k == .local || k == .cell)) = false := by decide +kernel) (hs : ∀ x, foldedSetIterable iter X.env x = pure x := by intro _; rfl) :
    VS c X W (.Assign [.Name y py] (.ListComp elt [⟨tg, iter, ifs, 0⟩] scope pos) spos) (sSet i (eLc (own.map (·.2)) fi g ft fe)) := by
  obtain ⟨wi, pi, si⟩ := hi
  have J := I.toIn
  obtain ⟨g', pg, sg⟩ := PG.all (ι := Shared × Hp × Addr × List (Str × Addr) × List Addr) (X := fun q => X.blk q.1 q.2.1 scope (compEnvC scope q.2.2.2.1 q.2.2.1 X.env) q.2.2.2.2) fun q => hg _ (J.blk scope q.1 q.2.1 q.2.2.1 q.2.2.2.1 q.2.2.2.2) ⟨hC.calm, hC.hd⟩
  obtain ⟨t', pt, st⟩ := PTs.all (ι := Shared × Hp × Addr × List (Str × Addr) × List Addr) (X := fun q => X.blk q.1 q.2.1 scope (compEnvC scope q.2.2.2.1 q.2.2.1 X.env) q.2.2.2.2) fun q => ht _ (J.blk scope q.1 q.2.1 q.2.2.1 q.2.2.2.1 q.2.2.2.2) ⟨hC.calm, hC.hd⟩
  obtain ⟨e', pe, se⟩ := PE.all (ι := Shared × Hp × Addr × List (Str × Addr) × List Addr) (X := fun q => X.blk q.1 q.2.1 scope (compEnvC scope q.2.2.2.1 q.2.2.1 X.env) q.2.2.2.2) fun q => he _ (J.blk scope q.1 q.2.1 q.2.2.1 q.2.2.2.1 q.2.2.2.2) ⟨hC.calm, hC.hd⟩
  refine ⟨_, ps_setLc hC.calm I.nd' (I.at' n) (by rw [I.hsc]; exact hl) (sw_true (by rw [I.hsc]; exact hkd) (by rw [I.hsc]; exact hl) hln hnm) pi (blkOk_by (by rw [I.hN, I.hsc]; exact ok)) (fun s H C cl fp => pg (s, H, C, cl, fp)) (fun s H C cl fp => pt (s, H, C, cl, fp)) (fun s H C cl fp => pe (s, H, C, cl, fp)) hs, fun ρ M H δ σ Dn P r h => ?_⟩
  refine (sim_lc si sg st se).ro P r h fun d M1 ρ1 H1 v e1 P1 s1 r1 _ h1 => h1 ρ1 H1 _ .refl P1 (s1.set i r1)
end
end DL

set_option Elab.async false
set_option linter.all false
set_option maxRecDepth 100000
set_option maxHeartbeats 2000000
namespace DL
open PySem PySem.Spec L2
open PyProof.Rows hiding St
section
variable {c : Ctx} {X : Cx} {W : WX} {k : Nat} {N : List Str} {sc : Scope} {a b e o : Expr} {es : List Expr} {fa fb : FE} {pos apos : Pos}
/-! ### attributes of instances -/
/-- the classes at Cs have no attribute f of their own -/
def FldAt (c : Ctx) (f : Str) (Cs : List Nat) : Prop := ∀ C, C ∈ Cs → Cls c.K (c.cl C) ∧ NoAttr c.K (c.cl C) f
def fldD (f : Str) (Cs : List Nat) (x : D) (M : DM) : Rs D := match x with
  | .obj n => match M[n]? with
    | some (.ins C fs) => if C ∈ Cs then (match fs.lookup f with
      | some d => .ok d M
      | none => .bad) else .bad
    | _ => .bad
  | _ => .bad
theorem RF.get {ρ : List Addr} {H : Hp} {f : Str} : ∀ (fs : List (Str × D)) (vs : List (Str × V)), RF c ρ H fs vs → (match fs.lookup f with | some d => ∃ v, vs.lookup f = some v ∧ RD c ρ H d v | none => vs.lookup f = none)
  | [], vs, h => by simp only [RF] at h; subst h; rfl
  | (n, d) :: fs, vs, h => by
    simp only [RF] at h
    obtain ⟨x, xs, rfl, h1, h2⟩ := h
    simp only [List.lookup_cons]
    cases e : (f == n) with
    | true => exact ⟨x, rfl, h1⟩
    | false => exact RF.get fs xs h2
theorem RF.len {ρ : List Addr} {H : Hp} : ∀ (fs : List (Str × D)) (vs : List (Str × V)), RF c ρ H fs vs → fs.length = vs.length
  | [], vs, h => by simp only [RF] at h; subst h; rfl
  | (n, d) :: fs, vs, h => by
    simp only [RF] at h
    obtain ⟨x, xs, rfl, h1, h2⟩ := h
    rw [List.length_cons, List.length_cons, RF.len fs xs h2]
def putFD (f : Str) (d : D) : List (Str × D) → List (Str × D)
  | [] => [(f, d)]
  | (n, e) :: r => if n = f then (f, d) :: r else (n, e) :: putFD f d r
theorem ve_fld (I : In c X W k N sc) {f : Str} {Cs : List Nat} (F : FldAt c f Cs) (he : VE c X W e fa) (hb : attributeBase e f X.env (eval e X.env) = eval e X.env := by rfl) : VE c X W (.Attribute e f pos) (e1 (fldD f Cs) fa) := by
  obtain ⟨t, p, s⟩ := he
  refine ⟨_, pe_fld p hb, fun ρ M H δ σ Q P r h => ?_⟩
  refine s.bind P r h fun x M1 ρ1 H1 v e1 P1 s1' r1 _ h1 => ?_
  rw [I.hK]
  cases x with
  | obj n =>
    simp only [RD] at r1
    obtain ⟨p, rfl, hp⟩ := r1
    simp only [fldD] at h1
    split at h1
    · rename_i C fs eM
      split at h1
      · rename_i hC
        obtain ⟨dx, vs, q1, q2⟩ := P1.at_ _ _ _ eM hp
        split at h1
        · rename_i d ed
          have g := RF.get (f := f) fs vs q2
          rw [ed] at g
          obtain ⟨w, g1, g2⟩ := g
          exact ⟨p, _, dx, vs, w, rfl, q1, (F C hC).1, (F C hC).2, g1, h1 ρ1 H1 w .refl P1 g2⟩
        · exact h1.elim
      · exact h1.elim
    · exact h1.elim
  | _ => exact h1.elim
/-- o.f = e -/
theorem putFD_rel {ρ : List Addr} {H : Hp} {f : Str} {d : D} {v : V} (r : RD c ρ H d v) : ∀ (fs : List (Str × D)) (vs : List (Str × V)), RF c ρ H fs vs → RF c ρ H (putFD f d fs) (putF f v vs)
  | [], vs, h => by
    simp only [RF] at h
    subst h
    simp only [putFD, putF, RF]
    exact ⟨v, [], rfl, r, rfl⟩
  | (n, e) :: fs, vs, h => by
    simp only [RF] at h
    obtain ⟨x, xs, rfl, h1, h2⟩ := h
    have ih := putFD_rel (f := f) r fs xs h2
    unfold putFD putF
    by_cases z : n = f
    · subst z
      first
        | (simp only [if_true, BEq.rfl, RF]; exact ⟨v, xs, rfl, r, h2⟩)
        | (simp [RF]; exact ⟨r, h2⟩)
    · have z' : ¬ f = n := fun q => z q.symm
      have z2 : (n == f) = false := beq_eq_false_iff_ne.mpr z
      have z3 : (f == n) = false := beq_eq_false_iff_ne.mpr z'
      simp only [z, z2, if_false, Bool.false_eq_true, RF]
      first
        | exact ⟨x, _, rfl, h1, ih⟩
        | (simp [z, z', z2, z3, RF]; exact ⟨h1, ih⟩)
def setFld (f : Str) (Cs : List Nat) (x d : D) (M : DM) : Option DM := match x with
  | .obj n => match M[n]? with
    | some (.ins C fs) => if C ∈ Cs ∧ fs.length < 1000 then some (M.set n (.ins C (putFD f d fs))) else none
    | _ => none
  | _ => none
def sFldD (f : Str) (Cs : List Nat) (fe fo : FE) : FS := fun δ M => (fe δ M).ro δ fun d M1 => (fo δ M1).ro δ fun o M2 => match setFld f Cs o d M2 with
  | some M3 => .nx δ M3
  | none => .bad
theorem vs_fld (I : In c X W k N sc) {f : Str} {Cs : List Nat} {value : Expr} {pos' : Pos} (F : FldAt c f Cs) (hv : VE c X W value fb) (ho : VE c X W o fa) (hs : swapsWith value (some (.Attribute o f pos')) pos.line X.env = pure false := by rfl) :
    VS c X W (.Assign [.Attribute o f pos'] value pos) (sFldD f Cs fb fa) := by
  obtain ⟨t, p, s⟩ := hv
  obtain ⟨t1, p1, s1⟩ := ho
  refine ⟨_, ps_fld p1 p hs, fun ρ M H δ σ Dn P r h => ?_⟩
  refine s.ro P r h fun d M1 ρ1 H1 v e1 P1 s1' r1 _ h1 => ?_
  refine s1.ro P1 s1' h1 fun x M2 ρ2 H2 u e2 P2 s2' r2 _ h2 => ?_
  rw [I.hK]
  cases em : setFld f Cs x d M2 with
  | none => rw [em] at h2; exact h2.elim
  | some M3 =>
    rw [em] at h2
    unfold setFld at em
    split at em
    · rename_i n
      simp only [RD] at r2
      obtain ⟨q, rfl, hq⟩ := r2
      split at em
      · rename_i C fs eM
        split at em
        · rename_i hC
          cases em
          obtain ⟨dx, vs, q1, q2⟩ := P2.at_ _ _ _ eM hq
          have m := (P2.there (List.mem_of_getElem? hq)).choose_spec.2
          have e : Ext ρ2 H2 ρ2 (upd H2 q (.ins (c.cl C) dx (putF f v vs))) := Ext.write m
          refine ⟨q, _, dx, vs, rfl, q1, (F C hC.1).1, (F C hC.1).2, by rw [← RF.len _ _ q2]; exact hC.2, ?_⟩
          refine h2 ρ2 _ σ e (P2.write hq ⟨dx, _, upd_same, ?_⟩) (s2'.mono e)
          exact RF.mono e _ _ (putFD_rel (RD.mono e2 _ _ r1) _ _ q2)
        · cases em
      · cases em
    · cases em
/-! ### methods -/
structure MCallee (c : Ctx) (C : Nat) (m : Str) (k n : Nat) (g : List D → DM → Rs D) : Prop where
  ex : ∃ f fd ps, FnOk c.P c.w c.K c.mg c.base (L2.CX c.P c.w) k f fd ps (spOf c n g) ∧ Cls c.K (c.cl C) ∧ Meth c.K (c.cl C) m f ∧ Binds c.K fd ps []
theorem MCallee.mono {C : Nat} {m : Str} {j n : Nat} {g : List D → DM → Rs D} (K : MCallee c C m j n g) (h : j ≤ k) : MCallee c C m k n g := by
  obtain ⟨f, fd, ps, F, h1, h2, h3⟩ := K.ex
  exact ⟨f, fd, ps, F.mono h, h1, h2, h3⟩
/-- a method of the class -/
structure MethAt (c : Ctx) (C : Nat) (x qual : Str) (st : Stmt) (ps : List Str) : Prop where
  ex : ∃ f fd, Cls c.K (c.cl C) ∧ Meth c.K (c.cl C) x f ∧ Fun c.K x qual st f fd ∧ Binds c.K fd ps []
theorem mcallee_def {N ps : List Str} {x qual : Str} {st : Stmt} {fb : FS} {C : Nat} (F : MethAt c C x qual st ps) (S : FnScope N ps (defScope st)) (body : ∀ (X : Cx) (W : WX), InS c X W k N (defScope st) → Cold X → VSs c X W (defBody st) fb) : MCallee c C x (k + 1) ps.length (fnD N.length fb) := by
  obtain ⟨f, fd, h1, h2, h3, h4⟩ := F.ex
  exact ⟨f, fd, ps, fnok_of h3 S body, h1, h2, h4⟩
abbrev MTab := List (Nat × (List D → DM → Rs D))
def mtab (tab : MTab) (C : Nat) : Option (List D → DM → Rs D) := tab.lookup C
def MsOk (c : Ctx) (m : Str) (k n : Nat) (tab : MTab) : Prop := ∀ C g, tab.lookup C = some g → MCallee c C m k n g
theorem ms_one {C : Nat} {m : Str} {n : Nat} {g : List D → DM → Rs D} (K : MCallee c C m k n g) : MsOk c m k n [(C, g)] := fun C' g' h => by
  simp only [List.lookup_cons, List.lookup_nil] at h
  cases e : (C' == C) with
  | true => rw [e] at h; cases h; have := beq_iff_eq.mp e; subst this; exact K
  | false => rw [e] at h; cases h
theorem ms_cons {C : Nat} {m : Str} {n : Nat} {g : List D → DM → Rs D} {tab : MTab} (K : MCallee c C m k n g) (T : MsOk c m k n tab) : MsOk c m k n ((C, g) :: tab) := fun C' g' h => by
  simp only [List.lookup_cons] at h
  cases e : (C' == C) with
  | true => rw [e] at h; cases h; have := beq_iff_eq.mp e; subst this; exact K
  | false => rw [e] at h; exact T C' g' h
def eMeth (m : Str) (tab : MTab) (fo : FE) (fa : FA) : FE := fun δ M => (fo δ M).bind fun x M1 => match x with
  | .obj n => match M1[n]? with
    | some (.ins C fs) => match tab.lookup C, fs.lookup m with
      | some g, none => (fa δ M1).bind fun xs M2 => g (x :: xs) M2
      | _, _ => .bad
    | _ => .bad
  | _ => .bad
def tMethS (m : Str) (Ok : Addr → Sp → Prop) (E : St → XK) (ta : TE) (t : TA) : TE := fun σ H Q => ta σ H fun x H1 => ∃ a C dx fs sp, x = .ref a ∧ H1 a = some (.ins C dx fs) ∧ Ok C sp ∧ fs.lookup m = none ∧
  t σ H1 fun vs H2 => sp (x :: vs) H2 Q (E σ)
def OkS (X : Cx) (m : Str) (k : Nat) (Ok : Addr → Sp → Prop) : Prop := ∀ C sp, Ok C sp → ∃ f fd ps, FnOk X.prog X.w X.K X.mg X.base (L2.CX X.prog X.w) k f fd ps sp ∧ Cls X.K C ∧ Meth X.K C m f ∧ Binds X.K fd ps []
theorem pe_methS {m : Str} {Ok : Addr → Sp → Prop} {E : St → XK} {pl : Sem Bool} {ta : TE} {t : TA} (hOk : OkS X m k Ok) (he : PE X o ta) (hr : Room k X.A) (hx : ∀ σ, PassesAt (L2.CX X.prog X.w) X σ (E σ)) (ha : PA X (e :: es) t)
    (hst : starEach (e :: es) X.env = (false, eval e X.env) :: starEach es X.env := by rfl) (hpl : (backTo pos (starEach es X.env)).any (·.1) = false := by rfl)
    (ht : eval (.Call (.Attribute o m apos) (e :: es) [] pos) X.env = (do
      let ov ← eval o X.env
      standAt apos.atName
      let (f, first) ← holding [ov] (getMethod ov m pl)
      callWith pos f first (backTo pos (starEach (e :: es) X.env)) (backToKw pos (keywordEach [] X.env))) := by rfl) :
    PE X (.Call (.Attribute o m apos) (e :: es) [] pos) (tMethS m Ok E ta t) := by
  refine ⟨fun pins s σ H Q I h => ?_⟩
  refine PySem.W.methodCall_KW (pl := pl) (thn (he.run pins s σ H _ I h) fun u s1 ⟨x, H1, I1, rx, a, C, dx, fs, sp, ex, ea, ok, l, q⟩ => ?_) ht
  subst ex
  obtain rfl : u = Value.ref a := rx
  obtain ⟨f, fd, ps, F, cc, hm, hb⟩ := hOk C sp ok
  refine getmeth_ok I1 ea cc hm l ?_
  refine PySem.W.callWith_K (first := [.ref a]) (h₀ := X.base) I.ok.mod.kin hm.kp (thn (ha.run pos pins s1 σ H1 _ I1 q) fun us s2 ⟨vs, H2, I2, r, q2⟩ => ⟨I2.kIn, ?_⟩) hst hpl
  exact run_fnS (us := .ref a :: us) (vs := .ref a :: vs) F hr hb (hx σ) I2 (.cons rfl r) q2
theorem pe_methS0 {m : Str} {Ok : Addr → Sp → Prop} {E : St → XK} {pl : Sem Bool} {ta : TE} (hOk : OkS X m k Ok) (he : PE X o ta) (hr : Room k X.A) (hx : ∀ σ, PassesAt (L2.CX X.prog X.w) X σ (E σ))
    (ht : eval (.Call (.Attribute o m apos) [] [] pos) X.env = (do
      let ov ← eval o X.env
      standAt apos.atName
      let (f, first) ← holding [ov] (getMethod ov m pl)
      callWith pos f first (backTo pos (starEach [] X.env)) (backToKw pos (keywordEach [] X.env))) := by rfl) :
    PE X (.Call (.Attribute o m apos) [] [] pos) (tMethS m Ok E ta tNil) := by
  refine ⟨fun pins s σ H Q I h => ?_⟩
  refine PySem.W.methodCall_KW (pl := pl) (thn (he.run pins s σ H _ I h) fun u s1 ⟨x, H1, I1, rx, a, C, dx, fs, sp, ex, ea, ok, l, q⟩ => ?_) ht
  subst ex
  obtain rfl : u = Value.ref a := rx
  obtain ⟨f, fd, ps, F, cc, hm, hb⟩ := hOk C sp ok
  refine getmeth_ok I1 ea cc hm l ?_
  exact PySem.W.callWith_K0 (first := [.ref a]) I1.kIn hm.kp (run_fnS (us := [.ref a]) (vs := [.ref a]) F hr hb (hx σ) I1 (.cons rfl .nil) q)
/-- what the table's methods promise -/
def okTab (c : Ctx) (n : Nat) (tab : MTab) (C : Addr) (sp : Sp) : Prop := ∃ i g, tab.lookup i = some g ∧ C = c.cl i ∧ sp = spOf c n g
theorem oks_tab (I : In c X W k N sc) {m : Str} {n : Nat} {tab : MTab} (T : MsOk c m k n tab) : OkS X m k (okTab c n tab) := by
  rintro C sp ⟨i, g, h1, rfl, rfl⟩
  obtain ⟨f, fd, ps, F, h2, h3, h4⟩ := (T i g h1).ex
  rw [← I.hP, ← I.hw, ← I.hK, ← I.hmg, ← I.hb] at F
  rw [← I.hK] at h2 h3 h4
  exact ⟨f, fd, ps, F, h2, h3, h4⟩
theorem ve_meth (I : In c X W k N sc) (hC : Cold X) {m : Str} {n : Nat} {tab : MTab} {ff : FA} (T : MsOk c m k n tab) (ho : VE c X W o fa) (ha : VA c X W (e :: es) ff) (hn : (e :: es).length + 1 = n := by rfl) {pl : Sem Bool}
    (hst : starEach (e :: es) X.env = (false, eval e X.env) :: starEach es X.env := by rfl) (hpl : (backTo pos (starEach es X.env)).any (·.1) = false := by rfl)
    (ht : eval (.Call (.Attribute o m apos) (e :: es) [] pos) X.env = (do
      let ov ← eval o X.env
      standAt apos.atName
      let (f, first) ← holding [ov] (getMethod ov m pl)
      callWith pos f first (backTo pos (starEach (e :: es) X.env)) (backToKw pos (keywordEach [] X.env))) := by rfl) :
    VE c X W (.Call (.Attribute o m apos) (e :: es) [] pos) (eMeth m tab fa ff) := by
  obtain ⟨t, p, s⟩ := ho
  obtain ⟨⟨t1, p1, s1⟩, hl⟩ := ha
  refine ⟨_, pe_methS (Ok := okTab c n tab) (E := WE W) (oks_tab I T) p (hC.room I) (fun σ => passAt I.take σ) p1 hst hpl ht, fun ρ M H δ σ Q P r h => ?_⟩
  refine s.bind P r h fun x M1 ρ1 H1 v e1 P1 s1' r1 _ h1 => ?_
  cases x with
  | obj i =>
    have r1' := r1
    simp only [RD] at r1'
    obtain ⟨q, rfl, hq⟩ := r1'
    simp only at h1
    split at h1
    · rename_i C fs eM
      obtain ⟨dx, vs, q1, q2⟩ := P1.at_ _ _ _ eM hq
      split at h1
      · rename_i g e5 e6
        have g6 := RF.get (f := m) fs vs q2
        rw [e6] at g6
        refine ⟨q, _, dx, vs, spOf c n g, rfl, q1, ⟨C, g, e5, rfl, rfl⟩, g6, ?_⟩
        refine s1.bind P1 s1' h1 fun xs M2 ρ2 H2 us e2 P2 s2 r2 e7 h2 => ?_
        exact ⟨ρ2, M2, .obj i :: xs, P2, by simp only [RDs]; exact ⟨_, _, rfl, RD.mono e2 _ _ r1, r2⟩, by rw [List.length_cons, hl _ _ _ _ e7]; exact hn, h2⟩
      · exact h1.elim
    · exact h1.elim
  | _ => exact h1.elim
theorem ve_meth0 (I : In c X W k N sc) (hC : Cold X) {m : Str} {tab : MTab} (T : MsOk c m k 1 tab) (ho : VE c X W o fa) {pl : Sem Bool}
    (ht : eval (.Call (.Attribute o m apos) [] [] pos) X.env = (do
      let ov ← eval o X.env
      standAt apos.atName
      let (f, first) ← holding [ov] (getMethod ov m pl)
      callWith pos f first (backTo pos (starEach [] X.env)) (backToKw pos (keywordEach [] X.env))) := by rfl) :
    VE c X W (.Call (.Attribute o m apos) [] [] pos) (eMeth m tab fa aNil) := by
  obtain ⟨t, p, s⟩ := ho
  refine ⟨_, pe_methS0 (Ok := okTab c 1 tab) (E := WE W) (oks_tab I T) p (hC.room I) (fun σ => passAt I.take σ) ht, fun ρ M H δ σ Q P r h => ?_⟩
  refine s.bind P r h fun x M1 ρ1 H1 v e1 P1 s1' r1 _ h1 => ?_
  cases x with
  | obj i =>
    have r1' := r1
    simp only [RD] at r1'
    obtain ⟨q, rfl, hq⟩ := r1'
    simp only at h1
    split at h1
    · rename_i C fs eM
      obtain ⟨dx, vs, q1, q2⟩ := P1.at_ _ _ _ eM hq
      split at h1
      · rename_i g e5 e6
        have g6 := RF.get (f := m) fs vs q2
        rw [e6] at g6
        refine ⟨q, _, dx, vs, spOf c 1 g, rfl, q1, ⟨C, g, e5, rfl, rfl⟩, g6, ?_⟩
        exact ⟨ρ1, M1, [.obj i], P1, by simp only [RDs]; exact ⟨_, _, rfl, r1, rfl⟩, rfl, h1⟩
      · exact h1.elim
    · exact h1.elim
  | _ => exact h1.elim
/-! ### C(..) -/
structure MkCallee (c : Ctx) (C : Nat) (x : Str) (k n : Nat) (g : List D → DM → Rs D) (dfl : List D) : Prop where
  ex : ∃ f fd ps ds dvs, FnOk c.P c.w c.K c.mg c.base (L2.CX c.P c.w) k f fd ps (spOf c n g) ∧ Mk c.K (c.cl C) f ∧ c.mg x = some (.ref (c.cl C)) ∧ Binds c.K fd ps ds ∧ Vals dvs ds ∧ ∀ ρ H, RDs c ρ H dfl dvs
theorem MkCallee.mono {C : Nat} {x : Str} {j n : Nat} {g : List D → DM → Rs D} {dfl : List D} (K : MkCallee c C x j n g dfl) (h : j ≤ k) : MkCallee c C x k n g dfl := by
  obtain ⟨f, fd, ps, ds, dvs, F, h1⟩ := K.ex
  exact ⟨f, fd, ps, ds, dvs, F.mono h, h1⟩
def eMake (C : Nat) (g : List D → DM → Rs D) (dfl : List D) (fa : FA) : FE := fun δ M => (fa δ M).bind fun xs M1 => (g (.obj M1.length :: (xs ++ dfl)) (M1 ++ [.ins C []])).bind fun r M2 => match r with
  | .non => .ok (.obj M1.length) M2
  | _ => .bad
def tMakeS (C : Addr) (sp : Sp) (dvs : List V) (E : St → XK) (t : TA) : TE := fun σ H Q => t σ H fun vs H1 => ∀ x dx, H1 x = none → H1 dx = none → dx ≠ x →
  sp (.ref x :: (vs ++ dvs)) (upd (upd H1 dx (.own x)) x (.ins C dx [])) (fun v H2 => v = .non ∧ Q (.ref x) H2) (E σ)
theorem run_makeS {C f : Addr} {fd : FuncData} {ps : List Str} {sp : Sp} {dvs : List V} {ds : List Value} {E : XK} {pins : List (Addr × Obj)} {σ : St} {H : Hp} {s : Shared} {Q : VK} {us : List Value} {vs : List V} (M : Mk X.K C f) (F : FnOk X.prog X.w X.K X.mg X.base (L2.CX X.prog X.w) k f fd ps sp) (hr : Room (k + 1) X.A) (hb : Binds X.K fd ps ds) (hd : Vals dvs ds)
    (hx : PassesAt (L2.CX X.prog X.w) X σ E) (I : Inv X pins σ H s) (r : Vals vs us)
    (h : ∀ x dx, H x = none → H dx = none → dx ≠ x → sp (.ref x :: (vs ++ dvs)) (upd (upd H dx (.own x)) x (.ins C dx [])) (fun v H2 => v = .non ∧ Q (.ref x) H2) E) :
    wpAny (model X.prog X.w) X.A (call (.ref C) us) (EP X pins σ Q) X.xe s := by
  have hq := h (s.heap.objs.size + 1) s.heap.objs.size (I.hok.fresh (Nat.le_succ _)) (I.hok.fresh (Nat.le_refl _)) (Nat.ne_of_lt (Nat.lt_succ_self _))
  have I2 := Inv.made (C := C) I
  have r2 : Vals (V.ref (s.heap.objs.size + 1) :: (vs ++ dvs)) (Value.ref (s.heap.objs.size + 1) :: (us ++ ds)) := .cons rfl (r.append hd)
  have hl : (Value.ref (s.heap.objs.size + 1) :: us ++ ds).length = ps.length := by
    have e := r2.length
    rw [F.len _ _ _ _ hq] at e
    exact e.symm
  refine wpAny_call (make_map (f := f) I.kIn M.makes M.init (beq_iff_eq.mp M.fn) (codeAny_mono (F.run _ X.stack _ _ ⟨Value.ref (s.heap.objs.size + 1) :: us, []⟩ (Value.ref (s.heap.objs.size + 1) :: (us ++ ds)) _ _ E (hr.make C us [])
    (I2.env0.make C us []) (hb _ (Value.ref (s.heap.objs.size + 1) :: us) I2.kIn hl) r2 hq) fun r s' hq' => ?_))
  cases r with
  | error e => exact hx pins _ _ e s' I2 hq'
  | ok fl =>
    cases fl with
    | ret u =>
      obtain ⟨v, H', I3, rv, ev, q3⟩ := I2.after hq'
      subst ev
      exact ⟨rv, ⟨V.ref (s.heap.objs.size + 1), H', I3, rfl, q3⟩⟩
    | next => exact False.elim hq'
    | brk => exact False.elim hq'
    | cont => exact False.elim hq'
theorem make_sim {C : Nat} {n : Nat} {g : List D → DM → Rs D} {dfl : List D} {dvs : List V} {t : TA} {ff : FA} {m : Nat} (hd : ∀ ρ H, RDs c ρ H dfl dvs) (s1 : Sim c W (RDs c) t ff) (hl : ∀ δ M ds M', ff δ M = .ok ds M' → ds.length = m) (hn : m + 1 + dfl.length = n) :
    Sim c W (RD c) (tMakeS (c.cl C) (spOf c n g) dvs (WE W) t) (eMake C g dfl ff) := by
  intro ρ M H δ σ Q P r h
  refine s1.bind P r h fun xs M1 ρ1 H1 vs e1 P1 s1' r1 e7 h1 => ?_
  intro x dx hx hdx hne
  have P2 := P1.new (o := .own x) hdx
  have hx2 : (upd H1 dx (.own x)) x = none := by rw [upd_ne (Ne.symm hne)]; exact hx
  have eA : Ext ρ1 H1 (ρ1 ++ [x]) (upd (upd H1 dx (.own x)) x (.ins (c.cl C) dx [])) := (Ext.new (ρ := ρ1) (o := .own x) hdx).trans (.alloc hx2)
  have PA : Rep c (ρ1 ++ [x]) (M1 ++ [.ins C []]) (upd (upd H1 dx (.own x)) x (.ins (c.cl C) dx [])) := P2.alloc hx2 ⟨dx, [], upd_same, by simp only [RF]⟩
  have r2 := RDs.mono eA _ _ r1
  refine ⟨_, _, .obj M1.length :: (xs ++ dfl), PA, ?_, ?_, ?_⟩
  · simp only [RDs]
    exact ⟨_, _, rfl, RD.new P1, RDs.append _ _ _ _ r2 (hd _ _)⟩
  · rw [List.length_cons, List.length_append, hl _ _ _ _ e7]
    omega
  · have h2 := Post.mono eA h1
    cases eg : g (.obj M1.length :: (xs ++ dfl)) (M1 ++ [.ins C []]) with
    | bad => rw [eg] at h2; exact h2.elim
    | ex z M2 => rw [eg] at h2; exact h2
    | ok d M2 =>
      rw [eg] at h2
      intro ρ' H' b e P' rb
      cases d with
      | non =>
        simp only [RD] at rb
        have h3 := Post.mono e h2
        refine ⟨rb, h3 ρ' H' _ .refl P' ?_⟩
        exact RD.mono e _ _ (RD.new P1)
      | _ => exact h2.elim
theorem ve_make (I : In c X W (k + 1) N sc) (hC : Cold X) {C : Nat} {x : Str} {n : Nat} {g : List D → DM → Rs D} {dfl : List D} {ff : FA} {p : Pos} (nm : Gn sc x) (K : MkCallee c C x k n g dfl) (ha : VA c X W (e :: es) ff) (hn : (e :: es).length + 1 + dfl.length = n := by rfl)
    (hst : starEach (e :: es) X.env = (false, eval e X.env) :: starEach es X.env := by rfl) (hpl : (backTo pos (starEach es X.env)).any (·.1) = false := by rfl) : VE c X W (.Call (.Name x p) (e :: es) [] pos) (eMake C g dfl ff) := by
  obtain ⟨f, fd, ps, ds, dvs, F, M, h1, h2, h3, h4⟩ := K.ex
  obtain ⟨⟨t, pa, s⟩, hl⟩ := ha
  rw [← I.hP, ← I.hw, ← I.hK, ← I.hmg, ← I.hb] at F
  rw [← I.hK] at M h2
  rw [← I.hmg] at h1
  refine ⟨tMakeS (c.cl C) (spOf c n g) dvs (WE W) t, ⟨fun pins s0 σ H Q J h => ?_⟩, make_sim h4 s hl hn⟩
  refine wpAny_Call_Name_kw (ld_glob J (I.gl nm) h1 ?_ nm.db)
  refine PySem.W.callWith_K (h₀ := X.base) J.ok.mod.kin M.kp (thn (pa.run pos pins s0 σ H _ J h) fun us s1 ⟨vs, H1, I1, r, q⟩ => ⟨I1.kIn, ?_⟩) hst hpl
  exact run_makeS M F (hC.room I) h2 h3 (passAt I.take σ) I1 r q
theorem sim_nil : Sim c W (RDs c) tNil aNil := fun ρ M H δ σ Q P r h => h ρ H [] .refl P (by simp only [RDs])
theorem ve_make0 (I : In c X W (k + 1) N sc) (hC : Cold X) {C : Nat} {x : Str} {n : Nat} {g : List D → DM → Rs D} {dfl : List D} {p : Pos} (nm : Gn sc x) (K : MkCallee c C x k n g dfl) (hn : 0 + 1 + dfl.length = n := by rfl) : VE c X W (.Call (.Name x p) [] [] pos) (eMake C g dfl aNil) := by
  obtain ⟨f, fd, ps, ds, dvs, F, M, h1, h2, h3, h4⟩ := K.ex
  rw [← I.hP, ← I.hw, ← I.hK, ← I.hmg, ← I.hb] at F
  rw [← I.hK] at M h2
  rw [← I.hmg] at h1
  refine ⟨tMakeS (c.cl C) (spOf c n g) dvs (WE W) tNil, ⟨fun pins s0 σ H Q J h => ?_⟩, make_sim (m := 0) h4 sim_nil (fun δ M ds M' h => by cases h; rfl) hn⟩
  refine wpAny_Call_Name_kw (ld_glob J (I.gl nm) h1 ?_ nm.db)
  exact PySem.W.callWith_K0 J.kIn M.kp (run_makeS (us := []) M F (hC.room I) h2 h3 (passAt I.take σ) J .nil h)
/-! ### own x[i], x[i] = v, i in x -/
theorem ins_at {pins : List (Addr × Obj)} {σ : St} {H : Hp} {s : Shared} {p C dx : Addr} {vs : List (Str × V)} (I : Inv X pins σ H s) (e : H p = some (.ins C dx vs)) : ∃ od, PySem.W.InstAt s.heap p (PySem.W.instObj C dx) C (some od) := by
  obtain ⟨mA, O, _⟩ := ins_get I.hok e
  obtain ⟨od, J, _⟩ := O.look
  exact ⟨od, J⟩
/-- the callee runs one unit deeper -/
theorem run_fnS1 {f : Addr} {fd : FuncData} {ps : List Str} {sp : Sp} {E : XK} {pins : List (Addr × Obj)} {σ : St} {H : Hp} {s : Shared} {Q : VK} {us : List Value} {vs : List V} (F : FnOk X.prog X.w X.K X.mg X.base (L2.CX X.prog X.w) k f fd ps sp) (hr : Room (k + 1) X.A) (hb : Binds X.K fd ps []) (hx : PassesAt (L2.CX X.prog X.w) X σ E)
    (I : Inv X pins σ H s) (r : Vals vs us) (h : sp vs H Q E) : wpAny (model X.prog X.w) X.A.in1 (call (.ref f) us) (EP X pins σ Q) X.xe s := by
  have hl : us.length = ps.length := by rw [← r.length]; exact F.len _ _ _ _ h
  have b := hb s us I.kIn (by rw [List.append_nil]; exact hl)
  rw [List.append_nil] at b
  refine wpAny_call (codeAny_mono (F.run X.A.in1 X.stack s H ⟨us, []⟩ us vs Q E hr.in1 I.env0.in1 b r h) fun r s' hq => ?_)
  cases r with
  | error e => exact hx pins H s e s' I hq
  | ok fl =>
    cases fl with
    | ret u => exact I.after hq
    | next => exact False.elim hq
    | brk => exact False.elim hq
    | cont => exact False.elim hq
/-- x[i] by the class's own def -/
def ogetD (C : Nat) (g : List D → DM → Rs D) (x y : D) (M : DM) : Rs D := match x with
  | .obj n => match M[n]? with
    | some (.ins C' _) => if C' = C then g [x, y] M else .bad
    | _ => .bad
  | _ => .bad
theorem ve_oget (I : In c X W (k + 1) N sc) (hC : Cold X) {C : Nat} {g : List D → DM → Rs D} (K : MCallee c C "__getitem__" k 2 g) (hf : ∀ f, Meth c.K (c.cl C) "__getitem__" f → PySem.W.fnIn c.K f = true) (ha : VE c X W a fa) (hb : VE c X W b fb)
    (hsl : ∀ x i, subscripted b true (.ref x) i = runValue (.builtin "lifetime.subscript" ⟨[.ref x, i], []⟩) := by intro _ _; with_unfolding_all rfl) : VE c X W (.Subscript a b pos) (e2 (ogetD C g) fa fb) := by
  obtain ⟨f, fd, ps, F, k1, k2, k3⟩ := K.ex
  have hfn := hf f k2
  rw [← I.hP, ← I.hw, ← I.hK, ← I.hmg, ← I.hb] at F
  rw [← I.hK] at k1 k2 k3 hfn
  obtain ⟨ta, pa, sa⟩ := ha
  obtain ⟨tb, pb, sb⟩ := hb
  refine ⟨fun σ H Q => ta σ H fun x H1 => tb σ H1 fun y H2 => ∃ p dx vs, x = .ref p ∧ H2 p = some (.ins (c.cl C) dx vs) ∧ spOf c 2 g [x, y] H2 Q (WE W σ), ⟨fun pins s σ H Q J h => ?_⟩, fun ρ M H δ σ Q P r h => ?_⟩
  · refine Subscript_ (thn (pa.run pins s σ H _ J h) fun v s1 ⟨x, H1, I1, rx, q1⟩ => thn (pb.run pins s1 σ H1 _ I1 q1) fun u s2 ⟨y, H2, I2, ry, p, dx, vs, ex, ep, q⟩ => ?_)
    subst ex
    obtain rfl : v = Value.ref p := rx
    obtain ⟨od, J2⟩ := ins_at I2 ep
    obtain ⟨m, Fr⟩ := I2.fr
    exact PySem.W.sub_K Fr I2.mod.kin J2 k2.at_ hfn k2.fn (run_fnS1 (us := [.ref p, u]) (vs := [.ref p, y]) F (hC.room I) k3 (passAt I.take σ) I2 (.cons rfl (.cons ry .nil)) q) (hsl _ _)
  · refine sa.bind P r h fun x M1 ρ1 H1 v e1 P1 s1' r1 _ h1 => ?_
    refine sb.bind P1 s1' h1 fun y M2 ρ2 H2 u e2 P2 s2' r2 _ h2 => ?_
    cases x with
    | obj i =>
      have r1' := r1
      simp only [RD] at r1'
      obtain ⟨q, rfl, hq⟩ := r1'
      simp only [ogetD] at h2
      split at h2
      · rename_i C' fs eM
        split at h2
        · rename_i hC
          subst hC
          obtain ⟨dx, vs, q1, q2⟩ := P2.at_ _ _ _ eM (e2.get hq)
          exact ⟨q, dx, vs, rfl, q1, ρ2, M2, [.obj i, y], P2, by simp only [RDs]; exact ⟨_, _, rfl, RD.mono e2 _ _ r1, _, _, rfl, r2, rfl⟩, rfl, h2⟩
        · exact h2.elim
      · exact h2.elim
    | _ => exact h2.elim
/-- x[i] = v by the class's own def -/
def sOset (C : Nat) (g : List D → DM → Rs D) (fe fo fi : FE) : FS := fun δ M => (fe δ M).ro δ fun d M1 => (fo δ M1).ro δ fun x M2 => (fi δ M2).ro δ fun y M3 => match x with
  | .obj n => match M3[n]? with
    | some (.ins C' _) => if C' = C then (g [x, y, d] M3).ro δ fun _ M4 => .nx δ M4 else .bad
    | _ => .bad
  | _ => .bad
theorem vs_oset (I : In c X W k N sc) (hC : Cold X) {C : Nat} {g : List D → DM → Rs D} {i : Expr} {fi f : FE} {pos' : Pos} (K : MCallee c C "__setitem__" k 3 g) (hq0 : PySem.W.noSeq c.K (c.cl C) = true) (he : VE c X W e f) (ho : VE c X W o fa) (hi : VE c X W i fi)
    (ha : ∀ v, assign (.Subscript o i pos') X.env v = (do
      let ov ← holding [v] (eval o X.env)
      let iv ← holding [v, ov] (eval i X.env)
      standAt pos'
      holding [v, ov, iv] (setItem ov iv v)
      release [v, ov, iv] []) := by intro _; rfl)
    (hs : swapsWith e (some (.Subscript o i pos')) pos.line X.env = pure false := by rfl) : VS c X W (.Assign [.Subscript o i pos'] e pos) (sOset C g f fa fi) := by
  obtain ⟨fn, fd, ps, F, k1, k2, k3⟩ := K.ex
  rw [← I.hP, ← I.hw, ← I.hK, ← I.hmg, ← I.hb] at F
  rw [← I.hK] at k1 k2 k3 hq0
  obtain ⟨t, p, s⟩ := he
  obtain ⟨t1, p1, s1⟩ := ho
  obtain ⟨t2, p2, s2⟩ := hi
  refine ⟨fun D σ H => t σ H fun z H1 => t1 σ H1 fun x H2 => t2 σ H2 fun y H3 => ∃ p dx vs, x = .ref p ∧ H3 p = some (.ins (c.cl C) dx vs) ∧ spOf c 3 g [x, y, z] H3 (fun _ H4 => D.nx σ H4) (WE W σ), ⟨fun pins s0 σ H D J h => ?_⟩, fun ρ M H δ σ Dn P r h => ?_⟩
  · refine wpAny_Assign_Subscript (thn (p.run pins s0 σ H _ J h) fun v s1 ⟨z, H1, I1, rz, q1⟩ => thn (p1.run pins s1 σ H1 _ I1 q1) fun u s2 ⟨x, H2, I2, rx, q2⟩ => thn (p2.run pins s2 σ H2 _ I2 q2) fun iv s3 ⟨y, H3, I3, ry, p, dx, vs, ex, ep, q⟩ => ?_) hs
    subst ex
    obtain rfl : u = Value.ref p := rx
    obtain ⟨od, J2⟩ := ins_at I3 ep
    obtain ⟨m, Fr⟩ := I3.fr
    refine PySem.W.ksp_setItem Fr I3.mod.kin J2 hq0 k2.at_ k2.fn (wpAny_mono (run_fnS (us := [.ref p, iv, v]) (vs := [.ref p, y, z]) F (hC.room I) k3 (passAt I.take σ) I3 (.cons rfl (.cons ry (.cons rz .nil))) q) (fun _ s4 ⟨_, H4, I4, _, q4⟩ => ?_) fun _ _ z => z)
    exact ⟨σ, H4, I4, q4⟩
  · refine s.ro P r h fun d M1 ρ1 H1 v e1 P1 s1' r1 _ h1 => ?_
    refine s1.ro P1 s1' h1 fun x M2 ρ2 H2 u e2 P2 s2' r2 _ h2 => ?_
    refine s2.ro P2 s2' h2 fun y M3 ρ3 H3 iv e3 P3 s3' r3 _ h3 => ?_
    cases x with
    | obj n =>
      have r2' := r2
      simp only [RD] at r2'
      obtain ⟨q, rfl, hq⟩ := r2'
      simp only at h3
      split at h3
      · rename_i C' fs eM
        split at h3
        · rename_i hC
          subst hC
          obtain ⟨dx, vs, q1, q2⟩ := P3.at_ _ _ _ eM (e3.get hq)
          refine ⟨q, dx, vs, rfl, q1, ρ3, M3, [.obj n, y, d], P3, by simp only [RDs]; exact ⟨_, _, rfl, RD.mono e3 _ _ r2, _, _, rfl, r3, _, _, rfl, RD.mono (e2.trans e3) _ _ r1, rfl⟩, rfl, ?_⟩
          cases eg : g [.obj n, y, d] M3 with
          | bad => rw [eg] at h3; exact h3.elim
          | ex z M4 =>
            rw [eg] at h3
            intro ρ' H' cls od e' P' rx
            exact h3 ρ' H' σ cls od e' P' (s3'.mono e') rx
          | ok z M4 =>
            rw [eg] at h3
            intro ρ' H' b e' P' rb
            exact h3 ρ' H' σ e' P' (s3'.mono e')
        · exact h3.elim
      · exact h3.elim
    | _ => exact h3.elim
/-! ### C.f: a constant of the class -/
def eCv (d : D) (fa : FE) (C : Nat) : FE := fun δ M => (fa δ M).bind fun x M1 => match x with
  | .cl C' => if C' = C then .ok d M1 else .bad
  | _ => .bad
structure CVAt (c : Ctx) (C : Nat) (f : Str) (d : D) : Prop where
  ex : ∃ mc v u, ClX.CRead c.K (c.cl C) mc ∧ ClX.CVal c.K (c.cl C) mc f v u ∧ ∀ ρ H, RD c ρ H d v
theorem ve_cval (I : In c X W k N sc) {C : Nat} {f : Str} {d : D} (F : CVAt c C f d) (he : VE c X W e fa) (hb : attributeBase e f X.env (eval e X.env) = eval e X.env := by rfl) : VE c X W (.Attribute e f pos) (eCv d fa C) := by
  obtain ⟨mc, v, u, h1, h2, h3⟩ := F.ex
  obtain ⟨t, p, s⟩ := he
  refine ⟨_, ClX.pe_cval p hb, fun ρ M H δ σ Q P r h => ?_⟩
  refine s.bind P r h fun x M1 ρ1 H1 w e1 P1 s1' r1 _ hh => ?_
  rw [I.hK]
  cases x with
  | cl C' =>
    simp only at hh
    split at hh
    · rename_i e
      subst e
      simp only [RD] at r1
      exact ⟨_, mc, v, u, r1, h1, h2, hh ρ1 H1 v .refl P1 (h3 _ _)⟩
    · exact hh.elim
  | _ => exact hh.elim
/-! ### a property -/
structure PCallee (c : Ctx) (C : Nat) (f : Str) (k : Nat) (g : List D → DM → Rs D) : Prop where
  ex : ∃ p fn fd ps, FnOk c.P c.w c.K c.mg c.base (L2.CX c.P c.w) k fn fd ps (spOf c 1 g) ∧ Cls c.K (c.cl C) ∧ PropOf c.K (c.cl C) f p fn ∧ Binds c.K fd ps []
theorem PCallee.mono {C : Nat} {m : Str} {j : Nat} {g : List D → DM → Rs D} (K : PCallee c C m j g) (h : j ≤ k) : PCallee c C m k g := by
  obtain ⟨p, f, fd, ps, F, h1, h2, h3⟩ := K.ex
  exact ⟨p, f, fd, ps, F.mono h, h1, h2, h3⟩
structure PropAt (c : Ctx) (C : Nat) (x qual : Str) (st : Stmt) (ps : List Str) : Prop where
  ex : ∃ p f fd, Cls c.K (c.cl C) ∧ PropOf c.K (c.cl C) x p f ∧ Fun c.K x qual st f fd ∧ Binds c.K fd ps []
theorem pcallee_def {N : List Str} {y x qual : Str} {st : Stmt} {fb : FS} {C : Nat} (F : PropAt c C x qual st [y]) (S : FnScope N [y] (defScope st)) (body : ∀ (X : Cx) (W : WX), InS c X W k N (defScope st) → Cold X → VSs c X W (defBody st) fb) : PCallee c C x (k + 1) (fnD N.length fb) := by
  obtain ⟨p, f, fd, h1, h2, h3, h4⟩ := F.ex
  exact ⟨p, f, fd, [y], fnok_of h3 S body, h1, h2, h4⟩
def ePr (C : Nat) (g : List D → DM → Rs D) (fa : FE) : FE := fun δ M => (fa δ M).bind fun x M1 => match x with
  | .obj n => match M1[n]? with
    | some (.ins C' _) => if C' = C then (match g [x] M1 with
      | .ok d M2 => .ok d M2
      | _ => .bad) else .bad
    | _ => .bad
  | _ => .bad
theorem ve_prop (I : In c X W (k + 1) N sc) (hC : Cold X) {C : Nat} {f : Str} {g : List D → DM → Rs D} (K : PCallee c C f k g) (he : VE c X W e fa) (hab : attributeBase e f X.env (eval e X.env) = eval e X.env := by rfl) : VE c X W (.Attribute e f pos) (ePr C g fa) := by
  obtain ⟨p, fn, fd, ps, F, h1, h2, h3⟩ := K.ex
  rw [← I.hP, ← I.hw, ← I.hK, ← I.hmg, ← I.hb] at F
  rw [← I.hK] at h1 h2 h3
  obtain ⟨t, pe, s⟩ := he
  refine ⟨_, pe_prop (E := fun _ _ _ => False) pe h1 h2 F (hC.room I) h3 .nil (fun _ _ _ _ _ _ _ ⟨_, _, _, _, _, _, _, _, _, _, _, _, z⟩ => z.elim) hab, fun ρ M H δ σ Q P r h => ?_⟩
  refine s.bind P r h fun x M1 ρ1 H1 w e1 P1 s1' r1 _ hh => ?_
  cases x with
  | obj i =>
    have r1' := r1
    simp only [RD] at r1'
    obtain ⟨q, rfl, hq⟩ := r1'
    simp only at hh
    split at hh
    · rename_i C' fs eM
      split at hh
      · rename_i hC
        subst hC
        obtain ⟨dx, vs, q1, q2⟩ := P1.at_ _ _ _ eM hq
        refine ⟨q, dx, vs, rfl, q1, ρ1, M1, [.obj i], P1, by simp only [RDs]; exact ⟨_, _, rfl, r1, rfl⟩, rfl, ?_⟩
        cases eg : g [.obj i] M1 with
        | ok d M2 =>
          rw [eg] at hh
          exact hh
        | ex z M2 => rw [eg] at hh; exact hh.elim
        | bad => rw [eg] at hh; exact hh.elim
      · exact hh.elim
    · exact hh.elim
  | _ => exact hh.elim
/-! ### dict(..): of a dict, of the written () -/
/-- D.cl 1000, D.cl 1001: written empty tuples -/
def Tup0 (c : Ctx) : Prop := ∀ i, i = 1000 ∨ i = 1001 → ∃ (o : Obj) (n : Nat), c.K.lookup (c.cl i) = some o ∧ o.cls = .type "tuple" ∧ o.dict = none ∧ o.data = .seq #[] n
def dictD (xs : List D) (M : DM) : Rs D := match xs with
  | [.cl n] => if n = 1000 ∨ n = 1001 then .ok (.obj M.length) (M ++ [.dic []]) else .bad
  | [.obj n] => match M[n]? with
    | some (.dic kvs) => .ok (.obj M.length) (M ++ [.dic kvs])
    | _ => .bad
  | _ => .bad
def rDict (T : Nat → Addr) : List V → Hp → VK → Prop := fun xs H Q => (∃ i, (i = 1000 ∨ i = 1001) ∧ xs = [.ref (T i)] ∧ ∀ p, H p = none → Q (.ref p) (upd H p (.dK []))) ∨ ∃ a kvs, xs = [.ref a] ∧ H a = some (.dK kvs) ∧ ∀ p, H p = none → Q (.ref p) (upd H p (.dK kvs))
theorem call_dict (I : In c X W k N sc) (hC : Cold X) (T : Tup0 c) : CallR X (.type "dict") (rDict c.cl) := by
  intro pins s σ H xs us Q J r q
  rcases q with ⟨i, hi, ex, q⟩ | ⟨a, kvs, ex, e, q⟩
  · subst ex
    obtain ⟨u, rfl, rx⟩ := r.one
    cases rx
    obtain ⟨o, n, h1, h2, h3, h4⟩ := T i hi
    rw [← I.hK] at h1
    have ho := J.kIn _ _ h1
    refine PySem.call_dict_pairs (K := Key) (knd := mixKind X.prog X.w) (kvs := []) (PySem.PairArg.tuple (c.cl i) #[] (fun _ => 0) []) (J.ok.hd hC.calm) ⟨⟨o, n, ho, h2, h3, h4⟩, rfl, fun j k v e => by simp at e⟩ ⟨rfl, fun i key v e => by simp [PySem.PairRel] at e⟩ (Nat.zero_le _) fun h' tk hd' hk => ?_
    have hm : (s.heap.objs.size == sysModules) = false := beq_eq_false_iff_ne.mpr (Nat.ne_of_gt J.big)
    exact ⟨.ref s.heap.objs.size, upd H s.heap.objs.size (.dK []), J.laid (t' := tk) (fun b o e => hk b o (by simp) e) (Nat.le_refl _) (show ObjOk X.prog X.w _ _ _ (.dK []) from ⟨Nat.zero_le _, hm, merged [] [], .nil, hd'⟩), rfl, q _ (J.hok.fresh (Nat.le_refl _))⟩
  · subst ex
    obtain ⟨u, rfl, rx⟩ := r.one
    cases rx
    exact d_copyOf J (.inl e) fun p s' hp I' => ⟨.ref p, _, I', rfl, q p hp⟩
theorem o_dict : OpL c W (rDict c.cl) dictD := by
  intro ρ M H σ xs vs Q P rs h
  unfold dictD at h
  split at h
  · rename_i n
    split at h
    · rename_i hn
      obtain ⟨v, rfl, rv⟩ := rds1 rs
      simp only [RD] at rv
      subst rv
      refine .inl ⟨n, hn, rfl, fun p hp => h (ρ ++ [p]) _ (.ref p) (.alloc hp) (P.alloc hp ⟨[], upd_same, by simp only [RK]⟩) (RD.new P)⟩
    · exact h.elim
  · rename_i n
    split at h
    · rename_i kvs eM
      obtain ⟨v, rfl, rv⟩ := rds1 rs
      simp only [RD] at rv
      obtain ⟨a, rfl, ha⟩ := rv
      obtain ⟨ws, q1, q2⟩ := P.at_ _ _ _ eM ha
      exact .inr ⟨a, ws, rfl, q1, fun p hp => h (ρ ++ [p]) _ (.ref p) (.alloc hp) (P.alloc hp ⟨ws, upd_same, RK.mono (.alloc hp) _ _ q2⟩) (RD.new P)⟩
    · exact h.elim
  · exact h.elim
end
end DL

set_option Elab.async false
set_option linter.all false
set_option maxRecDepth 100000
set_option maxHeartbeats 4000000
namespace DL
open PySem PySem.Spec L2
open PyProof.Rows hiding St
/-! ### the draws of the laws -/
def f_law_mixed : FS :=
 (sSeq (sSet 3 (e2 modD (eCall intD (aCons (e2 addD (e2 addD (e2 mulD (eVar 0) (eC (D.int 48271))) (e2 mulD (eVar 1) (eC (D.int 69621)))) (eC (D.int 11))) aNil)) (eC (D.int 2147483647))))
 (sSeq (sSet 4 (e2 modD (eCall intD (aCons (e2 addD (e2 addD (e2 mulD (eVar 3) (eC (D.int 40692))) (e2 mulD (eVar 0) (eC (D.int 16807)))) (e2 mulD (eVar 1) (eC (D.int 30269)))) aNil)) (eC (D.int 2147483399))))
 (sSeq (sSet 5 (e2 modD (eCall intD (aCons (e2 addD (e2 mulD (eVar 4) (eC (D.int 39373))) (e2 fdivD (eVar 3) (eC (D.int 7)))) aNil)) (eC (D.int 1000000007))))
 (sRet (e2 modD (eCall intD (aCons (eVar 5) aNil)) (eVar 2))))))
def g_law_mixed : List D → DM → Rs D := fnD 6 f_law_mixed
def f_law_draw : FS :=
 (sSeq (sIf (tb (e2 gtD (e2 ixD (eVar 0) (eC (D.int 2))) (eC (D.int 0))))
  (sSeq (sSet 2 (e2 modD (eCall intD (aCons (e2 ixD (eVar 0) (eC (D.int 2))) aNil)) (eVar 1)))
 (sSeq (sSub (e2 fdivD (e2 ixD (eVar 0) (eC (D.int 2))) (eVar 1)) (eVar 0) (eC (D.int 2)))
 (sRet (eVar 2))))
  sNil)
 (sSeq (sIf (tb (e2 gtD (e2 ixD (eVar 0) (eC (D.int 4))) (eC (D.int 0))))
  (sSeq (sSub (e2 subD (e2 ixD (eVar 0) (eC (D.int 4))) (eC (D.int 1))) (eVar 0) (eC (D.int 4)))
 (sRet (eCall g_law_mixed (aCons (e2 ixD (eVar 0) (eC (D.int 3))) (aCons (e2 ixD (eVar 0) (eC (D.int 4))) (aCons (eVar 1) aNil))))))
  sNil)
 (sSeq (sIf (tb (e2 geD (e2 ixD (eVar 0) (eC (D.int 1))) (eCall lenD (aCons (e2 ixD (eVar 0) (eC (D.int 0))) aNil))))
  (sRet (eC (D.int 0)))
  sNil)
 (sSeq (sSet 3 (e2 ixD (e2 ixD (eVar 0) (eC (D.int 0))) (e2 ixD (eVar 0) (eC (D.int 1)))))
 (sSeq (sSub (e2 addD (e2 ixD (eVar 0) (eC (D.int 1))) (eC (D.int 1))) (eVar 0) (eC (D.int 1)))
 (sSeq (sIf (tb (e2 ltD (eVar 3) (eC (D.int 0))))
  (sSet 3 (e2 subD (e1 negD (eC (D.int 1))) (eVar 3)))
  sNil)
 (sSeq (sIf (tb (e2 geD (eVar 3) (e2 powD (eC (D.int 10)) (eC (D.int 18)))))
  (sSeq (sSub (e2 fdivD (eVar 3) (eVar 1)) (eVar 0) (eC (D.int 2)))
 (sRet (e2 modD (eCall intD (aCons (eVar 3) aNil)) (eVar 1))))
  sNil)
 (sSeq (sSub (eVar 3) (eVar 0) (eC (D.int 3)))
 (sSeq (sSub (eC (D.int 7)) (eVar 0) (eC (D.int 4)))
 (sRet (eCall g_law_mixed (aCons (eVar 3) (aCons (eC (D.int 7)) (aCons (eVar 1) aNil))))))))))))))
def g_law_draw : List D → DM → Rs D := fnD 4 f_law_draw
def f_law_pool : FS :=
 (sRet (eLst (aCons (eCall listD (aCons (eVar 0) aNil)) (aCons (eC (D.int 0)) (aCons (eC (D.int 0)) (aCons (eC (D.int 0)) (aCons (eC (D.int 0)) aNil)))))))
def g_law_pool : List D → DM → Rs D := fnD 1 f_law_pool
def f_law_same (G : List D → DM → Rs D) : FS :=
 (sSeq (sIf (tb (e2 isN (eVar 1) (eC D.non)))
  (sRet (e2 isN (eVar 0) (eC D.non)))
  sNil)
 (sSeq (sIf (tb (eCall isiD (aCons (eVar 1) (aCons (eC (D.ty "bool")) aNil))))
  (sRet (eAnd (eCall isiD (aCons (eVar 0) (aCons (eC (D.ty "bool")) aNil))) (e2 eqD (eVar 0) (eVar 1))))
  sNil)
 (sSeq (sIf (tb (eCall isiD (aCons (eVar 1) (aCons (eC (D.ty "int")) aNil))))
  (sRet (eAnd (eCall isiD (aCons (eVar 0) (aCons (eC (D.ty "int")) aNil))) (eAnd (eNot (eCall isiD (aCons (eVar 0) (aCons (eC (D.ty "bool")) aNil)))) (e2 eqD (eVar 0) (eVar 1)))))
  sNil)
 (sSeq (sIf (tb (eCall isiD (aCons (eVar 1) (aCons (eC (D.ty "str")) aNil))))
  (sRet (eAnd (eCall isiD (aCons (eVar 0) (aCons (eC (D.ty "str")) aNil))) (e2 eqD (eVar 0) (eVar 1))))
  sNil)
 (sSeq (sIf (tAndF (tb (eCall isiD (aCons (eVar 1) (aCons (eC (D.ty "tuple")) aNil)))) (tNotF (tb (eCall isiD (aCons (eVar 0) (aCons (eC (D.ty "tuple")) aNil))))))
  (sRet (eC (D.bl false)))
  sNil)
 (sSeq (sIf (tAndF (tb (eCall isiD (aCons (eVar 1) (aCons (eC (D.ty "list")) aNil)))) (tNotF (tb (eCall isiD (aCons (eVar 0) (aCons (eC (D.ty "list")) aNil))))))
  (sRet (eC (D.bl false)))
  sNil)
 (sSeq (sIf (tb (e2 neD (eCall lenD (aCons (eVar 0) aNil)) (eCall lenD (aCons (eVar 1) aNil))))
  (sRet (eC (D.bl false)))
  sNil)
 (sSeq (sForR (eCall lenD (aCons (eVar 1) aNil)) (gNm 2)
  (sIf (tNotF (tb (eCall G (aCons (e2 ixD (eVar 0) (eVar 2)) (aCons (e2 ixD (eVar 1) (eVar 2)) aNil)))))
  (sRet (eC (D.bl false)))
  sNil))
 (sRet (eC (D.bl true)))))))))))
def g_law_same : Nat → List D → DM → Rs D
  | 0 => fun _ _ => .bad
  | n + 1 => fnD 3 (f_law_same (g_law_same n))
local macro_rules | `(tactic| walk_at "dx") => `(tactic| simp (disch := first | decide | assumption | omega) only [sSeq, sIf, sRet, sRetN, sNil, sSet, sExpr, sAsg, gTupN, gNms, gNm, tb, tNotF, tAndF, tOrF, eNot, eAnd, eOr, eIf, eTup, eLst, aCons, aNil, eCall, e1, e2, eVar, eC, negD, bind_ok, ro_ok, seq_nx, seq_rt, seq_ct, seq_bk, fin_rt, fin_nx, sat_ok, sat_bind, sat_fin, sat_seq, sat_ro, rsat_nx, rsat_rt, rsat_ct, rsat_bk, seqQ_nx, seqQ_rt, seqQ_ct, seqQ_bk, finQ_nx, finQ_rt, sSub, ixo0, ixo1, ixo2, ixo3, ixo4, puts1, puts2, puts3, puts4, List.map_cons, List.map_nil, List.length_cons, List.length_nil, Nat.reduceAdd, Nat.reduceSub, List.replicate_succ, List.replicate_zero, List.nil_append, List.cons_append, List.getElem?_cons_zero, List.getElem?_cons_succ, List.set_cons_zero, List.set_cons_succ, ix0, ix1, ix2, ix3, ix4, eq_ss, eq_ii, eq_bb, ne_ss, ne_ii, add_ii, sub_ii, mul_ii, mod_ii, fdiv_ii, ord_ii, isN_, isNonD, int_i, if_true, if_false, Bool.false_eq_true, Bool.true_eq_false, Bool.not_true, Bool.not_false, decide_eq_true_eq, Bool.and_true, Bool.true_and, Bool.and_false, Bool.false_and, Bool.or_true, Bool.or_false, Bool.true_or, Bool.false_or, ofString_inj, String.reduceEq, decide_true, decide_false, Int.reduceLT, Int.reduceLE, Int.reduceEq, Int.reduceNeg, Int.reduceSub, Int.reduceAdd, Int.reducePow, Int.reduceMul, *])
/-- where the script's list and the pool stand -/
structure PoolAt (M : DM) : Prop where
  ex : ∃ (ns : List Int) (a b c e : Int), M[0]? = some (.lst (ns.map .int)) ∧ M[1]? = some (.lst [.obj 0, .int a, .int b, .int c, .int e]) ∧ 0 ≤ a ∧ ns.length ≤ 63
/-- the pool alone may have changed -/
structure Drew (M M' : DM) : Prop where
  at_ : PoolAt M'
  ex : ∃ mo, M' = M.set 1 mo
theorem Drew.refl {M : DM} (P : PoolAt M) : Drew M M := by
  obtain ⟨ns, a, b, c, e, h0, h1, _⟩ := P.ex
  exact ⟨P, _, (List.set_getElem?_self' h1).symm⟩
where
  List.set_getElem?_self' {l : DM} {i : Nat} {x : MO} (h : l[i]? = some x) : l.set i x = l := by
    obtain ⟨h1, h2⟩ := List.getElem?_eq_some_iff.mp h
    rw [← h2]
    exact List.set_getElem_self h1
theorem Drew.trans {M M1 M2 : DM} (a : Drew M M1) (b : Drew M1 M2) : Drew M M2 := by
  obtain ⟨m1, e1⟩ := a.ex
  obtain ⟨m2, e2⟩ := b.ex
  exact ⟨b.at_, m2, by rw [e2, e1, List.set_set]⟩
theorem Drew.len {M M' : DM} (a : Drew M M') : M'.length = M.length := by
  obtain ⟨m1, e1⟩ := a.ex
  rw [e1, List.length_set]
theorem Drew.get {M M' : DM} (a : Drew M M') {i : Nat} (h : i ≠ 1) : M'[i]? = M[i]? := by
  obtain ⟨m1, e1⟩ := a.ex
  rw [e1, List.getElem?_set_ne (Ne.symm h)]
theorem PoolAt.grow {M : DM} (P : PoolAt M) (l : DM) : PoolAt (M ++ l) := by
  obtain ⟨ns, a, b, c, e, h0, h1, h2⟩ := P.ex
  have l0 := (List.getElem?_eq_some_iff.mp h0).1
  have l1 := (List.getElem?_eq_some_iff.mp h1).1
  exact ⟨ns, a, b, c, e, by rw [List.getElem?_append_left l0]; exact h0, by rw [List.getElem?_append_left l1]; exact h1, h2⟩
theorem PoolAt.set {M : DM} (P : PoolAt M) {i : Nat} (mo : MO) (h0 : i ≠ 0) (h1 : i ≠ 1) : PoolAt (M.set i mo) := by
  obtain ⟨ns, a, b, c, e, q0, q1, h2⟩ := P.ex
  exact ⟨ns, a, b, c, e, by rw [List.getElem?_set_ne h0]; exact q0, by rw [List.getElem?_set_ne h1]; exact q1, h2⟩
theorem law_mixed_sat {x t L : Int} {M : DM} {Q : D → DM → Prop} (h : 0 < L) (q : ∀ r, 0 ≤ r → r < L → Q (.int r) M) : (g_law_mixed [.int x, .int t, .int L] M).sat Q := by
  unfold g_law_mixed f_law_mixed fnD
  simp (disch := first | decide | assumption) only [sSeq, sSet, sRet, e2, eC, eVar, eCall, aCons, aNil, bind_ok, ro_ok, seq_nx, seq_rt, fin_rt, List.map_cons, List.map_nil, List.length_cons, List.length_nil, Nat.reduceAdd, Nat.reduceSub, List.replicate_succ, List.replicate_zero, List.cons_append, List.nil_append,
      List.getElem?_cons_zero, List.getElem?_cons_succ, List.set_cons_zero, List.set_cons_succ, mul_ii, add_ii, int_i, mod_ii, fdiv_ii]
  exact q _ (Int.emod_nonneg _ (by omega)) (Int.emod_lt_of_pos _ h)
theorem law_draw_sat {L : Int} {M : DM} {Q : D → DM → Prop} (P : PoolAt M) (h : 0 < L ∧ L < 1073741824) (q : ∀ r M', 0 ≤ r → r < L → Drew M M' → Q (.int r) M') : (g_law_draw [.obj 1, .int L] M).sat Q := by
  obtain ⟨ns, a, b, c, e, h0, h1, ha, hns⟩ := P.ex
  have hL := h.1
  have hL' : lim 1073741823 L = true := lim_of (by omega)
  have i2 : ixD (.obj 1) (.int 2) M = .ok (.int b) M := ixo (k := 2) h1 rfl
  have i4 : ixD (.obj 1) (.int 4) M = .ok (.int e) M := ixo (k := 4) h1 rfl
  have i1 : ixD (.obj 1) (.int 1) M = .ok (.int a) M := ixo (k := 1) h1 rfl
  have i3 : ixD (.obj 1) (.int 3) M = .ok (.int c) M := ixo (k := 3) h1 rfl
  have i0 : ixD (.obj 1) (.int 0) M = .ok (.obj 0) M := ixo (k := 0) h1 rfl
  have done_ : ∀ {M' : DM} {a' b' c' e' : Int}, M' = M.set 1 (.lst [.obj 0, .int a', .int b', .int c', .int e']) → 0 ≤ a' → Drew M M' := fun {M' a' b' c' e'} eM h => by
    have l1 := (List.getElem?_eq_some_iff.mp h1).1
    exact ⟨⟨ns, a', b', c', e', by rw [eM, List.getElem?_set_ne (by decide)]; exact h0, by rw [eM, List.getElem?_set_self l1], h, hns⟩, _, eM⟩
  have l1 := (List.getElem?_eq_some_iff.mp h1).1
  have p2 := fun d => put2 (d := d) h1
  have p4 := fun d => put4 (d := d) h1
  have p1 := fun d => put1 (d := d) h1
  unfold g_law_draw f_law_draw fnD
  by_cases hb : 0 < b
  · walk_at "dx"
    exact q _ _ (Int.emod_nonneg _ (by omega)) (Int.emod_lt_of_pos _ hL) (done_ rfl ha)
  by_cases he : 0 < e
  · walk_at "dx"
    exact law_mixed_sat hL fun r h1 h2 => q r _ h1 h2 (done_ rfl ha)
  have hl := len_o h0
  rw [List.length_map] at hl
  by_cases hn : (ns.length : Int) ≤ a
  · walk_at "dx"
    exact q _ _ (Int.le_refl _) hL (done_ (by rw [Drew.refl.List.set_getElem?_self' h1]) ha)
  obtain ⟨x, hx⟩ : ∃ x, ixD (.obj 0) (.int a) M = .ok (.int x) M := by
    have ea : (a.toNat : Int) = a := by omega
    have hlt : a.toNat < ns.length := by omega
    have q : ixD (.obj 0) (.int (a.toNat : Int)) M = .ok (.int ns[a.toNat]) M := ixo h0 (by rw [List.getElem?_map, List.getElem?_eq_getElem hlt]; rfl)
    rw [ea] at q
    exact ⟨_, q⟩
  have last : ∀ x : Int, Q (.int (x % L)) (M.set 1 (.lst [.obj 0, .int (a + 1), .int (x / L), .int c, .int e])) := fun x => q _ _ (Int.emod_nonneg _ (by omega)) (Int.emod_lt_of_pos _ hL) (done_ rfl (by omega))
  have last2 : ∀ x : Int, (g_law_mixed [.int x, .int 7, .int L] (M.set 1 (.lst [.obj 0, .int (a + 1), .int b, .int x, .int 7]))).sat Q := fun x => law_mixed_sat hL fun r h1 h2 => q r _ h1 h2 (done_ rfl (by omega))
  have hP : ∀ M' : DM, powD (.int 10) (.int 18) M' = .ok (.int 1000000000000000000) M' := fun _ => rfl
  clear i3 p2 p4 done_ q hns P
  by_cases h8 : x < 0
  · by_cases h9 : 1000000000000000000 ≤ -1 - x
    · walk_at "dx"
    · walk_at "dx"
  · by_cases h9 : 1000000000000000000 ≤ x
    · walk_at "dx"
    · walk_at "dx"
/-- a list's items -/
def lstOf (M : DM) (x : D) : Option (List D) := match x with
  | .rol ds => some ds
  | .obj i => match M[i]? with
    | some (.lst ds) => some ds
    | _ => none
  | _ => none
theorem lstOf_items {M : DM} {x : D} {ds : List D} (h : lstOf M x = some ds) : itemsD x M = some ds ∧ tyName x M = some "list" := by
  unfold lstOf at h
  cases x with
  | rol es => cases h; exact ⟨rfl, rfl⟩
  | obj i =>
    simp only at h
    simp only [itemsD, tyName]
    cases e : M[i]? with
    | none => rw [e] at h; cases h
    | some mo =>
      rw [e] at h
      cases mo with
      | lst es => cases h; exact ⟨rfl, rfl⟩
      | _ => cases h
  | _ => cases h
/-- the same data, seen through the lists -/
inductive SameP (M : DM) : Nat → D → D → Prop
  | non {n : Nat} : SameP M (n + 1) .non .non
  | bl {n : Nat} (b : Bool) : SameP M (n + 1) (.bl b) (.bl b)
  | int {n : Nat} (i : Int) : SameP M (n + 1) (.int i) (.int i)
  | str {n : Nat} (s : Str) : SameP M (n + 1) (.str s) (.str s)
  | tup {n : Nat} {xs ys : List D} (hl : xs.length = ys.length) (hz : xs.length ≤ 16777216) (h : ∀ (i : Nat) (x y : D), xs[i]? = some x → ys[i]? = some y → SameP M n x y) : SameP M (n + 1) (.tup xs) (.tup ys)
  | lst {n : Nat} {a b : D} {xs ys : List D} (ha : lstOf M a = some xs) (hb : lstOf M b = some ys) (hl : xs.length = ys.length) (hz : xs.length ≤ 16777216) (h : ∀ (i : Nat) (x y : D), xs[i]? = some x → ys[i]? = some y → SameP M n x y) : SameP M (n + 1) a b
theorem isi_eq {x : D} {T n : String} {M : DM} {b : Bool} (h : tyName x M = some n) (h' : isiTab n T = some b) : isiD [x, .ty T] M = .ok (.bl b) M := by
  simp only [isiD, h, h']
theorem len_items {x : D} {ds : List D} {M : DM} (hs : ∀ s, x ≠ .str s) (h : itemsD x M = some ds) : lenD [x] M = .ok (.int ds.length) M := by
  cases x with
  | str s => exact absurd rfl (hs s)
  | _ => simp only [lenD, h]
theorem ix_items {x : D} {ds : List D} {k : Nat} {d : D} {M : DM} (hs : ∀ s, x ≠ .str s) (h : itemsD x M = some ds) (hk : ds[k]? = some d) : ixD x (.int k) M = .ok d M := by
  cases x with
  | str s => exact absurd rfl (hs s)
  | _ =>
    simp only [ixD, ixItems, h]
    rw [atI_nat hk]
theorem isN_false {x : D} {M : DM} {n : String} (h : tyName x M = some n) (hn : n ≠ "NoneType") : isNonD x = false := by
  cases x with
  | non => cases h; exact absurd rfl hn
  | _ => rfl
theorem range_ok {n : Nat} (h : n ≤ 16777216) : rngOk n = true := by
  unfold rngOk
  exact lim_of (by omega)
theorem isi_tab1 : isiTab "tuple" "bool" = some false ∧ isiTab "tuple" "int" = some false ∧ isiTab "tuple" "str" = some false ∧ isiTab "tuple" "tuple" = some true ∧ isiTab "tuple" "list" = some false := by decide +kernel
theorem isi_tab2 : isiTab "list" "bool" = some false ∧ isiTab "list" "int" = some false ∧ isiTab "list" "str" = some false ∧ isiTab "list" "tuple" = some false ∧ isiTab "list" "list" = some true := by decide +kernel
theorem isi_tab3 : isiTab "bool" "bool" = some true ∧ isiTab "int" "bool" = some false ∧ isiTab "int" "int" = some true ∧ isiTab "str" "bool" = some false ∧ isiTab "str" "int" = some false ∧ isiTab "str" "str" = some true := by decide +kernel
theorem same_loop {M : DM} {G : List D → DM → Rs D} {x y : D} {xs ys : List D} (hx : ∀ s, x ≠ .str s) (hy : ∀ s, y ≠ .str s) (ix : itemsD x M = some xs) (iy : itemsD y M = some ys) (hl : xs.length = ys.length)
    (h : ∀ (i : Nat) (a b : D), xs[i]? = some a → ys[i]? = some b → G [a, b] M = .ok (.bl true) M) : ∀ (n i : Nat) (δ : DSt), i + n = ys.length → δ.length = 3 → δ[0]? = some (some x) → δ[1]? = some (some y) →
      ∃ δ', forR (gNm 2) (sIf (tNotF (tb (eCall G (aCons (e2 ixD (eVar 0) (eVar 2)) (aCons (e2 ixD (eVar 1) (eVar 2)) aNil))))) (sRet (eC (D.bl false))) sNil) n (i : Int) δ M = .nx δ' M := by
    intro n
    induction n with
    | zero => intro i δ _ _ _ _; exact ⟨δ, rfl⟩
    | succ n ih =>
      intro i δ hi h3 h0 h1
      have hiy : i < ys.length := by omega
      have hix : i < xs.length := by omega
      have e2' : (δ.set 2 (some (D.int i)))[2]? = some (some (D.int i)) := List.getElem?_set_self (by omega)
      have e0' : (δ.set 2 (some (D.int i)))[0]? = some (some x) := by rw [List.getElem?_set_ne (by decide)]; exact h0
      have e1' : (δ.set 2 (some (D.int i)))[1]? = some (some y) := by rw [List.getElem?_set_ne (by decide)]; exact h1
      have q1 : ixD x (.int i) M = .ok xs[i] M := ix_items hx ix (List.getElem?_eq_getElem hix)
      have q2 : ixD y (.int i) M = .ok ys[i] M := ix_items hy iy (List.getElem?_eq_getElem hiy)
      have q3 := h i xs[i] ys[i] (List.getElem?_eq_getElem hix) (List.getElem?_eq_getElem hiy)
      obtain ⟨δ', hd⟩ := ih (i + 1) (δ.set 2 (some (D.int i))) (by omega) (by rw [List.length_set]; exact h3) e0' e1'
      refine ⟨δ', ?_⟩
      rw [← hd, Int.natCast_succ]
      simp only [forR, gNm, sIf, tNotF, tb, eCall, aCons, aNil, e2, eVar, e0', e1', e2', bind_ok, ro_ok, q1, q2, q3, Bool.not_true, Bool.false_eq_true, if_false, sNil]
theorem same_tail {M : DM} {G : List D → DM → Rs D} {x y : D} {xs ys : List D} {T : String} (hx : ∀ s, x ≠ .str s) (hy : ∀ s, y ≠ .str s) (ix : itemsD x M = some xs) (iy : itemsD y M = some ys) (tx : tyName x M = some T) (ty : tyName y M = some T) (hT : T = "tuple" ∨ T = "list")
    (hl : xs.length = ys.length) (hz : xs.length ≤ 16777216) (h : ∀ (i : Nat) (a b : D), xs[i]? = some a → ys[i]? = some b → G [a, b] M = .ok (.bl true) M) : fnD 3 (f_law_same G) [x, y] M = .ok (.bl true) M := by
  have lx := len_items hx ix
  have ly := len_items hy iy
  have nn : T ≠ "NoneType" := by rcases hT with rfl | rfl <;> decide
  have n1 := isN_false tx nn
  have n2 := isN_false ty nn
  obtain ⟨t4, t5, b1, b2, b3, b4, b5, c4, c5, h45⟩ : ∃ t4 t5 : Bool, isiD [y, .ty "bool"] M = .ok (.bl false) M ∧ isiD [y, .ty "int"] M = .ok (.bl false) M ∧ isiD [y, .ty "str"] M = .ok (.bl false) M ∧ isiD [y, .ty "tuple"] M = .ok (.bl t4) M ∧ isiD [y, .ty "list"] M = .ok (.bl t5) M ∧
      isiD [x, .ty "tuple"] M = .ok (.bl t4) M ∧ isiD [x, .ty "list"] M = .ok (.bl t5) M ∧ ((t4 = true ∧ t5 = false) ∨ (t4 = false ∧ t5 = true)) := by
    rcases hT with rfl | rfl
    · obtain ⟨q1, q2, q3, q4, q5⟩ := isi_tab1
      exact ⟨true, false, isi_eq ty q1, isi_eq ty q2, isi_eq ty q3, isi_eq ty q4, isi_eq ty q5, isi_eq tx q4, isi_eq tx q5, .inl ⟨rfl, rfl⟩⟩
    · obtain ⟨q1, q2, q3, q4, q5⟩ := isi_tab2
      exact ⟨false, true, isi_eq ty q1, isi_eq ty q2, isi_eq ty q3, isi_eq ty q4, isi_eq ty q5, isi_eq tx q4, isi_eq tx q5, .inr ⟨rfl, rfl⟩⟩
  have loop := same_loop hx hy ix iy hl h
  obtain ⟨δ', hd⟩ := loop ys.length 0 [some x, some y, none] (by omega) rfl rfl rfl
  have hz' := range_ok (hl ▸ hz)
  have e0 : ((ys.length : Int)).toNat = ys.length := by omega
  clear h loop hx hy tx ty nn hz
  show (f_law_same G [some x, some y, none] M).fin = _
  have v0 : ∀ M' : DM, eVar 0 [some x, some y, none] M' = .ok x M' := fun _ => rfl
  have v1 : ∀ M' : DM, eVar 1 [some x, some y, none] M' = .ok y M' := fun _ => rfl
  have cT : ∀ (T : String) (M' : DM), eC (.ty T) [some x, some y, none] M' = .ok (.ty T) M' := fun _ _ => rfl
  have hd' : forR (gNm 2) (sIf (tNotF (tb (eCall G (aCons (e2 ixD (eVar 0) (eVar 2)) (aCons (e2 ixD (eVar 1) (eVar 2)) aNil))))) (sRet (eC (D.bl false))) sNil) ys.length 0 [some x, some y, none] M = Ro.nx δ' M := hd
  have s8 : sForR (eCall lenD (aCons (eVar 1) aNil)) (gNm 2) (sIf (tNotF (tb (eCall G (aCons (e2 ixD (eVar 0) (eVar 2)) (aCons (e2 ixD (eVar 1) (eVar 2)) aNil))))) (sRet (eC (D.bl false))) sNil) [some x, some y, none] M = .nx δ' M := by
    exact sforR_eq ((call1_eq (v1 M)).trans ly) hz' hd'
  have k4 : tAndF (tb (eCall isiD (aCons (eVar 1) (aCons (eC (D.ty "tuple")) aNil)))) (tNotF (tb (eCall isiD (aCons (eVar 0) (aCons (eC (D.ty "tuple")) aNil))))) [some x, some y, none] M = .ok false M := by
    cases t4 with
    | false => exact tand_no (tb_ok ((call2_eq (v1 M) (cT _ M)).trans b4))
    | true => rw [tand_yes (tb_ok ((call2_eq (v1 M) (cT _ M)).trans b4))]; exact tnot_ok (tb_ok ((call2_eq (v0 M) (cT _ M)).trans c4))
  have k5 : tAndF (tb (eCall isiD (aCons (eVar 1) (aCons (eC (D.ty "list")) aNil)))) (tNotF (tb (eCall isiD (aCons (eVar 0) (aCons (eC (D.ty "list")) aNil))))) [some x, some y, none] M = .ok false M := by
    cases t5 with
    | false => exact tand_no (tb_ok ((call2_eq (v1 M) (cT _ M)).trans b5))
    | true => rw [tand_yes (tb_ok ((call2_eq (v1 M) (cT _ M)).trans b5))]; exact tnot_ok (tb_ok ((call2_eq (v0 M) (cT _ M)).trans c5))
  have k6 : tb (e2 neD (eCall lenD (aCons (eVar 0) aNil)) (eCall lenD (aCons (eVar 1) aNil))) [some x, some y, none] M = .ok false M := by
    refine tb_ok ((e2_eq ((call1_eq (v0 M)).trans lx) ((call1_eq (v1 M)).trans ly)).trans ?_)
    rw [ne_ii, hl, decide_eq_true rfl]
    rfl
  have k0 : tb (e2 isN (eVar 1) (eC D.non)) [some x, some y, none] M = .ok false M := tb_ok ((e2_eq (v1 M) (y := .non) (M2 := M) rfl).trans (by rw [isN_, n2]))
  unfold f_law_same
  rw [sseq_nx (sif_none k0), sseq_nx (sif_none (tb_ok ((call2_eq (v1 M) (cT _ M)).trans b1))), sseq_nx (sif_none (tb_ok ((call2_eq (v1 M) (cT _ M)).trans b2))), sseq_nx (sif_none (tb_ok ((call2_eq (v1 M) (cT _ M)).trans b3))),
    sseq_nx (sif_none k4), sseq_nx (sif_none k5), sseq_nx (sif_none k6), sseq_nx s8]
  rfl
theorem law_same_true {M : DM} : ∀ (n : Nat) (x y : D), SameP M n x y → g_law_same n [x, y] M = .ok (.bl true) M
  | 0, x, y, h => by cases h
  | n + 1, x, y, h => by
    show fnD 3 (f_law_same (g_law_same n)) [x, y] M = _
    cases h with
    | non => rfl
    | bl b =>
      have b1 : isiD [.bl b, .ty "bool"] M = .ok (.bl true) M := isi_eq rfl isi_tab3.1
      unfold fnD f_law_same
      simp only [sSeq, sIf, sRet, sNil, tb, e2, eVar, eC, eCall, eAnd, aCons, aNil, isN_, isNonD, b1, bind_ok, ro_ok, seq_nx, seq_rt, fin_rt, eq_bb, List.map_cons, List.map_nil, List.length_cons, List.length_nil, Nat.reduceAdd, Nat.reduceSub, List.replicate_succ, List.replicate_zero, List.nil_append, List.cons_append, List.getElem?_cons_zero, List.getElem?_cons_succ, Bool.false_eq_true, if_false, if_true, decide_true]
    | int i =>
      have b1 : isiD [.int i, .ty "bool"] M = .ok (.bl false) M := isi_eq rfl isi_tab3.2.1
      have b2 : isiD [.int i, .ty "int"] M = .ok (.bl true) M := isi_eq rfl isi_tab3.2.2.1
      unfold fnD f_law_same
      simp only [sSeq, sIf, sRet, sNil, tb, e2, eVar, eC, eCall, eAnd, eNot, aCons, aNil, isN_, isNonD, b1, b2, bind_ok, ro_ok, seq_nx, seq_rt, fin_rt, eq_ii, List.map_cons, List.map_nil, List.length_cons, List.length_nil, Nat.reduceAdd, Nat.reduceSub, List.replicate_succ, List.replicate_zero, List.nil_append, List.cons_append, List.getElem?_cons_zero, List.getElem?_cons_succ, Bool.false_eq_true, if_false, if_true, decide_true, Bool.not_false]
    | str s =>
      have b1 : isiD [.str s, .ty "bool"] M = .ok (.bl false) M := isi_eq rfl isi_tab3.2.2.2.1
      have b2 : isiD [.str s, .ty "int"] M = .ok (.bl false) M := isi_eq rfl isi_tab3.2.2.2.2.1
      have b3 : isiD [.str s, .ty "str"] M = .ok (.bl true) M := isi_eq rfl isi_tab3.2.2.2.2.2
      unfold fnD f_law_same
      simp only [sSeq, sIf, sRet, sNil, tb, e2, eVar, eC, eCall, eAnd, eNot, aCons, aNil, isN_, isNonD, b1, b2, b3, bind_ok, ro_ok, seq_nx, seq_rt, fin_rt, eq_ss, List.map_cons, List.map_nil, List.length_cons, List.length_nil, Nat.reduceAdd, Nat.reduceSub, List.replicate_succ, List.replicate_zero, List.nil_append, List.cons_append, List.getElem?_cons_zero, List.getElem?_cons_succ, Bool.false_eq_true, if_false, if_true, decide_true]
    | @tup _ xs ys hl hz h =>
      exact same_tail (fun s z => by cases z) (fun s z => by cases z) rfl rfl rfl rfl (.inl rfl) hl hz fun i a b ha hb => law_same_true n a b (h i a b ha hb)
    | lst ha hb hl hz h =>
      obtain ⟨i1, t1⟩ := lstOf_items ha
      obtain ⟨i2, t2⟩ := lstOf_items hb
      refine same_tail (fun s z => ?_) (fun s z => ?_) i1 i2 t1 t2 (.inr rfl) hl hz fun i a b ha hb => law_same_true n a b (h i a b ha hb)
      · subst z; cases ha
      · subst z; cases hb
/-- data is the same as itself -/
def plainN : Nat → D → Bool
  | _ + 1, .non => true
  | _ + 1, .bl _ => true
  | _ + 1, .int _ => true
  | _ + 1, .str _ => true
  | n + 1, .tup ds => decide (ds.length ≤ 1000) && ds.all (plainN n)
  | _, _ => false
theorem SameP.refl {M : DM} : ∀ (n : Nat) (d : D), plainN n d = true → SameP M n d d
  | 0, d, h => by cases d <;> cases h
  | n + 1, .non, h => .non
  | n + 1, .bl b, h => .bl b
  | n + 1, .int b, h => .int b
  | n + 1, .str b, h => .str b
  | n + 1, .tup ds, h => by
    simp only [plainN, Bool.and_eq_true, decide_eq_true_eq] at h
    refine .tup rfl (by omega) fun i x y hx hy => ?_
    rw [hx] at hy
    cases hy
    exact SameP.refl n x (List.all_eq_true.mp h.2 x (List.mem_of_getElem? hx))
  | n + 1, .rol _, h => by cases h
  | n + 1, .obj _, h => by cases h
  | n + 1, .cl _, h => by cases h
  | n + 1, .ty _, h => by cases h
theorem law_pool_eq {ns : List Int} : g_law_pool [.rol (ns.map .int)] [] = .ok (.obj 1) [.lst (ns.map .int), .lst [.obj 0, .int 0, .int 0, .int 0, .int 0]] := by
  unfold g_law_pool fnD f_law_pool
  simp only [sRet, eLst, eCall, aCons, aNil, eVar, eC, bind_ok, ro_ok, fin_rt, listD, itemsD, List.map_cons, List.map_nil, List.length_cons, List.length_nil, Nat.reduceAdd, Nat.reduceSub, List.replicate_succ, List.replicate_zero, List.nil_append, List.cons_append, List.getElem?_cons_zero]
theorem law_pool_at {ns : List Int} (h : ns.length ≤ 63) : PoolAt [.lst (ns.map .int), .lst [.obj 0, .int 0, .int 0, .int 0, .int 0]] := ⟨ns, 0, 0, 0, 0, rfl, rfl, by omega, h⟩
end DL

set_option Elab.async false
set_option linter.all false
set_option maxRecDepth 100000
set_option maxHeartbeats 2000000
namespace DL
open PySem PySem.Spec L2
open PyProof.Rows hiding St
section
variable {c : Ctx} {X : Cx} {W : WX} {k : Nat} {N : List Str} {sc : Scope} {a b e o : Expr} {es : List Expr} {fa fb : FE} {pos apos : Pos}
def clsB : Stmt → List Stmt
  | .ClassDef (body := b) .. => b
  | _ => []
def clsTab (l : List (Nat × Addr)) : Nat → Addr := fun i => (l.lookup i).getD 0
/-- a class's __init__ -/
structure MkAt (c : Ctx) (C : Nat) (x qual : Str) (st : Stmt) (ps : List Str) (dfl : List D) : Prop where
  ex : ∃ f fd ds dvs, Mk c.K (c.cl C) f ∧ c.mg x = some (.ref (c.cl C)) ∧ (∃ dfv, FunD c.K "__init__" qual (defArgs st) (defBody st) (defScope st) dfv [] f fd) ∧ Binds c.K fd ps ds ∧ Vals dvs ds ∧ ∀ ρ H, RDs c ρ H dfl dvs
theorem fnok_ofD {x qual : Str} {st : Stmt} {f : Addr} {fd : FuncData} {N ps : List Str} {fb : FS} {dfv : List V} (F : FunD c.K x qual (defArgs st) (defBody st) (defScope st) dfv [] f fd) (S : FnScope N ps (defScope st))
    (body : ∀ (X : Cx) (W : WX), InS c X W k N (defScope st) → Cold X → VSs c X W (defBody st) fb) : FnOk c.P c.w c.K c.mg c.base (L2.CX c.P c.w) (k + 1) f fd ps (spOf c ps.length (fnD N.length fb)) := by
  refine F.ok S (fun vs H Q E ⟨ρ, M, ds, P, r, hl, h⟩ => by rw [← RDs.len _ _ r, hl]) (fun cdv A outer s H vs Q E hr hsp => ?_)
  obtain ⟨ρ, M, ds, P, r, hl, h⟩ := hsp
  obtain ⟨t, p, sm⟩ := body (cxOf (L2.CX c.P c.w) c.P c.w c.K c.mg c.base N qual (defScope st) f cdv A outer s H E) (fun cls d _ H => E cls d H)
    ⟨⟨rfl, rfl, rfl, rfl, rfl, rfl, S.nd, rfl, ⟨hr.dp, hr.un⟩, takes_of rfl rfl rfl rfl, passes_of rfl⟩, fun _ => rfl, rfl, rfl, rfl⟩ ⟨rfl, hr.hd⟩
  refine ⟨t, p, ?_⟩
  refine sm ρ M H _ _ _ P (RS.start r) ?_
  unfold fnD at h
  cases e : fb (ds.map some ++ List.replicate (N.length - ds.length) none) M with
  | nx δ1 M1 =>
    rw [e] at h
    exact fun ρ' H' σ' e' P' s' => h ρ' H' .non e' P' (by simp only [RD])
  | rt d M1 =>
    rw [e] at h
    exact fun ρ' H' v e' P' r' => h ρ' H' v e' P' r'
  | bk δ1 M1 => rw [e] at h; exact h.elim
  | ct δ1 M1 => rw [e] at h; exact h.elim
  | ex x δ1 M1 =>
    rw [e] at h
    exact fun ρ' H' σ' cls od e' P' s' rx => h ρ' H' cls od e' P' rx
  | bad => rw [e] at h; exact h.elim
theorem mkcallee_def {N ps : List Str} {x qual : Str} {st : Stmt} {fb : FS} {C : Nat} {dfl : List D} (F : MkAt c C x qual st ps dfl) (S : FnScope N ps (defScope st)) (body : ∀ (X : Cx) (W : WX), InS c X W k N (defScope st) → Cold X → VSs c X W (defBody st) fb) : MkCallee c C x (k + 1) ps.length (fnD N.length fb) dfl := by
  obtain ⟨f, fd, ds, dvs, h1, h2, ⟨dfv, h3⟩, h4, h5, h6⟩ := F.ex
  exact ⟨f, fd, ps, ds, dvs, fnok_ofD h3 S body, h1, h2, h4, h5, h6⟩
theorem funD_mk {x qual : Str} {st : Stmt} {f : Addr} {oc : Value} {od an : Option Addr} {osl : Array (Option Value)} {kV doc pm cdv ct : Value} (l : c.K.lookup f = some ⟨oc, od, .func (PySem.W.fnOf x qual (defArgs st) (defBody st) (defScope st) .none kV doc pm an cdv ct), osl⟩)
    (hc : PySem.W.codeIn c.K cdv qual = true) (k : PySem.W.keepIn c.K (.ref f) = true) : ∃ dfv, FunD c.K x qual (defArgs st) (defBody st) (defScope st) dfv [] f (PySem.W.fnOf x qual (defArgs st) (defBody st) (defScope st) .none kV doc pm an cdv ct) :=
  ⟨[], ⟨oc, od, .none, kV, doc, pm, an, cdv, ct, osl, rfl, l, hc, .inl ⟨rfl, rfl⟩, .inl rfl⟩, k⟩
/-- both defaults are () -/
theorem mkat_dfl2 {C : Nat} {x qual : Str} {st : Stmt} {p1 p2 p3 : Str} {f T T0 T1 : Addr} {oc kV doc pm cdv ct : Value} {od an : Option Addr} {osl : Array (Option Value)} {dcl : Value} {dod : Option Addr} {dn : Nat} {dsl : Array (Option Value)}
    (h1 : Mk c.K (c.cl C) f) (h2 : c.mg x = some (.ref (c.cl C)))
    (lk : c.K.lookup f = some ⟨oc, od, .func (PySem.W.fnOf "__init__" qual (defArgs st) (defBody st) (defScope st) (.ref T) kV doc pm an cdv ct), osl⟩) (hc : PySem.W.codeIn c.K cdv qual = true) (kp : PySem.W.keepIn c.K (.ref f) = true)
    (lT : c.K.lookup T = some ⟨dcl, dod,   .seq #[.ref T0, .ref T1] dn, dsl⟩) (e0 : c.cl 1000 = T0) (e1 : c.cl 1001 = T1)
    (h : ∀ (T : Addr) (kV doc pm : Value) (an : Option Addr) (cdv ct : Value) (us its : List Value), us.length = 1 → its.length = 2 →
      ∃ k, bindArgs (PySem.W.fnOf "__init__" qual (defArgs st) (defBody st) (defScope st) (.ref T) kV doc pm an cdv ct) ⟨us, []⟩ = seqItems? (.ref T) >>= k ∧ k (some its.toArray) = pure ([p1, p2, p3].zip (us ++ its.drop 0))) : MkAt c C x qual st [p1, p2, p3] [.cl 1000, .cl 1001] := by
  have F : FunD c.K "__init__" qual (defArgs st) (defBody st) (defScope st) [.ref T0, .ref T1] [] f (PySem.W.fnOf "__init__" qual (defArgs st) (defBody st) (defScope st) (.ref T) kV doc pm an cdv ct) :=
    ⟨⟨oc, od, .ref T, kV, doc, pm, an, cdv, ct, osl, rfl, lk, hc, .inr ⟨by simp, T, _, [.ref T0, .ref T1], dn, rfl, lT, rfl, .cons rfl (.cons rfl .nil)⟩, .inl rfl⟩, kp⟩
  obtain ⟨ds, r, hb⟩ := F.binds1 (ps := [p1, p2, p3]) 1 0 (by simp) rfl h
  refine ⟨f, _, ds, _, h1, h2, ⟨_, F⟩, hb, r, fun ρ H => ?_⟩
  simp only [List.drop_zero, RDs]
  exact ⟨_, _, rfl, by simp only [RD]; rw [e0], _, _, rfl, by simp only [RD]; rw [e1], rfl⟩
theorem ve_dict {f : FA} {p : Pos} (I : In c X W k N sc) (hC : Cold X) (n : Gn sc "dict") (hm : c.mg "dict" = none) (T : Tup0 c) (ha : VA c X W [e] f) (he : starEach [e] X.env = [(false, eval e X.env)] := by rfl) : VE c X W (.Call (.Name "dict" p) [e] [] pos) (eCall dictD f) :=
  ve_callTy I (call_dict I hC T) o_dict n hm PyProof.Rows.boot_dict ha (he := he)
def lenKD (xs : List D) (M : DM) : Rs D := match xs with
  | [.obj n] => match M[n]? with
    | some (.dic kvs) => .ok (.int kvs.length) M
    | _ => lenD [.obj n] M
  | xs => lenD xs M
theorem o_len : OpL c W (fun xs H Q => ∃ x n, xs = [x] ∧ LenV c.K x H n ∧ Q (.int n) H) lenD := by
  intro ρ M H σ xs vs Q P r h
  unfold lenD at h
  split at h
  · rename_i s
    obtain ⟨v, rfl, r1⟩ := rds1 r
    simp only [RD] at r1
    split at h
    · rename_i hz
      subst r1
      exact ⟨_, _, rfl, ⟨hz, rfl⟩, h ρ H _ .refl P (by simp only [RD])⟩
    · exact h.elim
  · rename_i x hx
    obtain ⟨v, rfl, r1⟩ := rds1 r
    split at h
    · rename_i ds e
      obtain ⟨xs, ⟨a, rfl, hs⟩, rs⟩ := RDs.sq P r1 e
      refine ⟨_, _, rfl, ?_, h ρ H _ .refl P (by simp only [RD]; rw [RDs.len _ _ rs])⟩
      rcases hs with hs | hs
      · exact .inl ⟨xs, hs, rfl⟩
      · exact .inr ⟨xs, hs, rfl⟩
    · exact h.elim
  · exact h.elim
theorem ve_lenK {f : FA} {p : Pos} (I : In c X W k N sc) (n : Gn sc "len") (hm : c.mg "len" = none) (ha : VA c X W [e] f) (he : starEach [e] X.env = [(false, eval e X.env)] := by rfl) : VE c X W (.Call (.Name "len" p) [e] [] pos) (eCall lenKD f) := by
  refine ve_callB I (CallR.or (by have h := call_len (X := X); rw [I.hK] at h; exact h) call_lenD) ?_ n hm PySem.boot_len ha (he := he)
  intro ρ M H σ xs vs Q P r h
  unfold lenKD at h
  split at h
  · rename_i n
    split at h
    · rename_i kvs eM
      obtain ⟨v, rfl, rv⟩ := rds1 r
      simp only [RD] at rv
      obtain ⟨a, rfl, ha⟩ := rv
      obtain ⟨ws, q1, q2⟩ := P.at_ _ _ _ eM ha
      exact .inr ⟨a, ws, rfl, q1, h ρ H _ .refl P (by simp only [RD]; rw [RK.len _ _ q2])⟩
    · exact .inl (o_len ρ M H σ _ vs Q P r h)
  · exact .inl (o_len ρ M H σ _ vs Q P r h)
end
end DL

set_option Elab.async false
set_option linter.all false
set_option maxRecDepth 100000
set_option maxHeartbeats 4000000
namespace DL
open PySem PySem.Spec L2
open PyProof.Rows hiding St
def f_Book_init : FS :=
 (sSeq (sFldD "_kinds" [0] (eCall dictD (aCons (eVar 1) aNil)) (eVar 0))
 (sFldD "_sizes" [0] (eCall dictD (aCons (eVar 2) aNil)) (eVar 0)))
def g_Book_init : List D → DM → Rs D := fnD 3 f_Book_init
def f_is_name : FS :=
 (sSeq (sIf (tOrF (tb (e2 eqD (eVar 0) (eC (D.str "")))) (tOrF (tb (e2 gtD (eCall lenD (aCons (eVar 0) aNil)) (eC (D.int 12)))) (tb (e2 ninD (e2 ixD (eVar 0) (eC (D.int 0))) (eC (D.str "abcdefghijklmnopqrstuvwxyz"))))))
  (sRet (eC (D.bl false)))
  sNil)
 (sSeq (sForI (iV (eVar 0)) (gNm 1)
  (sIf (tAndF (tb (e2 ninD (eVar 1) (eC (D.str "abcdefghijklmnopqrstuvwxyz")))) (tb (e2 ninD (eVar 1) (eC (D.str "0123456789")))))
  (sRet (eC (D.bl false)))
  sNil))
 (sRet (eC (D.bl true)))))
def g_is_name : List D → DM → Rs D := fnD 2 f_is_name
def f_check_name : FS :=
 (sSeq (sIf (tNotF (tb (eCall g_is_name (aCons (eVar 0) aNil))))
  sBad
  sNil)
 (sRet (eVar 0)))
def g_check_name : List D → DM → Rs D := fnD 1 f_check_name
def f_check_number : FS :=
 (sSeq (sIf (tNotF (tb (eCh leD leD (eC (D.int 0)) (eVar 0) (eC (D.int 999)))))
  sBad
  sNil)
 (sRet (eVar 0)))
def g_check_number : List D → DM → Rs D := fnD 1 f_check_number
def f_check_kind : FS :=
 (sSeq (sIf (tb (e2 eqD (eVar 0) (eTup (aCons (eC (D.str "plain")) aNil))))
  (sRet (eVar 0))
  sNil)
 (sSeq (sIf (tOrF (tb (e2 neD (eCall lenD (aCons (eVar 0) aNil)) (eC (D.int 2)))) (tAndF (tb (e2 ninD (e2 ixD (eVar 0) (eC (D.int 0))) (eC (D.tup [(D.str "answer"), (D.str "heal")])))) (tb (e2 ninD (e2 ixD (eVar 0) (eC (D.int 0))) (eC (D.tup [(D.str "jump"), (D.str "swap")]))))))
  sBad
  sNil)
 (sSeq (sIf (tb (e2 inD (e2 ixD (eVar 0) (eC (D.int 0))) (eC (D.tup [(D.str "answer"), (D.str "heal")]))))
  (sExpr (eCall g_check_number (aCons (e2 ixD (eVar 0) (eC (D.int 1))) aNil)))
  (sExpr (eCall g_check_name (aCons (e2 ixD (eVar 0) (eC (D.int 1))) aNil))))
 (sRet (eVar 0)))))
def g_check_kind : List D → DM → Rs D := fnD 1 f_check_kind
def f_Book_setitem : FS :=
 (sSeq (sExpr (eCall g_check_name (aCons (eVar 1) aNil)))
 (sSeq (sExpr (eCall g_check_kind (aCons (eVar 2) aNil)))
 (sSeq (sIf (tAndF (tb (e2 ninD (eVar 1) (e1 (fldD "_kinds" [0]) (eVar 0)))) (tb (e2 eqD (eCall lenKD (aCons (e1 (fldD "_kinds" [0]) (eVar 0)) aNil)) (eCv (D.int 12) (eC (D.cl 0)) 0))))
  sBad
  sNil)
 (sPut (eVar 2) (e1 (fldD "_kinds" [0]) (eVar 0)) (eVar 1)))))
def g_Book_setitem : List D → DM → Rs D := fnD 3 f_Book_setitem
def f_Book_add_cell : FS :=
 (sSeq (sExpr (eCall g_check_name (aCons (eVar 1) aNil)))
 (sSeq (sIf (tb (e2 ninSeqD (eVar 2) (eTup (aCons (eC (D.int 2)) (aCons (eC (D.int 3)) aNil)))))
  sBad
  sNil)
 (sSeq (sIf (tb (e2 inD (eVar 1) (e1 (fldD "_sizes" [0]) (eVar 0))))
  sBad
  sNil)
 (sSeq (sIf (tb (e2 eqD (eCall lenKD (aCons (e1 (fldD "_sizes" [0]) (eVar 0)) aNil)) (eCv (D.int 2) (eC (D.cl 0)) 0)))
  sBad
  sNil)
 (sPut (eVar 2) (e1 (fldD "_sizes" [0]) (eVar 0)) (eVar 1))))))
def g_Book_add_cell : List D → DM → Rs D := fnD 3 f_Book_add_cell
def f_Book_getitem : FS :=
 (sSeq (sIf (tb (e2 ninD (eVar 1) (e1 (fldD "_kinds" [0]) (eVar 0))))
  sBad
  sNil)
 (sRet (e2 gixD (e1 (fldD "_kinds" [0]) (eVar 0)) (eVar 1))))
def g_Book_getitem : List D → DM → Rs D := fnD 2 f_Book_getitem
def f_law_letters : FS :=
 (sRet (eC (D.str "abcdefghijklmnopqrstuvwxyz")))
def g_law_letters : List D → DM → Rs D := fnD 0 f_law_letters
def f_law_name : FS :=
 (sSeq (sSet 1 (e2 addD (eCall g_law_letters aNil) (eC (D.str "0123456789"))))
 (sSeq (sSet 2 (e2 ixD (eVar 1) (eCall g_law_draw (aCons (eVar 0) (aCons (eC (D.int 26)) aNil)))))
 (sSeq (sSet 3 (eCall g_law_draw (aCons (eVar 0) (aCons (eC (D.int 3)) aNil))))
 (sSeq (sIf (tb (e2 eqD (eCall g_law_draw (aCons (eVar 0) (aCons (eC (D.int 4)) aNil))) (eC (D.int 1))))
  (sSet 3 (eCall g_law_draw (aCons (eVar 0) (aCons (eC (D.int 12)) aNil))))
  sNil)
 (sSeq (sForR (eVar 3) (gNm 4)
  (sSet 2 (e2 addD (eVar 2) (e2 ixD (eVar 1) (eCall g_law_draw (aCons (eVar 0) (aCons (eC (D.int 36)) aNil)))))))
 (sRet (eVar 2)))))))
def g_law_name : List D → DM → Rs D := fnD 5 f_law_name
def f_law_fresh : FS :=
 (sSeq (sSet 2 (eCall g_law_name (aCons (eVar 0) aNil)))
 (sSeq (sIf (tb (e2 ninD (eVar 2) (eVar 1)))
  (sRet (eVar 2))
  sNil)
 (sSeq (sForI (iV (e2 addD (eCall g_law_letters aNil) (eC (D.str "0123456789")))) (gNm 3)
  (sIf (tb (e2 ninD (e2 addD (eSl (eVar 2) oN (oS (eC (D.int 11)))) (eVar 3)) (eVar 1)))
  (sRet (e2 addD (eSl (eVar 2) oN (oS (eC (D.int 11)))) (eVar 3)))
  sNil))
 (sRet (eVar 2)))))
def g_law_fresh : List D → DM → Rs D := fnD 4 f_law_fresh
def f_law_number : FS :=
 (sSeq (sIf (tb (e2 eqD (eCall g_law_draw (aCons (eVar 0) (aCons (eC (D.int 3)) aNil))) (eC (D.int 2))))
  (sRet (eCall g_law_draw (aCons (eVar 0) (aCons (eC (D.int 1000)) aNil))))
  sNil)
 (sRet (eCall g_law_draw (aCons (eVar 0) (aCons (eC (D.int 4)) aNil)))))
def g_law_number : List D → DM → Rs D := fnD 1 f_law_number
def f_law_kind : FS :=
 (sSeq (sSet 1 (eCall g_law_draw (aCons (eVar 0) (aCons (eC (D.int 6)) aNil))))
 (sSeq (sIf (tb (e2 eqD (eVar 1) (eC (D.int 1))))
  (sRet (eTup (aCons (eC (D.str "answer")) (aCons (eCall g_law_number (aCons (eVar 0) aNil)) aNil))))
  sNil)
 (sSeq (sIf (tb (e2 eqD (eVar 1) (eC (D.int 2))))
  (sRet (eTup (aCons (eC (D.str "jump")) (aCons (eCall g_law_name (aCons (eVar 0) aNil)) aNil))))
  sNil)
 (sSeq (sIf (tOrF (tb (e2 eqD (eVar 1) (eC (D.int 3)))) (tb (e2 eqD (eVar 1) (eC (D.int 5)))))
  (sRet (eTup (aCons (eC (D.str "heal")) (aCons (eCall g_law_number (aCons (eVar 0) aNil)) aNil))))
  sNil)
 (sSeq (sIf (tb (e2 eqD (eVar 1) (eC (D.int 4))))
  (sRet (eTup (aCons (eC (D.str "swap")) (aCons (eCall g_law_name (aCons (eVar 0) aNil)) aNil))))
  sNil)
 (sRet (eTup (aCons (eC (D.str "plain")) aNil))))))))
def g_law_kind : List D → DM → Rs D := fnD 2 f_law_kind
def f_law_lore : FS :=
 (sSeq (sSet 3 (eLst aNil))
 (sSeq (sSet 4 eDic0)
 (sSeq (sForR (e2 addD (eC (D.int 1)) (eCall g_law_draw (aCons (eVar 0) (aCons (eVar 1) aNil)))) (gNm 5)
  (sSeq (sSet 6 (eCall g_law_fresh (aCons (eVar 0) (aCons (eVar 3) aNil))))
 (sSeq (sExpr (eMt "list" appendD (eVar 3) (aCons (eVar 6) aNil)))
 (sPut (eCall g_law_kind (aCons (eVar 0) aNil)) (eVar 4) (eVar 6)))))
 (sSeq (sSet 7 (eLst aNil))
 (sSeq (sForR (eCall g_law_draw (aCons (eVar 0) (aCons (e2 addD (eVar 2) (eC (D.int 1))) aNil))) (gNm 5)
  (sSeq (sSet 6 (eCall g_law_fresh (aCons (eVar 0) (aCons (eLc [8] (iV (eVar 7)) (cNm 8) tYesD (e2 ixD (eVar 8) (eC (D.int 0)))) aNil))))
 (sExpr (eMt "list" appendD (eVar 7) (aCons (eTup (aCons (eVar 6) (aCons (e2 addD (eC (D.int 2)) (eCall g_law_draw (aCons (eVar 0) (aCons (eC (D.int 2)) aNil)))) aNil))) aNil)))))
 (sSeq (sIf (tAndF (tb (e2 eqD (eCall lenD (aCons (eVar 7) aNil)) (eC (D.int 2)))) (tb (e2 ltSD (e2 ixD (e2 ixD (eVar 7) (eC (D.int 1))) (eC (D.int 0))) (e2 ixD (e2 ixD (eVar 7) (eC (D.int 0))) (eC (D.int 0))))))
  (sSet 7 (eLst (aCons (e2 ixD (eVar 7) (eC (D.int 1))) (aCons (e2 ixD (eVar 7) (eC (D.int 0))) aNil))))
  sNil)
 (sRet (eLst (aCons (eVar 3) (aCons (eVar 4) (aCons (eVar 7) aNil)))))))))))
def g_law_lore : List D → DM → Rs D := fnD 9 f_law_lore
def f_law_book : FS :=
 (sSeq (sSet 1 (eMake 0 g_Book_init [(D.cl 1000), (D.cl 1001)] aNil))
 (sSeq (sFor (fun _ _ => 0) (e2 ixD (eVar 0) (eC (D.int 0))) (gNm 2)
  (sOset 0 g_Book_setitem (e2 gixD (e2 ixD (eVar 0) (eC (D.int 1))) (eVar 2)) (eVar 1) (eVar 2)))
 (sSeq (sFor (fun _ _ => 0) (e2 ixD (eVar 0) (eC (D.int 2))) (gNm 3)
  (sExpr (eMeth "add_cell" [(0, g_Book_add_cell)] (eVar 1) (aCons (e2 ixD (eVar 3) (eC (D.int 0))) (aCons (e2 ixD (eVar 3) (eC (D.int 1))) aNil)))))
 (sRet (eVar 1)))))
def g_law_book : List D → DM → Rs D := fnD 4 f_law_book
local macro_rules | `(tactic| walk_at "dx") => `(tactic| try simp (disch := first | decide | assumption | omega) only [eCh, sAug, oN, oS, eSl, eDic0, eCv, sSeq, sIf, sRet, sRetN, sNil, sSet, sExpr, sAsg, gTupN, gNms, gNm, tb, tNotF, tAndF, tOrF, eNot, eAnd, eOr, eIf, eTup, eLst, aCons, aNil, eCall, e1, e2, eVar, eC, negD, bind_ok, ro_ok, seq_nx, seq_rt, seq_ct, seq_bk, fin_rt, fin_nx, sat_ok, sat_bind, sat_fin, sat_seq, sat_ro, rsat_nx, rsat_rt, rsat_ct, rsat_bk, seqQ_nx, seqQ_rt, seqQ_ct, seqQ_bk, finQ_nx, finQ_rt, loopQ_nx, loopQ_ct, loopQ_bk, loopQ_rt, sSub, ixo0, ixo1, ixo2, ixo3, ixo4, puts1, puts2, puts3, puts4, List.map_cons, List.map_nil, List.length_cons, List.length_nil, Nat.reduceAdd, Nat.reduceSub, List.replicate_succ, List.replicate_zero, List.nil_append, List.cons_append, List.getElem?_cons_zero, List.getElem?_cons_succ, List.set_cons_zero, List.set_cons_succ, ix0, ix1, ix2, ix3, ix4, eq_ss, eq_ii, eq_bb, ne_ss, ne_ii, add_ii, sub_ii, mul_ii, mod_ii, fdiv_ii, ord_ii, isN_, isNonD, int_i, if_true, if_false, Bool.false_eq_true, Bool.true_eq_false, Bool.not_true, Bool.not_false, decide_eq_true_eq, Bool.and_true, Bool.true_and, Bool.and_false, Bool.false_and, Bool.or_true, Bool.or_false, Bool.true_or, Bool.false_or, ofString_inj, String.reduceEq, decide_true, decide_false, Int.reduceLT, Int.reduceLE, Int.reduceEq, Int.reduceNeg, Int.reduceSub, Int.reduceAdd, Int.reducePow, Int.reduceMul, *])

/-! ### texts -/
def LL : List Nat := ("abcdefghijklmnopqrstuvwxyz" : Str).cps.toList
def DG : List Nat := ("0123456789" : Str).cps.toList
def SG : List Nat := LL ++ DG
theorem cps_app {a b : Str} : (a ++ b).cps.toList = a.cps.toList ++ b.cps.toList := by
  show ((a.cps ++ b.cps : Array Nat)).toList = _
  simp
theorem len_app {a b : Str} : (a ++ b).length = a.length + b.length := by
  show (a.cps ++ b.cps).size = a.cps.size + b.cps.size
  simp
theorem str_len {a : Str} : a.length = a.cps.toList.length := by
  show a.cps.size = _
  simp
theorem str_ext {a b : Str} (h : a.cps.toList = b.cps.toList) : a = b := by
  cases a; cases b
  simp at h
  rw [h]
/-- a name's text -/
structure NameOk (s : Str) : Prop where
  ex : ∃ q r, s.cps.toList = q :: r ∧ q ∈ LL ∧ (∀ x ∈ r, x ∈ SG) ∧ r.length ≤ 11
theorem NameOk.short {s : Str} (h : NameOk s) : s.length ≤ 12 := by
  obtain ⟨q, r, e, _, _, hl⟩ := h.ex
  rw [str_len, e, List.length_cons]
  omega
theorem SG_len : SG.length = 36 := by decide +kernel
theorem sg_str : (("abcdefghijklmnopqrstuvwxyz" : Str) ++ ("0123456789" : Str)).cps.toList = SG := cps_app
theorem sg_short : (("abcdefghijklmnopqrstuvwxyz" : Str) ++ ("0123456789" : Str)).length = 36 := by rw [str_len, sg_str]; exact SG_len
theorem sg_first : ∀ k : Fin 26, ∃ q, SG[k.val]? = some q ∧ q ∈ LL := by
  intro k
  have h : k.val < LL.length := by have : LL.length = 26 := by decide +kernel
                                   omega
  refine ⟨LL[k.val], ?_, List.getElem_mem h⟩
  unfold SG
  rw [List.getElem?_append_left h, List.getElem?_eq_getElem h]
theorem letters_eq {M : DM} : g_law_letters [] M = .ok (.str "abcdefghijklmnopqrstuvwxyz") M := rfl
theorem big_ok {n : Nat} (h : n ≤ 1000) : n ≤ sizeLine := by rw [sizeLine_eq]; omega
theorem NameOk.cut {s t : Str} {x : Nat} (h : NameOk s) (ht : t.cps.toList = s.cps.toList.take 11 ++ [x]) (hx : x ∈ SG) : NameOk t := by
  obtain ⟨q, r, e, h1, h2, h3⟩ := h.ex
  refine ⟨q, r.take 10 ++ [x], ?_, h1, fun y hy => ?_, ?_⟩
  · rw [ht, e]; rfl
  · rcases List.mem_append.mp hy with z | z
    · exact h2 y (List.mem_of_mem_take z)
    · rw [List.mem_singleton.mp z]; exact hx
  · rw [List.length_append, List.length_take, List.length_singleton]; omega
theorem law_name_sat {M : DM} {Q : D → DM → Prop} (P : PoolAt M) (q : ∀ s M', NameOk s → Drew M M' → Q (.str s) M') : (g_law_name [.obj 1] M).sat Q := by
  unfold g_law_name f_law_name fnD
  have a1 : ∀ M : DM, addD (.str "abcdefghijklmnopqrstuvwxyz") (.str "0123456789") M = .ok (.str (("abcdefghijklmnopqrstuvwxyz" : Str) ++ ("0123456789" : Str))) M := fun M => add_ss (by decide +kernel)
  have b1 : ∀ M : DM, g_law_letters [] M = .ok (.str "abcdefghijklmnopqrstuvwxyz") M := fun _ => rfl
  generalize hS : (("abcdefghijklmnopqrstuvwxyz" : Str) ++ ("0123456789" : Str)) = S at a1
  have sS : S.cps.toList = SG := by rw [← hS]; exact sg_str
  have lS : S.length ≤ sizeLine := by rw [← hS, sg_short]; exact big_ok (by decide)
  have iS : ∀ (M : DM) (k : Nat) (x : Nat), SG[k]? = some x → ixD (.str S) (.int k) M = .ok (.str ⟨#[x]⟩) M := fun M k x h => ixs lS (by rw [sS]; exact h)
  walk_at "dx"
  refine law_draw_sat P (by decide) fun r M1 h1 h2 D1 => ?_
  obtain ⟨x, ex1, ex2⟩ := sg_first ⟨r.toNat, by omega⟩
  have i1 := iS M1 r.toNat x ex1
  rw [show ((r.toNat : Nat) : Int) = r by omega] at i1
  walk_at "dx"
  refine law_draw_sat D1.at_ (by decide) fun r2 M2 h3 h4 D2 => ?_
  walk_at "dx"
  refine law_draw_sat D2.at_ (by decide) fun r3 M3 h5 h6 D3 => ?_
  have D3' := (D1.trans D2).trans D3
  have loop : ∀ (n : Int) (M3 : DM), 0 ≤ n → n ≤ 11 → Drew M M3 → Ro.sat (sForR (eVar 3) (gNm 4) (sSet 2 (e2 addD (eVar 2) (e2 ixD (eVar 1) (eCall g_law_draw (aCons (eVar 0) (aCons (eC (D.int 36)) aNil)))))) [some (.obj 1), some (.str S), some (.str ⟨#[x]⟩), some (.int n), none] M3) (seqQ (sRet (eVar 2)) (finQ Q)) := by
    intro n M3 hn hn2 D
    refine sforR_sat (n := n) rfl (lim_of (by omega)) (fun i δ M' => ∃ s o, δ = [some (.obj 1), some (.str S), some (.str s), some (.int n), o] ∧ (∃ r, s.cps.toList = x :: r ∧ (∀ y ∈ r, y ∈ SG) ∧ r.length = i) ∧ Drew M M') ⟨⟨#[x]⟩, none, rfl, ⟨[], rfl, by simp, rfl⟩, D⟩ ?_ ?_
    · rintro j δ M4 hj ⟨s, o, rfl, ⟨r, e, h7, h8⟩, D4⟩
      refine ⟨_, _, rfl, ?_⟩
      walk_at "dx"
      refine law_draw_sat D4.at_ (by decide) fun k M5 h9 h10 D5 => ?_
      have hk : k.toNat < SG.length := by rw [SG_len]; omega
      have i2 := iS M5 k.toNat SG[k.toNat] (List.getElem?_eq_getElem hk)
      rw [show ((k.toNat : Nat) : Int) = k by omega] at i2
      have hadd : addD (.str s) (.str ⟨#[SG[k.toNat]]⟩) M5 = .ok (.str (s ++ ⟨#[SG[k.toNat]]⟩)) M5 := add_ss (by rw [str_len, e, str_len]; simp only [List.length_cons, List.length_nil]; exact big_ok (by omega))
      walk_at "dx"
      refine ⟨s ++ ⟨#[SG[k.toNat]]⟩, _, rfl, ⟨r ++ [SG[k.toNat]], by rw [cps_app, e]; rfl, fun y hy => ?_, by rw [List.length_append, h8]; rfl⟩, D4.trans D5⟩
      rcases List.mem_append.mp hy with z | z
      · exact h7 y z
      · rw [List.mem_singleton.mp z]; exact List.getElem_mem hk
    · rintro δ M4 ⟨s, o, rfl, ⟨r, e, h7, h8⟩, D4⟩
      walk_at "dx"
      exact q s M4 ⟨x, r, e, ex2, h7, by omega⟩ D4
  by_cases h7 : r3 = 1
  · walk_at "dx"
    refine law_draw_sat D3.at_ (by decide) fun r4 M4 h8 h9 D4 => ?_
    walk_at "dx"
    exact loop r4 M4 h8 (by omega) (D3'.trans D4)
  · walk_at "dx"
theorem law_number_sat {M : DM} {Q : D → DM → Prop} (P : PoolAt M) (q : ∀ n M', 0 ≤ n → n < 1000 → Drew M M' → Q (.int n) M') : (g_law_number [.obj 1] M).sat Q := by
  unfold g_law_number f_law_number fnD
  walk_at "dx"
  refine law_draw_sat P (by decide) fun r M1 h1 h2 D1 => ?_
  by_cases h : r = 2
  · walk_at "dx"
    exact law_draw_sat D1.at_ (by decide) fun r4 M4 h8 h9 D4 => q _ _ h8 (by omega) (D1.trans D4)
  · walk_at "dx"
    exact law_draw_sat D1.at_ (by decide) fun r4 M4 h8 h9 D4 => q _ _ h8 (by omega) (D1.trans D4)
/-- a kind -/
inductive KindOk : D → Prop
  | plain : KindOk (.tup [.str "plain"])
  | answer (n : Int) (h : 0 ≤ n ∧ n < 1000) : KindOk (.tup [.str "answer", .int n])
  | heal (n : Int) (h : 0 ≤ n ∧ n < 1000) : KindOk (.tup [.str "heal", .int n])
  | jump (s : Str) (h : NameOk s) : KindOk (.tup [.str "jump", .str s])
  | swap (s : Str) (h : NameOk s) : KindOk (.tup [.str "swap", .str s])
theorem law_kind_sat {M : DM} {Q : D → DM → Prop} (P : PoolAt M) (q : ∀ d M', KindOk d → Drew M M' → Q d M') : (g_law_kind [.obj 1] M).sat Q := by
  unfold g_law_kind f_law_kind fnD
  walk_at "dx"
  refine law_draw_sat P (by decide) fun r M1 h1 h2 D1 => ?_
  have qq : ∀ d M', KindOk d → Drew M1 M' → Q d M' := fun d M' k D => q d M' k (D1.trans D)
  have P1 := D1.at_
  clear q P
  by_cases c1 : r = 1
  · walk_at "dx"
    exact law_number_sat P1 fun n M2 h3 h4 D2 => qq _ _ (.answer n ⟨h3, h4⟩) D2
  by_cases c2 : r = 2
  · walk_at "dx"
    exact law_name_sat P1 fun s M2 h3 D2 => qq _ _ (.jump s h3) D2
  by_cases c3 : r = 3
  · walk_at "dx"
    exact law_number_sat P1 fun n M2 h3 h4 D2 => qq _ _ (.heal n ⟨h3, h4⟩) D2
  by_cases c5 : r = 5
  · walk_at "dx"
    exact law_number_sat P1 fun n M2 h3 h4 D2 => qq _ _ (.heal n ⟨h3, h4⟩) D2
  by_cases c4 : r = 4
  · walk_at "dx"
    exact law_name_sat P1 fun s M2 h3 D2 => qq _ _ (.swap s h3) D2
  · walk_at "dx"
    exact qq _ _ .plain (.refl P1)
/-! ### among texts -/
theorem mapM_strs {M : DM} {k : Nat} : ∀ l : List Str, (l.map D.str).mapM (toPy M k) = some (l.map PyData.str)
  | [] => rfl
  | s :: l => by
    rw [List.map_cons, List.mapM_cons, mapM_strs l]
    cases k <;> rfl
theorem any_strs {s : Str} : ∀ l : List Str, ((l.map PyData.str).any fun q => PyData.eqv q (.str s)) = decide (s ∈ l)
  | [] => rfl
  | t :: l => by
    rw [List.map_cons, List.any_cons, any_strs l]
    have e : PyData.eqv (.str t) (.str s) = decide (t = s) := rfl
    rw [e]
    by_cases h : t = s
    · subst h; simp
    · have h' : ¬ s = t := fun z => h z.symm
      simp [h, h']
theorem anyEq_strs {M : DM} {s : Str} {l : List Str} : anyEq M (.str s) (l.map D.str) = some (decide (s ∈ l)) := by
  unfold anyEq
  rw [mapM_strs]
  show some _ = _
  rw [any_strs]
theorem in_strs {M : DM} {n : Nat} {s : Str} {l : List Str} (h : M[n]? = some (.lst (l.map .str))) : inD (.str s) (.obj n) M = .ok (.bl (decide (s ∈ l))) M := by
  simp only [inD, h, inSeqD, itemsD, anyEq_strs]
theorem nin_strs {M : DM} {n : Nat} {s : Str} {l : List Str} (h : M[n]? = some (.lst (l.map .str))) : ninD (.str s) (.obj n) M = .ok (.bl (!decide (s ∈ l))) M := by
  simp only [ninD, h, ninSeqD, itemsD, anyEq_strs]
theorem ins_tup {M : DM} {s : Str} {l : List Str} : inD (.str s) (.tup (l.map .str)) M = .ok (.bl (decide (s ∈ l))) M := by
  simp only [inD, inSeqD, itemsD, anyEq_strs]
theorem nins_tup {M : DM} {s : Str} {l : List Str} : ninD (.str s) (.tup (l.map .str)) M = .ok (.bl (!decide (s ∈ l))) M := by
  simp only [ninD, ninSeqD, itemsD, anyEq_strs]
theorem pigeon {α : Type} [DecidableEq α] : ∀ (l m : List α), l.Nodup → (∀ x ∈ l, x ∈ m) → l.length ≤ m.length
  | [], m, _, _ => Nat.zero_le _
  | x :: l, m, hn, h => by
    have hx := h x (List.mem_cons_self ..)
    have hn' := List.nodup_cons.mp hn
    have := pigeon l (m.erase x) hn'.2 fun y hy => (List.mem_erase_of_ne (fun e => hn'.1 (by rw [← e]; exact hy))).mpr (h y (List.mem_cons_of_mem _ hy))
    rw [List.length_erase_of_mem hx] at this
    rw [List.length_cons]
    have : 0 < m.length := List.length_pos_of_mem hx
    omega
theorem cut11 {s : Str} : (cutS s none (some 11)).cps.toList = s.cps.toList.take 11 := by
  unfold cutS
  simp only [HT.sIx_none, List.drop_zero, Nat.sub_zero]
  show ((s.cps.toList.take (HT.sIx s.length s.length (some ((11 : Nat) : Int)))).toArray).toList = _
  rw [HT.sIx_nat, str_len]
  show s.cps.toList.take (min 11 s.cps.toList.length) = _
  rw [List.take_eq_take_iff]
  omega
theorem forIt_sat {it : IT} {g : FG} {body : FS} {R : Ro → Prop} (ds : List D) (J : Nat → DSt → DM → Prop) (hJ : ∀ i δ M, J i δ M → it.nx i M = some ds[i]?)
    (step : ∀ i d δ M, ds[i]? = some d → J i δ M → ∃ δ1 M1, g d δ M = some (δ1, M1) ∧ (body δ1 M1).sat (loopQ (J (i + 1)) R)) (fin : ∀ δ M, J ds.length δ M → R (.nx δ M)) : ∀ (m i : Nat) (δ : DSt) (M : DM), i ≤ ds.length → ds.length - i < m → J i δ M → (forIt it g body m i δ M).sat R
  | 0, i, δ, M, _, hm, _ => absurd hm (Nat.not_lt_zero _)
  | m + 1, i, δ, M, hi, hm, h => by
    simp only [forIt, hJ i δ M h]
    cases e : ds[i]? with
    | none =>
      have := List.getElem?_eq_none_iff.mp e
      have e' : i = ds.length := by omega
      subst e'
      exact fin δ M h
    | some d =>
      have hlt := (List.getElem?_eq_some_iff.mp e).1
      exact turn_sat (next := fun δ' M' => forIt it g body m (i + 1) δ' M') (step i d δ M e h) fun δ' M' q => forIt_sat ds J hJ step fin m (i + 1) δ' M' hlt (by omega) q
theorem sforI_sat {f : FI} {g : FG} {body : FS} {δ : DSt} {M M' : DM} {it : IT} {R : Ro → Prop} (h : f δ M = .ok it M') (ds : List D) (hfu : ds.length < it.fu) (J : Nat → DSt → DM → Prop) (hJ : ∀ i δ M, J i δ M → it.nx i M = some ds[i]?) (h0 : J 0 δ M')
    (step : ∀ i d δ M, ds[i]? = some d → J i δ M → ∃ δ1 M1, g d δ M = some (δ1, M1) ∧ (body δ1 M1).sat (loopQ (J (i + 1)) R)) (fin : ∀ δ M, J ds.length δ M → R (.nx δ M)) : (sForI f g body δ M).sat R := by
  unfold sForI
  rw [h]
  exact forIt_sat ds J hJ step fin it.fu 0 δ M' (Nat.zero_le _) (by omega) h0
/-- over items that stand still -/
theorem sforS_sat {f : FI} {g : FG} {body : FS} {δ : DSt} {M M' : DM} {R : Ro → Prop} (ds : List D) (h : f δ M = .ok (itS ds) M') (J : Nat → DSt → DM → Prop) (h0 : J 0 δ M')
    (step : ∀ i d δ M, ds[i]? = some d → J i δ M → ∃ δ1 M1, g d δ M = some (δ1, M1) ∧ (body δ1 M1).sat (loopQ (J (i + 1)) R)) (fin : ∀ δ M, J ds.length δ M → R (.nx δ M)) : (sForI f g body δ M).sat R :=
  sforI_sat h ds (Nat.lt_succ_self _) J (fun _ _ _ _ => rfl) h0 step fin
theorem SG_nd : SG.Nodup := by decide +kernel
theorem law_fresh_sat {M : DM} {u : Nat} {l : List Str} {Q : D → DM → Prop} (P : PoolAt M) (hu : u ≠ 1) (hM : M[u]? = some (.lst (l.map .str))) (hl : l.length ≤ 12) (q : ∀ s M', NameOk s → s ∉ l → Drew M M' → Q (.str s) M') : (g_law_fresh [.obj 1, .obj u] M).sat Q := by
  unfold g_law_fresh f_law_fresh fnD
  have a1 : ∀ M : DM, addD (.str "abcdefghijklmnopqrstuvwxyz") (.str "0123456789") M = .ok (.str (("abcdefghijklmnopqrstuvwxyz" : Str) ++ ("0123456789" : Str))) M := fun M => add_ss (by decide +kernel)
  have b1 : ∀ M : DM, g_law_letters [] M = .ok (.str "abcdefghijklmnopqrstuvwxyz") M := fun _ => rfl
  walk_at "dx"
  refine law_name_sat P fun s M1 hs D1 => ?_
  have hM1 : M1[u]? = some (.lst (l.map .str)) := by rw [D1.get hu]; exact hM
  have n1 := fun t => nin_strs (s := t) hM1
  by_cases h : s ∈ l
  · walk_at "dx"
    have cand : ∀ x ∈ SG, NameOk (cutS s none (some 11) ++ ⟨#[x]⟩) := fun x hx => hs.cut (by rw [cps_app, cut11]) hx
    have sl : sliceD (.str s) none (some 11) M1 = .ok (.str (cutS s none (some 11))) M1 := by
      simp only [sliceD, big_ok (Nat.le_trans hs.short (by decide)), if_true]
    have ad : ∀ x, addD (.str (cutS s none (some 11))) (.str ⟨#[x]⟩) M1 = .ok (.str (cutS s none (some 11) ++ ⟨#[x]⟩)) M1 := fun x => add_ss (by
      have z := cutS_length s none (some 11)
      have := hs.short
      have e : (⟨#[x]⟩ : Str).length = 1 := rfl
      rw [e]
      exact big_ok (by omega))
    have cc : ∀ x, (cutS s none (some 11) ++ (⟨#[x]⟩ : Str)).cps.toList = (cutS s none (some 11)).cps.toList ++ [x] := fun x => cps_app
    generalize cutS s none (some 11) = cs at cand sl ad cc
    clear a1 hs hM P
    refine sforS_sat (SG.map fun x => .str ⟨#[x]⟩) (M' := M1) ?_ (fun i δ M' => M' = M1 ∧ (∃ o, δ = [some (.obj 1), some (.obj u), some (.str s), o]) ∧ ∀ x ∈ SG.take i, cs ++ ⟨#[x]⟩ ∈ l) ⟨rfl, ⟨none, rfl⟩, by simp⟩ ?_ ?_
    · show Rs.bind (Rs.ok _ _) _ = _
      show Rs.ok (itS _) _ = _
      rw [sg_str]
    · rintro i d δ M' hd ⟨rfl, ⟨o, rfl⟩, hall⟩
      rw [List.getElem?_map] at hd
      cases e : SG[i]? with
      | none => rw [e] at hd; cases hd
      | some x =>
        rw [e] at hd
        cases hd
        refine ⟨_, _, rfl, ?_⟩
        have hx : x ∈ SG := List.mem_of_getElem? e
        by_cases hc : cs ++ ⟨#[x]⟩ ∈ l
        · have n2 := n1 (cs ++ ⟨#[x]⟩)
          have ad2 := ad x
          simp only [hc, decide_true, Bool.not_true] at n2
          simp only [sIf, sNil, tb, e2, eSl, oN, oS, eVar, eC, List.set_cons_zero, List.set_cons_succ, List.getElem?_cons_zero, List.getElem?_cons_succ, bind_ok, sl, ad2, n2, ro_ok, Bool.false_eq_true, if_false, rsat_nx, loopQ_nx, gNm]
          refine ⟨trivial, ⟨_, rfl⟩, fun y hy => ?_⟩
          rw [List.take_succ, e] at hy
          rcases List.mem_append.mp hy with z | z
          · exact hall y z
          · simp at z
            rw [z]; exact hc
        · have n2 := n1 (cs ++ ⟨#[x]⟩)
          have ad2 := ad x
          simp only [hc, decide_false, Bool.not_false] at n2
          simp only [sIf, sRet, tb, e2, eSl, oN, oS, eVar, eC, List.set_cons_zero, List.set_cons_succ, List.getElem?_cons_zero, List.getElem?_cons_succ, bind_ok, sl, ad2, n2, ro_ok, if_true, rsat_rt, loopQ_rt, seqQ_rt, finQ_rt]
          exact q _ _ (cand x hx) hc D1
    · rintro δ M' ⟨rfl, ⟨o, rfl⟩, hall⟩
      exfalso
      rw [List.length_map, List.take_length] at hall
      have nd : (SG.map fun x => cs ++ (⟨#[x]⟩ : Str)).Nodup := by
        show List.Pairwise _ _
        rw [List.pairwise_map]
        refine SG_nd.imp fun hne e => hne ?_
        have := congrArg (fun z : Str => z.cps.toList) e
        simp only [cc] at this
        simpa using this
      have := pigeon _ l nd fun y hy => by
        obtain ⟨x, hx, rfl⟩ := List.mem_map.mp hy
        exact hall x hx
      rw [List.length_map, SG_len] at this
      omega
  · walk_at "dx"
/-! ### checks -/
theorem is_name_eq {M : DM} {s : Str} (h : NameOk s) : g_is_name [.str s] M = .ok (.bl true) M := by
  obtain ⟨q, r, e, hq, hr, hl⟩ := h.ex
  have hs := h.short
  have i0 : ixD (.str s) (.int 0) M = .ok (.str ⟨#[q]⟩) M := ixs (k := 0) (big_ok (by omega)) (by rw [e]; rfl)
  have ne : ¬ s = ("" : Str) := fun z => by
    have := congrArg (fun z : Str => z.cps.toList) z
    simp only [e] at this
    cases this
  have l0 : lenD [.str s] M = .ok (.int s.length) M := len_s (big_ok (by omega))
  have n0 : ninD (.str ⟨#[q]⟩) (.str "abcdefghijklmnopqrstuvwxyz") M = .ok (.bl false) M := by
    show Rs.ok (D.bl (!decide (q ∈ LL))) M = _
    rw [decide_eq_true hq]
    rfl
  have hsz : ¬ (12 < (s.length : Int)) := by omega
  have loop : Ro.sat (sForI (iV (eVar 0)) (gNm 1) (sIf (tAndF (tb (e2 ninD (eVar 1) (eC (D.str "abcdefghijklmnopqrstuvwxyz")))) (tb (e2 ninD (eVar 1) (eC (D.str "0123456789"))))) (sRet (eC (D.bl false))) sNil) [some (.str s), none] M) (fun r => ∃ o, r = .nx [some (.str s), o] M) := by
    refine sforS_sat (s.cps.toList.map fun x => .str ⟨#[x]⟩) (M' := M) rfl (fun i δ M' => M' = M ∧ ∃ o, δ = [some (.str s), o]) ⟨rfl, none, rfl⟩ ?_ ?_
    · rintro i d δ M' hd ⟨rfl, o, rfl⟩
      rw [List.getElem?_map] at hd
      cases ex : s.cps.toList[i]? with
      | none => rw [ex] at hd; cases hd
      | some x =>
        rw [ex] at hd
        cases hd
        refine ⟨_, _, rfl, ?_⟩
        have hx : x ∈ SG := by
          have hx := List.mem_of_getElem? ex
          rw [e] at hx
          rcases List.mem_cons.mp hx with z | z
          · rw [z]; exact List.mem_append_left _ hq
          · exact hr x z
        have n1 : ninD (.str ⟨#[x]⟩) (.str "abcdefghijklmnopqrstuvwxyz") M' = .ok (.bl (!decide (x ∈ LL))) M' := rfl
        have n2 : ninD (.str ⟨#[x]⟩) (.str "0123456789") M' = .ok (.bl (!decide (x ∈ DG))) M' := rfl
        by_cases hL : x ∈ LL
        · simp only [hL, decide_true, Bool.not_true] at n1
          simp only [sIf, sNil, tAndF, tb, e2, eVar, eC, gNm, List.set_cons_zero, List.set_cons_succ, List.getElem?_cons_zero, List.getElem?_cons_succ, bind_ok, n1, ro_ok, Bool.false_eq_true, if_false, rsat_nx, loopQ_nx]
          exact ⟨trivial, _, rfl⟩
        · have hD : x ∈ DG := by
            rcases List.mem_append.mp hx with z | z
            · exact absurd z hL
            · exact z
          simp only [hL, decide_false, Bool.not_false] at n1
          simp only [hD, decide_true, Bool.not_true] at n2
          simp only [sIf, sNil, tAndF, tb, e2, eVar, eC, gNm, List.set_cons_zero, List.set_cons_succ, List.getElem?_cons_zero, List.getElem?_cons_succ, bind_ok, n1, n2, ro_ok, Bool.false_eq_true, if_false, if_true, rsat_nx, loopQ_nx]
          exact ⟨trivial, _, rfl⟩
    · rintro δ M' ⟨rfl, o, rfl⟩
      exact ⟨o, rfl⟩
  have loop2 : ∃ o, sForI (iV (eVar 0)) (gNm 1) (sIf (tAndF (tb (e2 ninD (eVar 1) (eC (D.str "abcdefghijklmnopqrstuvwxyz")))) (tb (e2 ninD (eVar 1) (eC (D.str "0123456789"))))) (sRet (eC (D.bl false))) sNil) [some (.str s), none] M = .nx [some (.str s), o] M := by
    revert loop
    generalize sForI _ _ _ _ _ = z
    intro h
    cases z <;> first | exact h.elim | (obtain ⟨o, e⟩ := h; exact ⟨o, e⟩)
  obtain ⟨o, lp⟩ := loop2
  clear loop e hr
  unfold g_is_name f_is_name fnD
  walk_at "dx"
theorem check_name_eq {M : DM} {s : Str} (h : NameOk s) : g_check_name [.str s] M = .ok (.str s) M := by
  have e := is_name_eq (M := M) h
  unfold g_check_name f_check_name fnD
  walk_at "dx"
theorem check_number_eq {M : DM} {n : Int} (h : 0 ≤ n ∧ n < 1000) : g_check_number [.int n] M = .ok (.int n) M := by
  have h1 := h.1
  have h2 : n ≤ 999 := by omega
  unfold g_check_number f_check_number fnD
  walk_at "dx"
end DL

set_option Elab.async false
set_option linter.all false
set_option maxRecDepth 100000
set_option maxHeartbeats 4000000
namespace DL
open PySem PySem.Spec L2
open PyProof.Rows hiding St
local macro_rules | `(tactic| walk_at "dx") => `(tactic| try simp (disch := first | decide | assumption | omega) only [sPut, sOset, sFldD, eMeth, eMake, ePr, eMt, eCh, sAug, oN, oS, eSl, eDic0, eCv, sSeq, sIf, sRet, sRetN, sNil, sSet, sExpr, sAsg, gTupN, gNms, gNm, tb, tNotF, tAndF, tOrF, eNot, eAnd, eOr, eIf, eTup, eLst, aCons, aNil, eCall, e1, e2, eVar, eC, negD, bind_ok, ro_ok, seq_nx, seq_rt, seq_ct, seq_bk, fin_rt, fin_nx, sat_ok, sat_bind, sat_fin, sat_seq, sat_ro, rsat_nx, rsat_rt, rsat_ct, rsat_bk, seqQ_nx, seqQ_rt, seqQ_ct, seqQ_bk, finQ_nx, finQ_rt, loopQ_nx, loopQ_ct, loopQ_bk, loopQ_rt, sSub, ixo0, ixo1, ixo2, ixo3, ixo4, puts1, puts2, puts3, puts4, List.map_cons, List.map_nil, List.length_cons, List.length_nil, Nat.reduceAdd, Nat.reduceSub, List.replicate_succ, List.replicate_zero, List.nil_append, List.cons_append, List.getElem?_cons_zero, List.getElem?_cons_succ, List.set_cons_zero, List.set_cons_succ, ix0, ix1, ix2, ix3, ix4, eq_ss, eq_ii, eq_bb, ne_ss, ne_ii, add_ii, sub_ii, mul_ii, mod_ii, fdiv_ii, ord_ii, isN_, isNonD, int_i, if_true, if_false, Bool.false_eq_true, Bool.true_eq_false, Bool.not_true, Bool.not_false, decide_eq_true_eq, Bool.and_true, Bool.true_and, Bool.and_false, Bool.false_and, Bool.or_true, Bool.or_false, Bool.true_or, Bool.false_or, ofString_inj, String.reduceEq, decide_true, decide_false, Int.reduceLT, Int.reduceLE, Int.reduceEq, Int.reduceNeg, Int.reduceSub, Int.reduceAdd, Int.reducePow, Int.reduceMul, true_or, or_true, false_or, or_false, true_and, and_true, false_and, and_false, not_true_eq_false, not_false_eq_true, *])

theorem check_kind_eq {M : DM} {d : D} (h : KindOk d) : g_check_kind [d] M = .ok d M := by
  have num : ∀ (M : DM) (w : String), inD (.str w) (.tup [(D.str "answer"), (D.str "heal")]) M = .ok (.bl (decide (w = "answer" ∨ w = "heal"))) M := fun M w => (ins_tup (l := ["answer", "heal"])).trans (by simp only [List.mem_cons, List.not_mem_nil, or_false, ofString_inj])
  have nnum : ∀ (M : DM) (w : String), ninD (.str w) (.tup [(D.str "answer"), (D.str "heal")]) M = .ok (.bl (!decide (w = "answer" ∨ w = "heal"))) M := fun M w => (nins_tup (l := ["answer", "heal"])).trans (by simp only [List.mem_cons, List.not_mem_nil, or_false, ofString_inj])
  have nnam : ∀ (M : DM) (w : String), ninD (.str w) (.tup [(D.str "jump"), (D.str "swap")]) M = .ok (.bl (!decide (w = "jump" ∨ w = "swap"))) M := fun M w => (nins_tup (l := ["jump", "swap"])).trans (by simp only [List.mem_cons, List.not_mem_nil, or_false, ofString_inj])
  have pl : ∀ (M : DM) (w : Str) (x : Int), eqD (.tup [.str w, .int x]) (.tup [.str "plain"]) M = .ok (.bl false) M := fun M w x => by
    show Rs.ok (D.bl (PyData.eqv (.tuple [.str w, .int x]) (.tuple [.str "plain"]))) M = _
    simp [PyData.eqv, PyData.eqvAll]
  have pl2 : ∀ (M : DM) (w x : Str), eqD (.tup [.str w, .str x]) (.tup [.str "plain"]) M = .ok (.bl false) M := fun M w x => by
    show Rs.ok (D.bl (PyData.eqv (.tuple [.str w, .str x]) (.tuple [.str "plain"]))) M = _
    simp [PyData.eqv, PyData.eqvAll]
  have l2 : ∀ (a b : D) (M : DM), lenD [.tup [a, b]] M = .ok (.int 2) M := fun a b M => rfl
  unfold g_check_kind f_check_kind fnD
  cases h with
  | plain =>
    have e : ∀ M : DM, eqD (.tup [.str "plain"]) (.tup [.str "plain"]) M = .ok (.bl true) M := fun M => rfl
    walk_at "dx"
  | answer n h =>
    have c := fun M : DM => check_number_eq (M := M) h
    walk_at "dx"
  | heal n h =>
    have c := fun M : DM => check_number_eq (M := M) h
    walk_at "dx"
  | jump s h =>
    have c := fun M : DM => check_name_eq (M := M) h
    walk_at "dx"
  | swap s h =>
    have c := fun M : DM => check_name_eq (M := M) h
    walk_at "dx"
/-! ### how the memory grows -/
structure Kept (M M' : DM) : Prop where
  len : M.length ≤ M'.length
  get : ∀ i, i < M.length → M'[i]? = M[i]?
theorem Kept.refl {M : DM} : Kept M M := ⟨Nat.le_refl _, fun _ _ => rfl⟩
theorem Kept.trans {M M1 M2 : DM} (a : Kept M M1) (b : Kept M1 M2) : Kept M M2 := ⟨Nat.le_trans a.len b.len, fun i h => (b.get i (Nat.lt_of_lt_of_le h a.len)).trans (a.get i h)⟩
theorem Kept.app {M M1 : DM} (a : Kept M M1) (l : DM) : Kept M (M1 ++ l) := ⟨by rw [List.length_append]; have := a.len; omega, fun i h => by rw [List.getElem?_append_left (Nat.lt_of_lt_of_le h a.len)]; exact a.get i h⟩
theorem Kept.set {M M1 : DM} (a : Kept M M1) {i : Nat} (hi : M.length ≤ i) (mo : MO) : Kept M (M1.set i mo) := ⟨by rw [List.length_set]; exact a.len, fun j h => by rw [List.getElem?_set_ne (by omega)]; exact a.get j h⟩
theorem lt_of_get {M : DM} {i : Nat} {mo : MO} (h : M[i]? = some mo) : i < M.length := (List.getElem?_eq_some_iff.mp h).1
theorem Kept.at_ {M M1 : DM} (a : Kept M M1) {i : Nat} {mo : MO} (h : M[i]? = some mo) : M1[i]? = some mo := (a.get i (lt_of_get h)).trans h
theorem PoolAt.two {M : DM} (P : PoolAt M) : 2 ≤ M.length := by
  obtain ⟨ns, a, b, c, e, h0, h1, _⟩ := P.ex
  have := lt_of_get h1
  omega
theorem Kept.pool {M M1 : DM} (a : Kept M M1) (P : PoolAt M) : PoolAt M1 := by
  obtain ⟨ns, x, b, c, e, h0, h1, h2⟩ := P.ex
  exact ⟨ns, x, b, c, e, a.at_ h0, a.at_ h1, h2⟩
structure Grew (M M' : DM) : Prop where
  pool : PoolAt M'
  len : M.length ≤ M'.length
  get : ∀ i, i ≠ 1 → i < M.length → M'[i]? = M[i]?
theorem Grew.refl {M : DM} (P : PoolAt M) : Grew M M := ⟨P, Nat.le_refl _, fun _ _ _ => rfl⟩
theorem Grew.trans {M M1 M2 : DM} (a : Grew M M1) (b : Grew M1 M2) : Grew M M2 := ⟨b.pool, Nat.le_trans a.len b.len, fun i h1 h => (b.get i h1 (Nat.lt_of_lt_of_le h a.len)).trans (a.get i h1 h)⟩
theorem Grew.app {M M1 : DM} (a : Grew M M1) (l : DM) : Grew M (M1 ++ l) := ⟨a.pool.grow l, by rw [List.length_append]; have := a.len; omega, fun i h1 h => by rw [List.getElem?_append_left (Nat.lt_of_lt_of_le h a.len)]; exact a.get i h1 h⟩
theorem Grew.set {M M1 : DM} (a : Grew M M1) (P : PoolAt M) {i : Nat} (hi : M.length ≤ i) (mo : MO) : Grew M (M1.set i mo) := by
  have := P.two
  exact ⟨a.pool.set mo (by omega) (by omega), by rw [List.length_set]; exact a.len, fun j h1 h => by rw [List.getElem?_set_ne (by omega)]; exact a.get j h1 h⟩
theorem Grew.at_ {M M1 : DM} (a : Grew M M1) {i : Nat} {mo : MO} (hi : i ≠ 1) (h : M[i]? = some mo) : M1[i]? = some mo := (a.get i hi (lt_of_get h)).trans h
theorem Drew.grew {M M1 : DM} (a : Drew M M1) : Grew M M1 := ⟨a.at_, by rw [a.len]; exact Nat.le_refl _, fun i h _ => a.get h⟩
theorem Kept.grew {M M1 : DM} (a : Kept M M1) (P : PoolAt M) : Grew M M1 := ⟨a.pool P, a.len, fun i _ h => a.get i h⟩
theorem get_app {M : DM} {i : Nat} {mo : MO} {l : DM} (h : M[i]? = some mo) : (M ++ l)[i]? = some mo := by rw [List.getElem?_append_left (lt_of_get h)]; exact h
theorem get_new {M : DM} {mo : MO} : (M ++ [mo])[M.length]? = some mo := by simp
theorem get_set {M : DM} {i j : Nat} {mo mo' : MO} (h : M[i]? = some mo) (hij : i ≠ j) : (M.set j mo')[i]? = some mo := by rw [List.getElem?_set_ne (Ne.symm hij)]; exact h
theorem get_self {M : DM} {i : Nat} {mo mo' : MO} (h : M[i]? = some mo) : (M.set i mo')[i]? = some mo' := by rw [List.getElem?_set_self (lt_of_get h)]
/-! ### a book -/
def kvD (l : List (Str × D)) : List (Key × D) := l.map fun p => (Sum.inr p.1, p.2)
theorem getK_kv {s : Str} : ∀ l : List (Str × D), getK (kvD l) (.inr s) = l.lookup s
  | [] => rfl
  | (a, d) :: l => by
    show (if (Sum.inr a : Key) = .inr s then some d else getK (kvD l) (.inr s)) = _
    rw [List.lookup_cons, getK_kv l]
    by_cases e : a = s
    · subst e
      rw [if_pos rfl]
      simp
    · have e' : (s == a) = false := beq_eq_false_iff_ne.mpr (fun z => e z.symm)
      rw [if_neg (fun z => e (Sum.inr.inj z)), e']
theorem putKD_new {l : List (Str × D)} {s : Str} {d : D} (h : l.lookup s = none) : putKD (kvD l) (.inr s) d = kvD (l ++ [(s, d)]) := by
  unfold putKD
  rw [getK_kv, h]
  simp [kvD]
theorem lookup_none {l : List (Str × D)} {s : Str} (h : s ∉ l.map (·.1)) : l.lookup s = none := by
  induction l with
  | nil => rfl
  | cons p l ih =>
    obtain ⟨a, d⟩ := p
    simp only [List.map_cons, List.mem_cons, not_or] at h
    rw [List.lookup_cons, beq_eq_false_iff_ne.mpr h.1]
    exact ih h.2
theorem lookup_mem {l : List (Str × D)} {s : Str} (h : s ∈ l.map (·.1)) : ∃ d, l.lookup s = some d ∧ (s, d) ∈ l := by
  induction l with
  | nil => cases h
  | cons p l ih =>
    obtain ⟨a, d⟩ := p
    simp only [List.map_cons, List.mem_cons] at h
    rw [List.lookup_cons]
    by_cases e : s = a
    · subst e
      exact ⟨d, by simp, List.mem_cons_self ..⟩
    · rcases h with h | h
      · exact absurd h e
      · obtain ⟨d', h1, h2⟩ := ih h
        exact ⟨d', by rw [beq_eq_false_iff_ne.mpr e]; exact h1, List.mem_cons_of_mem _ h2⟩
/-- a book of ours at b -/
structure BookAt (M : DM) (b k z : Nat) (kinds sizes : List (Str × D)) : Prop where
  at_ : M[b]? = some (.ins 0 [("_kinds", .obj k), ("_sizes", .obj z)])
  kn : M[k]? = some (.dic (kvD kinds))
  sz : M[z]? = some (.dic (kvD sizes))
  kz : k ≠ z
theorem BookAt.kept {M M1 : DM} {b k z : Nat} {ks ss : List (Str × D)} (B : BookAt M b k z ks ss) (a : Kept M M1) : BookAt M1 b k z ks ss := ⟨a.at_ B.at_, a.at_ B.kn, a.at_ B.sz, B.kz⟩
theorem fld_kinds {M : DM} {b k z : Nat} {ks ss : List (Str × D)} (B : BookAt M b k z ks ss) : fldD "_kinds" [0] (.obj b) M = .ok (.obj k) M := by
  simp only [fldD, B.at_]
  rfl
theorem fld_sizes {M : DM} {b k z : Nat} {ks ss : List (Str × D)} (B : BookAt M b k z ks ss) : fldD "_sizes" [0] (.obj b) M = .ok (.obj z) M := by
  simp only [fldD, B.at_]
  rfl
theorem in_dic {M : DM} {k : Nat} {l : List (Str × D)} {s : Str} (h : M[k]? = some (.dic (kvD l))) : inD (.str s) (.obj k) M = .ok (.bl (l.lookup s).isSome) M := by
  simp only [inD, h, keyD, getK_kv]
theorem nin_dic {M : DM} {k : Nat} {l : List (Str × D)} {s : Str} (h : M[k]? = some (.dic (kvD l))) : ninD (.str s) (.obj k) M = .ok (.bl (!(l.lookup s).isSome)) M := by
  simp only [ninD, h, keyD, getK_kv]
theorem len_dic {M : DM} {k : Nat} {l : List (Str × D)} (h : M[k]? = some (.dic (kvD l))) : lenKD [.obj k] M = .ok (.int l.length) M := by
  simp only [lenKD, h, kvD, List.length_map]
theorem gix_dic {M : DM} {k : Nat} {l : List (Str × D)} {s : Str} {d : D} (h : M[k]? = some (.dic (kvD l))) (e : l.lookup s = some d) : gixD (.obj k) (.str s) M = .ok d M := by
  simp only [gixD, h, keyD, getK_kv, e]
theorem put_dic {M : DM} {k : Nat} {l : List (Str × D)} {s : Str} {d : D} (h : M[k]? = some (.dic (kvD l))) (e : l.lookup s = none) (hz : l.length ≤ 1000) : gputD (.obj k) (.str s) d M = some (M.set k (.dic (kvD (l ++ [(s, d)])))) := by
  have hl : (kvD l).length < sizeLine := by rw [kvD, List.length_map, sizeLine_eq]; omega
  simp only [gputD, h, keyD, hl, if_true, putKD_new e]
theorem getitem_eq {M : DM} {b k z : Nat} {ks ss : List (Str × D)} {s : Str} {d : D} (B : BookAt M b k z ks ss) (e : ks.lookup s = some d) : g_Book_getitem [.obj b, .str s] M = .ok d M := by
  have f1 := fld_kinds B
  have n1 := nin_dic (s := s) B.kn
  rw [e] at n1
  have g1 := gix_dic B.kn e
  unfold g_Book_getitem f_Book_getitem fnD
  simp only [Option.isSome_some] at n1
  clear e B
  walk_at "dx"
theorem setitem_eq {M : DM} {b k z : Nat} {ks ss : List (Str × D)} {s : Str} {d : D} (B : BookAt M b k z ks ss) (hs : NameOk s) (hd : KindOk d) (e : ks.lookup s = none) (hz : ks.length < 12) :
    g_Book_setitem [.obj b, .str s, d] M = .ok .non (M.set k (.dic (kvD (ks ++ [(s, d)])))) := by
  have c1 := check_name_eq (M := M) hs
  have c2 := check_kind_eq (M := M) hd
  have f1 := fld_kinds B
  have n1 := nin_dic (s := s) B.kn
  rw [e] at n1
  have l1 := len_dic B.kn
  have hne : ¬ ((ks.length : Int) = 12) := by omega
  have p1 := put_dic (d := d) B.kn e (by omega)
  unfold g_Book_setitem f_Book_setitem fnD
  simp only [Option.isSome_none] at n1
  clear e B hs hd hz
  walk_at "dx"
theorem add_cell_eq {M : DM} {b k z : Nat} {ks ss : List (Str × D)} {s : Str} {n : Int} (B : BookAt M b k z ks ss) (hs : NameOk s) (hn : n = 2 ∨ n = 3) (e : ss.lookup s = none) (hz : ss.length < 2) :
    g_Book_add_cell [.obj b, .str s, .int n] M = .ok .non (M.set z (.dic (kvD (ss ++ [(s, .int n)])))) := by
  have c1 := check_name_eq (M := M) hs
  have f1 := fld_sizes B
  have n1 := in_dic (s := s) B.sz
  rw [e] at n1
  have l1 := len_dic B.sz
  have hne : ¬ ((ss.length : Int) = 2) := by omega
  have p1 := put_dic (d := .int n) B.sz e (by omega)
  have i1 : ninSeqD (.int n) (.tup [.int 2, .int 3]) M = .ok (.bl false) M := by rcases hn with rfl | rfl <;> rfl
  unfold g_Book_add_cell f_Book_add_cell fnD
  simp only [Option.isSome_none] at n1
  clear e B hs hn hz
  walk_at "dx"
theorem book_init_eq {M : DM} {b : Nat} (h : M[b]? = some (.ins 0 [])) : g_Book_init [.obj b, .cl 1000, .cl 1001] M = .ok .non (((M.set b (.ins 0 [("_kinds", .obj M.length)]) ++ [MO.dic []]) ++ [MO.dic []]).set b (.ins 0 [("_kinds", .obj M.length), ("_sizes", .obj (M.length + 1))])) := by
  have hb := lt_of_get h
  have d1 : ∀ M : DM, dictD [.cl 1000] M = .ok (.obj M.length) (M ++ [MO.dic []]) := fun _ => rfl
  have d2 : ∀ M : DM, dictD [.cl 1001] M = .ok (.obj M.length) (M ++ [MO.dic []]) := fun _ => rfl
  have s1 : setFld "_kinds" [0] (.obj b) (.obj M.length) (M ++ [MO.dic []]) = some (M.set b (.ins 0 [("_kinds", .obj M.length)]) ++ [MO.dic []]) := by
    simp only [setFld, get_app h]
    rw [List.set_append_left _ _ hb]
    rfl
  have h2 : (M.set b (.ins 0 [("_kinds", .obj M.length)]) ++ [MO.dic []])[b]? = some (.ins 0 [("_kinds", .obj M.length)]) := get_app (get_self h)
  have s2 : setFld "_sizes" [0] (.obj b) (.obj (M.length + 1)) ((M.set b (.ins 0 [("_kinds", .obj M.length)]) ++ [MO.dic []]) ++ [MO.dic []]) = some (((M.set b (.ins 0 [("_kinds", .obj M.length)]) ++ [MO.dic []]) ++ [MO.dic []]).set b (.ins 0 [("_kinds", .obj M.length), ("_sizes", .obj (M.length + 1))])) := by
    simp only [setFld, get_app h2]
    rfl
  unfold g_Book_init f_Book_init fnD
  simp only [sSeq, sFldD, eCall, aCons, aNil, eVar, bind_ok, ro_ok, List.map_cons, List.map_nil, List.length_cons, List.length_nil, Nat.reduceAdd, Nat.reduceSub, List.replicate_zero, List.append_nil, List.getElem?_cons_zero, List.getElem?_cons_succ, d1, s1, seq_nx, d2, List.length_append, List.length_set, s2, fin_nx]
end DL

set_option Elab.async false
set_option linter.all false
set_option maxRecDepth 100000
set_option maxHeartbeats 4000000
namespace DL
open PySem PySem.Spec L2
open PyProof.Rows hiding St
local macro_rules | `(tactic| walk_at "dx") => `(tactic| try simp (disch := first | decide | assumption | omega) only [sPut, sOset, sFldD, eMeth, eMake, ePr, eMt, eCh, sAug, oN, oS, eSl, eDic0, eCv, sSeq, sIf, sRet, sRetN, sNil, sSet, sExpr, sAsg, gTupN, gNms, gNm, tb, tNotF, tAndF, tOrF, eNot, eAnd, eOr, eIf, eTup, eLst, aCons, aNil, eCall, e1, e2, eVar, eC, negD, bind_ok, ro_ok, seq_nx, seq_rt, seq_ct, seq_bk, fin_rt, fin_nx, sat_ok, sat_bind, sat_fin, sat_seq, sat_ro, rsat_nx, rsat_rt, rsat_ct, rsat_bk, seqQ_nx, seqQ_rt, seqQ_ct, seqQ_bk, finQ_nx, finQ_rt, loopQ_nx, loopQ_ct, loopQ_bk, loopQ_rt, sSub, ixo0, ixo1, ixo2, ixo3, ixo4, puts1, puts2, puts3, puts4, List.map_cons, List.map_nil, List.length_cons, List.length_nil, Nat.reduceAdd, Nat.reduceSub, List.replicate_succ, List.replicate_zero, List.nil_append, List.cons_append, List.getElem?_cons_zero, List.getElem?_cons_succ, List.set_cons_zero, List.set_cons_succ, ix0, ix1, ix2, ix3, ix4, eq_ss, eq_ii, eq_bb, ne_ss, ne_ii, add_ii, sub_ii, mul_ii, mod_ii, fdiv_ii, ord_ii, isN_, isNonD, int_i, if_true, if_false, Bool.false_eq_true, Bool.true_eq_false, Bool.not_true, Bool.not_false, decide_eq_true_eq, Bool.and_true, Bool.true_and, Bool.and_false, Bool.false_and, Bool.or_true, Bool.or_false, Bool.true_or, Bool.false_or, ofString_inj, String.reduceEq, decide_true, decide_false, Int.reduceLT, Int.reduceLE, Int.reduceEq, Int.reduceNeg, Int.reduceSub, Int.reduceAdd, Int.reducePow, Int.reduceMul, true_or, or_true, false_or, or_false, true_and, and_true, false_and, and_false, not_true_eq_false, not_false_eq_true, *])

theorem ty_lst {M : DM} {n : Nat} {ds : List D} (h : M[n]? = some (.lst ds)) : tyD "list" (.obj n) M = true := by
  simp only [tyD, h]
  rfl
theorem app_lst {M : DM} {n : Nat} {ds : List D} {y : D} (h : M[n]? = some (.lst ds)) (hz : ds.length ≤ 10000) : appendD (.obj n) [y] M = .ok .non (M.set n (.lst (ds ++ [y]))) := by
  have hl : ds.length < sizeLine := by rw [sizeLine_eq]; omega
  simp only [appendD, h, hl, if_true]
/-- a comprehension whose items are read only -/
theorem lcIt_pure {n : Nat} {g : FC} {ft : FT} {fe : FE} {it : IT} {δ : DSt} {M : DM} (hn : n = M.length) (ds : List D) (F : D → D) (hz : ds.length ≤ 10000)
    (hnx : ∀ (acc : List D) (i : Nat), it.nx i (M ++ [.lst acc]) = some ds[i]?) (hs : ∀ (acc : List D) (i : Nat) (d : D), ds[i]? = some d → ∃ δ1, g d δ = some δ1 ∧ ft δ1 (M ++ [.lst acc]) = .ok true (M ++ [.lst acc]) ∧ fe δ1 (M ++ [.lst acc]) = .ok (F d) (M ++ [.lst acc])) :
    ∀ (m i : Nat) (acc : List D), i ≤ ds.length → ds.length - i < m → acc.length = i → lcIt n g ft fe it δ m i (M ++ [.lst acc]) = some (M ++ [.lst (acc ++ (ds.drop i).map F)])
  | 0, i, acc, _, hm, _ => absurd hm (Nat.not_lt_zero _)
  | m + 1, i, acc, hi, hm, ha => by
    subst hn
    simp only [lcIt, hnx acc i]
    cases e : ds[i]? with
    | none =>
      have := List.getElem?_eq_none_iff.mp e
      have e' : i = ds.length := by omega
      rw [e', List.drop_length, List.map_nil, List.append_nil]
    | some d =>
      have hlt := (List.getElem?_eq_some_iff.mp e).1
      obtain ⟨δ1, h1, h2, h3⟩ := hs acc i d e
      have hl : acc.length < sizeLine := by rw [sizeLine_eq]; omega
      simp only [h1, h2, h3, get_new, hl, if_true]
      have ih := lcIt_pure (n := M.length) rfl ds F hz hnx hs m (i + 1) (acc ++ [F d]) hlt (by omega) (by rw [List.length_append, ha]; rfl)
      have es : (M ++ [MO.lst acc]).set M.length (.lst (acc ++ [F d])) = M ++ [.lst (acc ++ [F d])] := by
        rw [List.set_append_right _ _ (Nat.le_refl _)]
        simp
      rw [es, ih, List.drop_eq_getElem_cons hlt]
      have ed : ds[i] = d := (List.getElem?_eq_some_iff.mp e).2
      rw [ed, List.map_cons, List.append_assoc]
      rfl
/-- what _law_lore has made -/
structure LoreAt (M : DM) (l : Nat) (nk : List (Str × D)) (cs : List (Str × Int)) : Prop where
  ex : ∃ a b p, (1 < a ∧ 1 < b ∧ 1 < p) ∧ M[l]? = some (.lst [.obj a, .obj b, .obj p]) ∧ M[a]? = some (.lst (nk.map fun q => .str q.1)) ∧ M[b]? = some (.dic (kvD nk)) ∧ M[p]? = some (.lst (cs.map fun q => .tup [.str q.1, .int q.2]))
  l1 : 1 < l
structure LoreOk (nk : List (Str × D)) (cs : List (Str × Int)) (n m : Nat) : Prop where
  pos : 0 < nk.length
  len : nk.length ≤ n
  nd : (nk.map (·.1)).Nodup
  ok : ∀ q ∈ nk, NameOk q.1 ∧ KindOk q.2
  clen : cs.length ≤ m
  cnd : (cs.map (·.1)).Nodup
  cok : ∀ q ∈ cs, NameOk q.1 ∧ (q.2 = 2 ∨ q.2 = 3)
  ord : ∀ x y, cs = [x, y] → ¬ y.1.cps.toList < x.1.cps.toList
theorem sforR_of {f : FE} {g : FG} {body : FS} {δ : DSt} {M : DM} {R : Ro → Prop} (h : (f δ M).sat fun x M' => ∃ n : Int, x = .int n ∧ (sForR (eC (.int n)) g body δ M').sat R) : (sForR f g body δ M).sat R := by
  obtain ⟨x, M', e, n, rfl, h⟩ := sat_get h
  unfold sForR at h ⊢
  rw [e]
  exact h
/-- the names of what has been drawn -/
structure NkOk (nk : List (Str × D)) (i : Nat) : Prop where
  len : nk.length = i
  nd : (nk.map (·.1)).Nodup
  ok : ∀ q ∈ nk, NameOk q.1 ∧ KindOk q.2
theorem nodup_snoc {α : Type} {l : List α} {x : α} (h : l.Nodup) (hx : x ∉ l) : (l ++ [x]).Nodup := by
  refine List.nodup_append.mpr ⟨h, by simp, fun a ha b hb => ?_⟩
  simp at hb
  subst hb
  intro e
  exact hx (e ▸ ha)
theorem NkOk.snoc {nk : List (Str × D)} {i : Nat} {s : Str} {d : D} (h : NkOk nk i) (hs : NameOk s) (hd : KindOk d) (hn : s ∉ nk.map (·.1)) : NkOk (nk ++ [(s, d)]) (i + 1) :=
  ⟨by rw [List.length_append, h.len]; rfl, by rw [List.map_append]; exact nodup_snoc h.nd hn, fun q hq => by
    rcases List.mem_append.mp hq with z | z
    · exact h.ok q z
    · rw [List.mem_singleton.mp z]; exact ⟨hs, hd⟩⟩
theorem lore1_sat {M : DM} {a b : Nat} {n : Int} {m : Int} {R : Ro → Prop} (P : PoolAt M) (ha : 1 < a) (hb : 1 < b) (hab : a ≠ b) (ga : M[a]? = some (.lst [])) (gb : M[b]? = some (.dic [])) (hn : 0 ≤ n ∧ n ≤ 12)
    (q : ∀ nk δ M', NkOk nk n.toNat → M'[a]? = some (.lst (nk.map fun q => .str q.1)) → M'[b]? = some (.dic (kvD nk)) → PoolAt M' → M'.length = M.length → (∀ i, i ≠ 1 → i ≠ a → i ≠ b → M'[i]? = M[i]?) →
      (∃ o1 o2 x, δ = [some (.obj 1), x, some (.int m), some (.obj a), some (.obj b), o1, o2, none, none]) → R (.nx δ M')) (x : Option D) :
    (sForR (eC (.int n)) (gNm 5)
        (sSeq (sSet 6 (eCall g_law_fresh (aCons (eVar 0) (aCons (eVar 3) aNil))))
          (sSeq (sExpr (eMt "list" appendD (eVar 3) (aCons (eVar 6) aNil)))
            (sPut (eCall g_law_kind (aCons (eVar 0) aNil)) (eVar 4) (eVar 6))))
        [some (.obj 1), x, some (.int m), some (.obj a), some (.obj b), none, none, none, none] M).sat R := by
  refine sforR_sat (n := n) rfl (lim_of (by omega)) (fun i δ M' => ∃ nk, NkOk nk i ∧ M'[a]? = some (.lst (nk.map fun q => .str q.1)) ∧ M'[b]? = some (.dic (kvD nk)) ∧ PoolAt M' ∧ M'.length = M.length ∧ (∀ i, i ≠ 1 → i ≠ a → i ≠ b → M'[i]? = M[i]?) ∧
      (∃ o1 o2 x, δ = [some (.obj 1), x, some (.int m), some (.obj a), some (.obj b), o1, o2, none, none])) ⟨[], ⟨rfl, by simp, by simp⟩, ga, gb, P, rfl, fun _ _ _ _ => rfl, none, none, x, rfl⟩ ?_ ?_
  · rintro j δ M1 hj ⟨nk, N, h1, h2, P1, hl, hk, o1, o2, x, rfl⟩
    refine ⟨_, _, rfl, ?_⟩
    walk_at "dx"
    refine law_fresh_sat (l := nk.map (·.1)) P1 (by omega) (by rw [h1, List.map_map]; rfl) (by rw [List.length_map, N.len]; omega) fun s M2 hs hs2 D2 => ?_
    have h3 : M2[a]? = some (.lst (nk.map fun q => .str q.1)) := (D2.get (by omega)).trans h1
    have t1 := ty_lst h3
    have a1 := app_lst (y := .str s) h3 (by rw [List.length_map, N.len]; omega)
    have P3 : PoolAt (M2.set a (.lst ((nk.map fun q => D.str q.1) ++ [.str s]))) := D2.at_.set _ (by omega) (by omega)
    walk_at "dx"
    refine law_kind_sat P3 fun d M4 hd D4 => ?_
    have h4 : M4[b]? = some (.dic (kvD nk)) := (D4.get (by omega)).trans (get_set ((D2.get (by omega)).trans h2) (Ne.symm hab))
    have p1 := put_dic (d := d) h4 (lookup_none hs2) (by rw [N.len]; omega)
    walk_at "dx"
    refine ⟨nk ++ [(s, d)], N.snoc hs hd hs2, ?_, get_self h4, D4.at_.set _ (by omega) (by omega), ?_, fun i i1 i2 i3 => ?_, _, _, _, rfl⟩
    · rw [get_set ((D4.get (by omega)).trans (get_self h3)) hab, List.map_append]
      rfl
    · rw [List.length_set, D4.len, List.length_set, D2.len]; exact hl
    · rw [List.getElem?_set_ne (Ne.symm i3), D4.get i1, List.getElem?_set_ne (Ne.symm i2), D2.get i1]
      exact hk i i1 i2 i3
  · rintro δ M1 ⟨nk, N, h1, h2, P1, hl, hk, h⟩
    exact q nk δ M1 N h1 h2 P1 hl hk h
structure CsOk (cs : List (Str × Int)) (i : Nat) : Prop where
  len : cs.length = i
  nd : (cs.map (·.1)).Nodup
  ok : ∀ q ∈ cs, NameOk q.1 ∧ (q.2 = 2 ∨ q.2 = 3)
theorem CsOk.snoc {cs : List (Str × Int)} {i : Nat} {s : Str} {z : Int} (h : CsOk cs i) (hs : NameOk s) (hd : z = 2 ∨ z = 3) (hn : s ∉ cs.map (·.1)) : CsOk (cs ++ [(s, z)]) (i + 1) :=
  ⟨by rw [List.length_append, h.len]; rfl, by rw [List.map_append]; exact nodup_snoc h.nd hn, fun q hq => by
    rcases List.mem_append.mp hq with y | y
    · exact h.ok q y
    · rw [List.mem_singleton.mp y]; exact ⟨hs, hd⟩⟩
abbrev cellD (q : Str × Int) : D := .tup [.str q.1, .int q.2]
/-- [pair[0] for pair in pairs] -/
theorem lc_names {M : DM} {p : Nat} {cs : List (Str × Int)} {δ : DSt} (h8 : δ.length = 9) (e7 : δ[7]? = some (some (.obj p))) (h : M[p]? = some (.lst (cs.map cellD))) (hz : cs.length ≤ 100) :
    eLc [8] (iV (eVar 7)) (cNm 8) tYesD (e2 ixD (eVar 8) (eC (D.int 0))) δ M = .ok (.obj M.length) (M ++ [.lst ((cs.map (·.1)).map .str)]) := by
  have e1 : iV (eVar 7) δ M = .ok (itL p ((cs.map cellD).length + 1)) M := by
    unfold iV eVar
    simp only [e7, bind_ok, iVal, h]
  unfold eLc
  rw [e1]
  simp only [bind_ok]
  have key := lcIt_pure (n := M.length) (g := cNm 8) (ft := tYesD) (fe := e2 ixD (eVar 8) (eC (D.int 0))) (it := itL p ((cs.map cellD).length + 1)) (δ := wipeD δ [8]) (M := M) rfl (cs.map cellD) (fun d => match d with | .tup (x :: _) => x | _ => .non) (by rw [List.length_map]; omega)
    (fun acc i => by simp only [itL, get_app h]) (fun acc i d hd => by
      rw [List.getElem?_map] at hd
      cases ec : cs[i]? with
      | none => rw [ec] at hd; cases hd
      | some q =>
        rw [ec] at hd
        cases hd
        refine ⟨_, rfl, rfl, ?_⟩
        have e8 : ((δ.set 8 none).set 8 (some (cellD q)))[8]? = some (some (cellD q)) := List.getElem?_set_self (by rw [List.length_set, h8]; decide)
        simp only [e2, eVar, eC, wipeD, e8, bind_ok, ix0]) ((cs.map cellD).length + 1) 0 [] (Nat.zero_le _) (by omega) rfl
  have fu : (itL p ((cs.map cellD).length + 1)).fu = (cs.map cellD).length + 1 := rfl
  rw [fu, key]
  simp only [List.drop_zero, List.nil_append, List.map_map]
  rfl
theorem lore2_sat {M : DM} {a b p : Nat} {n m : Int} {R : Ro → Prop} (P : PoolAt M) (hp : 1 < p) (gp : M[p]? = some (.lst [])) (hn : 0 ≤ n ∧ n ≤ 2) {o1 o2 x : Option D}
    (q : ∀ cs δ M', CsOk cs n.toNat → M'[p]? = some (.lst (cs.map cellD)) → PoolAt M' → M.length ≤ M'.length → (∀ i, i ≠ 1 → i ≠ p → i < M.length → M'[i]? = M[i]?) →
      (∃ o1 o2, δ = [some (.obj 1), x, some (.int m), some (.obj a), some (.obj b), o1, o2, some (.obj p), none]) → R (.nx δ M')) :
    (sForR (eC (.int n)) (gNm 5)
            (sSeq
              (sSet 6
                (eCall g_law_fresh
                  (aCons (eVar 0) (aCons (eLc [8] (iV (eVar 7)) (cNm 8) tYesD (e2 ixD (eVar 8) (eC (D.int 0)))) aNil))))
              (sExpr
                (eMt "list" appendD (eVar 7)
                  (aCons
                    (eTup
                      (aCons (eVar 6)
                        (aCons (e2 addD (eC (D.int 2)) (eCall g_law_draw (aCons (eVar 0) (aCons (eC (D.int 2)) aNil))))
                          aNil)))
                    aNil))))
        [some (.obj 1), x, some (.int m), some (.obj a), some (.obj b), o1, o2, some (.obj p), none] M).sat R := by
  refine sforR_sat (n := n) rfl (lim_of (by omega)) (fun i δ M' => ∃ cs, CsOk cs i ∧ M'[p]? = some (.lst (cs.map cellD)) ∧ PoolAt M' ∧ M.length ≤ M'.length ∧ (∀ i, i ≠ 1 → i ≠ p → i < M.length → M'[i]? = M[i]?) ∧
      (∃ o1 o2, δ = [some (.obj 1), x, some (.int m), some (.obj a), some (.obj b), o1, o2, some (.obj p), none])) ⟨[], ⟨rfl, by simp, by simp⟩, gp, P, Nat.le_refl _, fun _ _ _ _ => rfl, o1, o2, rfl⟩ ?_ ?_
  · rintro j δ M1 hj ⟨cs, N, h1, P1, hl, hk, o1, o2, rfl⟩
    refine ⟨_, _, rfl, ?_⟩
    have lc : ∀ o5 : Option D, eLc [8] (iV (eVar 7)) (cNm 8) tYesD (e2 ixD (eVar 8) (eC (D.int 0))) [some (.obj 1), x, some (.int m), some (.obj a), some (.obj b), o5, o2, some (.obj p), none] M1 = .ok (.obj M1.length) (M1 ++ [.lst ((cs.map (·.1)).map .str)]) := fun o5 => lc_names rfl rfl h1 (by rw [N.len]; omega)
    walk_at "dx"
    have two := P1.two
    refine law_fresh_sat (l := cs.map (·.1)) (P1.grow _) (by omega) get_new (by rw [List.length_map, N.len]; omega) fun s M2 hs hs2 D2 => ?_
    walk_at "dx"
    have h2 : M2[p]? = some (.lst (cs.map cellD)) := (D2.get (by omega)).trans (get_app h1)
    have t1 := ty_lst h2
    walk_at "dx"
    refine law_draw_sat D2.at_ (by decide) fun r M3 h3 h4 D3 => ?_
    have h5 : M3[p]? = some (.lst (cs.map cellD)) := (D3.get (by omega)).trans h2
    have a1 := app_lst (y := .tup [.str s, .int (2 + r)]) h5 (by rw [List.length_map, N.len]; omega)
    walk_at "dx"
    refine ⟨cs ++ [(s, 2 + r)], N.snoc hs (by omega) hs2, ?_, D3.at_.set _ (by omega) (by omega), ?_, fun i i1 i2 i3 => ?_, _, _, rfl⟩
    · rw [get_self h5, List.map_append]
      rfl
    · rw [List.length_set, D3.len, D2.len, List.length_append]; omega
    · rw [List.getElem?_set_ne (Ne.symm i2), D3.get i1, D2.get i1, List.getElem?_append_left (by omega)]
      exact hk i i1 i2 i3
  · rintro δ M1 ⟨cs, N, h1, P1, hl, hk, h⟩
    exact q cs δ M1 N h1 P1 hl hk h
theorem law_lore_sat {M : DM} {n m : Int} {Q : D → DM → Prop} (P : PoolAt M) (hn : 1 ≤ n ∧ n ≤ 12) (hm : 0 ≤ m ∧ m ≤ 2) (q : ∀ l M' nk cs, LoreAt M' l nk cs → LoreOk nk cs n.toNat m.toNat → Grew M M' → Q (.obj l) M') : (g_law_lore [.obj 1, .int n, .int m] M).sat Q := by
  have m2 := P.two
  unfold g_law_lore f_law_lore fnD
  walk_at "dx"
  have eL : (M ++ [MO.lst []]).length = M.length + 1 := by rw [List.length_append]; rfl
  rw [eL]
  generalize hM0 : (M ++ [MO.lst []]) ++ [MO.dic []] = M0
  have G0 : Grew M M0 := by rw [← hM0]; exact ((Grew.refl P).app _).app _
  have ga : M0[M.length]? = some (.lst []) := by rw [← hM0]; exact get_app get_new
  have gb : M0[M.length + 1]? = some (.dic []) := by rw [← hM0]; have := get_new (M := M ++ [MO.lst []]) (mo := .dic []); rw [eL] at this; exact this
  have l0 : M0.length = M.length + 2 := by rw [← hM0, List.length_append, eL]; rfl
  clear hM0
  have hM' : ∀ M' : DM, M'.length = M0.length → (∀ i, i ≠ 1 → i ≠ M.length → i ≠ M.length + 1 → M'[i]? = M0[i]?) → PoolAt M' → Grew M M' := fun M' h1 h2 h3 => ⟨h3, by omega, fun i i1 hi => (h2 i i1 (by omega) (by omega)).trans (G0.get i i1 hi)⟩
  refine sforR_of ?_
  walk_at "dx"
  refine law_draw_sat G0.pool (by omega) fun r M1 h1 h2 D1 => ?_
  walk_at "dx"
  refine ⟨1 + r, rfl, ?_⟩
  refine lore1_sat D1.at_ (by omega) (by omega) (by omega) ((D1.get (by omega)).trans ga) ((D1.get (by omega)).trans gb) (by omega) (fun nk δ M2 N h3 h4 P2 hl hk hδ => ?_) _
  obtain ⟨o1, o2, x, rfl⟩ := hδ
  have G2 : Grew M M2 := hM' M2 (by rw [hl, D1.len]) (fun i i1 i2 i3 => (hk i i1 i2 i3).trans (D1.get i1)) P2
  have l2 : M2.length = M.length + 2 := by rw [hl, D1.len, l0]
  clear hM' ga gb hl hk D1 G0
  generalize hA : M.length = a at *
  walk_at "dx"
  have G3 := G2.app [MO.lst []]
  have h3' : (M2 ++ [MO.lst []])[a]? = _ := get_app h3
  have h4' : (M2 ++ [MO.lst []])[a + 1]? = _ := get_app h4
  have gp : (M2 ++ [MO.lst []])[M2.length]? = some (.lst []) := get_new
  rw [l2] at gp
  generalize M2 ++ [MO.lst []] = M3 at *
  clear h3 h4 P2 G2 l0 l2
  refine sforR_of ?_
  walk_at "dx"
  refine law_draw_sat G3.pool (by omega) fun r2 M4 h5 h6 D4 => ?_
  walk_at "dx"
  refine ⟨r2, rfl, ?_⟩
  have l3 : a + 2 < M3.length := lt_of_get gp
  refine lore2_sat D4.at_ (by omega) ((D4.get (by omega)).trans gp) (by omega) fun cs δ M5 C h7 P5 hl hk hδ => ?_
  obtain ⟨o3, o4, rfl⟩ := hδ
  have h8 : M5[a]? = some (.lst (nk.map fun q => .str q.1)) := (hk a (by omega) (by omega) (by rw [D4.len]; omega)).trans ((D4.get (by omega)).trans h3')
  have h9 : M5[a + 1]? = some (.dic (kvD nk)) := (hk (a + 1) (by omega) (by omega) (by rw [D4.len]; omega)).trans ((D4.get (by omega)).trans h4')
  have G5 : Grew M M5 := ⟨P5, Nat.le_trans G3.len (by rw [D4.len] at hl; exact hl), fun i i1 hi => (hk i i1 (by omega) (by rw [D4.len]; omega)).trans ((D4.get i1).trans (G3.get i i1 hi))⟩
  have l5 : a + 2 < M5.length := lt_of_get h7
  have clen : cs.length ≤ m.toNat := by rw [C.len]; omega
  have npos : 0 < nk.length := by rw [N.len]; omega
  have nlen : nk.length ≤ n.toNat := by rw [N.len]; omega
  clear hk hl G3 h3' h4' gp D4 l3 P5
  have lc := len_o h7
  rw [List.length_map] at lc
  have fin0 : (∀ x y, cs = [x, y] → ¬ y.1.cps.toList < x.1.cps.toList) → Q (.obj M5.length) (M5 ++ [.lst [.obj a, .obj (a + 1), .obj (a + 2)]]) := fun ho =>
    q _ _ nk cs ⟨⟨a, a + 1, a + 2, by omega, get_new, get_app h8, get_app h9, get_app h7⟩, by omega⟩ ⟨npos, nlen, N.nd, N.ok, clen, C.nd, C.ok, ho⟩ (G5.app _)
  by_cases c2 : cs.length = 2
  · obtain ⟨x, y, hxy⟩ : ∃ x y, cs = [x, y] := by
      match cs, c2 with
      | [x, y], _ => exact ⟨x, y, rfl⟩
    subst hxy
    have i1 : ixD (.obj (a + 2)) (.int 1) M5 = .ok (cellD y) M5 := ixo (k := 1) h7 rfl
    have i0 : ixD (.obj (a + 2)) (.int 0) M5 = .ok (cellD x) M5 := ixo (k := 0) h7 rfl
    have lt : ltSD (.str y.1) (.str x.1) M5 = .ok (.bl (decide (y.1.cps.toList < x.1.cps.toList))) M5 := rfl
    have lc2 : lenD [.obj (a + 2)] M5 = .ok (.int 2) M5 := lc
    have clen2 : ([y, x] : List (Str × Int)).length ≤ m.toNat := clen
    clear lc c2 clen
    by_cases ho : y.1.cps.toList < x.1.cps.toList
    · have fin1 : Q (.obj (M5.length + 1)) ((M5 ++ [.lst [cellD y, cellD x]]) ++ [.lst [.obj a, .obj (a + 1), .obj M5.length]]) := by
        have eM : (M5 ++ [MO.lst [cellD y, cellD x]]).length = M5.length + 1 := by rw [List.length_append]; rfl
        have gn := get_new (M := M5 ++ [MO.lst [cellD y, cellD x]]) (mo := .lst [.obj a, .obj (a + 1), .obj M5.length])
        rw [eM] at gn
        refine q _ _ nk [y, x] ⟨⟨a, a + 1, M5.length, by omega, gn, get_app (get_app h8), get_app (get_app h9), get_app get_new⟩, by omega⟩ ⟨npos, nlen, N.nd, N.ok, clen2, ?_, ?_, ?_⟩ ((G5.app _).app _)
        · have := C.nd
          simp only [List.map_cons, List.map_nil, List.nodup_cons, List.mem_singleton, List.not_mem_nil, not_false_eq_true, List.nodup_nil, and_true] at this ⊢
          exact fun e => this e.symm
        · intro z hz
          refine C.ok z ?_
          simp only [List.mem_cons, List.not_mem_nil, or_false] at hz ⊢
          exact hz.symm
        · intro u v e
          cases e
          exact List.lt_asymm ho
      have eM : (M5 ++ [MO.lst [cellD y, cellD x]]).length = M5.length + 1 := by rw [List.length_append]; rfl
      clear fin0 q
      walk_at "dx"
    · have fin1 := fin0 fun u v e => by cases e; exact ho
      clear fin0 q
      walk_at "dx"
  · have c2' : ¬ ((cs.length : Int) = 2) := by omega
    have fin1 := fin0 fun u v e => by rw [e] at c2; exact absurd rfl c2
    clear fin0 q
    walk_at "dx"
end DL

set_option Elab.async false
set_option linter.all false
set_option maxRecDepth 100000
set_option maxHeartbeats 4000000
namespace DL
open PySem PySem.Spec L2
open PyProof.Rows hiding St
local macro_rules | `(tactic| walk_at "dx") => `(tactic| try simp (disch := first | decide | assumption | omega) only [sPut, sOset, sFldD, eMeth, eMake, ePr, eMt, eCh, sAug, oN, oS, eSl, eDic0, eCv, sSeq, sIf, sRet, sRetN, sNil, sSet, sExpr, sAsg, gTupN, gNms, gNm, tb, tNotF, tAndF, tOrF, eNot, eAnd, eOr, eIf, eTup, eLst, aCons, aNil, eCall, e1, e2, eVar, eC, negD, bind_ok, ro_ok, seq_nx, seq_rt, seq_ct, seq_bk, fin_rt, fin_nx, sat_ok, sat_bind, sat_fin, sat_seq, sat_ro, rsat_nx, rsat_rt, rsat_ct, rsat_bk, seqQ_nx, seqQ_rt, seqQ_ct, seqQ_bk, finQ_nx, finQ_rt, loopQ_nx, loopQ_ct, loopQ_bk, loopQ_rt, sSub, ixo0, ixo1, ixo2, ixo3, ixo4, puts1, puts2, puts3, puts4, List.map_cons, List.map_nil, List.length_cons, List.length_nil, Nat.reduceAdd, Nat.reduceSub, List.replicate_succ, List.replicate_zero, List.nil_append, List.cons_append, List.getElem?_cons_zero, List.getElem?_cons_succ, List.set_cons_zero, List.set_cons_succ, ix0, ix1, ix2, ix3, ix4, eq_ss, eq_ii, eq_bb, ne_ss, ne_ii, add_ii, sub_ii, mul_ii, mod_ii, fdiv_ii, ord_ii, isN_, isNonD, int_i, if_true, if_false, Bool.false_eq_true, Bool.true_eq_false, Bool.not_true, Bool.not_false, decide_eq_true_eq, Bool.and_true, Bool.true_and, Bool.and_false, Bool.false_and, Bool.or_true, Bool.or_false, Bool.true_or, Bool.false_or, ofString_inj, String.reduceEq, decide_true, decide_false, Int.reduceLT, Int.reduceLE, Int.reduceEq, Int.reduceNeg, Int.reduceSub, Int.reduceAdd, Int.reducePow, Int.reduceMul, true_or, or_true, false_or, or_false, true_and, and_true, false_and, and_false, not_true_eq_false, not_false_eq_true, *])

theorem LoreAt.kept {M M1 : DM} {l : Nat} {nk : List (Str × D)} {cs : List (Str × Int)} (L : LoreAt M l nk cs) (a : Kept M M1) : LoreAt M1 l nk cs := by
  obtain ⟨x, y, z, h0, h1, h2, h3, h4⟩ := L.ex
  exact ⟨⟨x, y, z, h0, a.at_ h1, a.at_ h2, a.at_ h3, a.at_ h4⟩, L.l1⟩
theorem ind_lookup {l : List (Str × D)} {i : Nat} {s : Str} {d : D} (hn : (l.map (·.1)).Nodup) (h : l[i]? = some (s, d)) : l.lookup s = some d := by
  induction l generalizing i with
  | nil => simp at h
  | cons p l ih =>
    obtain ⟨a, e⟩ := p
    rw [List.map_cons, List.nodup_cons] at hn
    rw [List.lookup_cons]
    cases i with
    | zero =>
      simp at h
      rw [h.1, h.2]
      simp
    | succ i =>
      have hm : (s, d) ∈ l := List.mem_of_getElem? (by simpa using h)
      have hm2 : s ∈ l.map (·.1) := List.mem_map.mpr ⟨_, hm, rfl⟩
      have hne : s ≠ a := fun z => hn.1 (by rw [← z]; exact hm2)
      rw [beq_eq_false_iff_ne.mpr hne]
      exact ih hn.2 (by simpa using h)
theorem not_in_take {α β : Type} {l : List (α × β)} {i : Nat} {s : α} {d : β} (hn : (l.map (·.1)).Nodup) (h : l[i]? = some (s, d)) : s ∉ (l.take i).map (·.1) := by
  induction l generalizing i with
  | nil => simp at h
  | cons p l ih =>
    rw [List.map_cons, List.nodup_cons] at hn
    cases i with
    | zero => simp
    | succ i =>
      rw [List.take_succ_cons, List.map_cons, List.mem_cons, not_or]
      have hm : (s, d) ∈ l := List.mem_of_getElem? (by simpa using h)
      exact ⟨fun e => hn.1 (by rw [← e]; exact List.mem_map_of_mem hm), ih hn.2 (by simpa using h)⟩
theorem take_snoc {α : Type} {l : List α} {i : Nat} {x : α} (h : l[i]? = some x) : l.take i ++ [x] = l.take (i + 1) := by
  rw [List.take_succ, h]
  rfl
abbrev szD (cs : List (Str × Int)) : List (Str × D) := cs.map fun q => (q.1, D.int q.2)
theorem law_book_sat {M : DM} {l : Nat} {nk : List (Str × D)} {cs : List (Str × Int)} {n m : Nat} {Q : D → DM → Prop} (L : LoreAt M l nk cs) (O : LoreOk nk cs n m) (hn : n ≤ 12) (hm : m ≤ 2)
    (q : ∀ b k z M', BookAt M' b k z nk (szD cs) → M.length ≤ b → M.length ≤ k → M.length ≤ z → Kept M M' → Q (.obj b) M') : (g_law_book [.obj l] M).sat Q := by
  obtain ⟨la, lb, lp, g0, g1, g2, g3, g4⟩ := L.ex
  have nlen := O.len
  have clen := O.clen
  unfold g_law_book f_law_book fnD
  have hb : (M ++ [MO.ins 0 []])[M.length]? = some (.ins 0 []) := get_new
  have i1 := book_init_eq hb
  have eL : (M ++ [MO.ins 0 []]).length = M.length + 1 := by rw [List.length_append]; rfl
  have eS : (M ++ [MO.ins 0 []]).set M.length (.ins 0 [("_kinds", .obj (M ++ [MO.ins 0 []]).length)]) = M ++ [.ins 0 [("_kinds", .obj (M.length + 1))]] := by
    rw [List.set_append_right _ _ (Nat.le_refl _), eL]
    simp
  rw [eS, eL] at i1
  have eT : ((M ++ [MO.ins 0 [("_kinds", .obj (M.length + 1))]] ++ [MO.dic []]) ++ [MO.dic []]).set M.length (.ins 0 [("_kinds", .obj (M.length + 1)), ("_sizes", .obj (M.length + 1 + 1))]) = M ++ [.ins 0 [("_kinds", .obj (M.length + 1)), ("_sizes", .obj (M.length + 2))], .dic [], .dic []] := by
    rw [List.append_assoc, List.append_assoc, List.set_append_right _ _ (Nat.le_refl _)]
    simp
  rw [eT] at i1
  have B0 : BookAt (M ++ [.ins 0 [("_kinds", .obj (M.length + 1)), ("_sizes", .obj (M.length + 2))], .dic [], .dic []]) M.length (M.length + 1) (M.length + 2) [] [] := by
    refine ⟨?_, ?_, ?_, by omega⟩
    · rw [List.getElem?_append_right (Nat.le_refl _), Nat.sub_self]; rfl
    · rw [List.getElem?_append_right (by omega), show M.length + 1 - M.length = 1 by omega]; rfl
    · rw [List.getElem?_append_right (by omega), show M.length + 2 - M.length = 2 by omega]; rfl
  have K0 : Kept M (M ++ [.ins 0 [("_kinds", .obj (M.length + 1)), ("_sizes", .obj (M.length + 2))], .dic [], .dic []]) := Kept.refl.app _
  walk_at "dx"
  clear i1 eT eS eL hb
  generalize (M ++ [.ins 0 [("_kinds", .obj (M.length + 1)), ("_sizes", .obj (M.length + 2))], .dic [], .dic []]) = M0 at *
  have r0 := K0.at_ g1
  have a0 : ixD (.obj l) (.int 0) M0 = .ok (.obj la) M0 := ixo (k := 0) r0 rfl
  refine sforO_sat (nk.map fun q => .str q.1) (M' := M0) (n := la) (by simp only [e2, eVar, eC, List.getElem?_cons_zero, bind_ok]; exact a0)
    (fun i δ M' => BookAt M' M.length (M.length + 1) (M.length + 2) (nk.take i) [] ∧ Kept M M' ∧ ∃ o, δ = [some (.obj l), some (.obj M.length), o, none]) (fun i δ M' h => h.2.1.at_ g2) ⟨by rw [List.take_zero]; exact B0, K0, none, rfl⟩ ?_ ?_
  · rintro i d δ M1 hd ⟨B, K, o, rfl⟩
    rw [List.getElem?_map] at hd
    cases e : nk[i]? with
    | none => rw [e] at hd; cases hd
    | some p =>
      obtain ⟨s, d'⟩ := p
      rw [e] at hd
      cases hd
      refine ⟨_, _, rfl, ?_⟩
      have ok := O.ok (s, d') (List.mem_of_getElem? e)
      have a1 : ixD (.obj l) (.int 1) M1 = .ok (.obj lb) M1 := ixo (k := 1) (K.at_ g1) rfl
      have a2 := gix_dic (K.at_ g3) (ind_lookup O.nd e)
      have hi := (List.getElem?_eq_some_iff.mp e).1
      have s1 := setitem_eq B ok.1 ok.2 (lookup_none (not_in_take O.nd e)) (by rw [List.length_take]; omega)
      have hB := B.at_
      rw [take_snoc e] at s1
      have B2 : BookAt (M1.set (M.length + 1) (.dic (kvD (nk.take (i + 1))))) M.length (M.length + 1) (M.length + 2) (nk.take (i + 1)) [] := ⟨get_set B.at_ (by omega), get_self B.kn, get_set B.sz (by omega), by omega⟩
      have K2 := K.set (i := M.length + 1) (by omega) (.dic (kvD (nk.take (i + 1))))
      clear B ok
      walk_at "dx"
      first | exact ⟨B2, K2, _, rfl⟩ | exact ⟨_, rfl⟩
  · rintro δ M1 ⟨B, K, o, rfl⟩
    rw [List.length_map, List.take_length] at B
    walk_at "dx"
    have a0 : ixD (.obj l) (.int 2) M1 = .ok (.obj lp) M1 := ixo (k := 2) (K.at_ g1) rfl
    refine sforO_sat (cs.map cellD) (M' := M1) (n := lp) (by simp only [e2, eVar, eC, List.getElem?_cons_zero, bind_ok]; exact a0)
      (fun i δ M' => BookAt M' M.length (M.length + 1) (M.length + 2) nk (szD (cs.take i)) ∧ Kept M M' ∧ ∃ o1 o, δ = [some (.obj l), some (.obj M.length), o1, o]) (fun i δ M' h => h.2.1.at_ g4) ⟨by rw [List.take_zero]; exact B, K, o, none, rfl⟩ ?_ ?_
    · rintro i d δ M2 hd ⟨B, K, o1, o, rfl⟩
      rw [List.getElem?_map] at hd
      cases e : cs[i]? with
      | none => rw [e] at hd; cases hd
      | some p =>
        obtain ⟨s, z⟩ := p
        rw [e] at hd
        cases hd
        refine ⟨_, _, rfl, ?_⟩
        have ok := O.cok (s, z) (List.mem_of_getElem? e)
        have hi := (List.getElem?_eq_some_iff.mp e).1
        have s1 := add_cell_eq B ok.1 ok.2 (lookup_none (by rw [List.map_map]; exact not_in_take O.cnd e)) (by rw [List.length_map, List.length_take]; omega)
        have hB := B.at_
        have eT : szD (cs.take i) ++ [(s, D.int z)] = szD (cs.take (i + 1)) := by rw [← take_snoc e, szD, szD, List.map_append]; rfl
        rw [eT] at s1
        have B2 : BookAt (M2.set (M.length + 2) (.dic (kvD (szD (cs.take (i + 1)))))) M.length (M.length + 1) (M.length + 2) nk (szD (cs.take (i + 1))) := ⟨get_set B.at_ (by omega), get_set B.kn (by omega), get_self B.sz, by omega⟩
        have K2 := K.set (i := M.length + 2) (by omega) (.dic (kvD (szD (cs.take (i + 1)))))
        have tl : List.lookup 0 ([(0, g_Book_add_cell)] : MTab) = some g_Book_add_cell := rfl
        have fl : List.lookup ("add_cell" : Str) ([("_kinds", D.obj (M.length + 1)), ("_sizes", D.obj (M.length + 2))] : List (Str × D)) = none := rfl
        clear B ok
        walk_at "dx"
        first | exact ⟨B2, K2, _, _, rfl⟩ | exact ⟨_, _, rfl⟩
    · rintro δ M2 ⟨B, K, o1, o, rfl⟩
      rw [List.length_map, List.take_length] at B
      have fin := q _ _ _ M2 B (Nat.le_refl _) (by omega) (by omega) K
      clear q
      walk_at "dx"
theorem LoreAt.grew {M M1 : DM} {l : Nat} {nk : List (Str × D)} {cs : List (Str × Int)} (L : LoreAt M l nk cs) (a : Grew M M1) : LoreAt M1 l nk cs := by
  obtain ⟨x, y, z, h0, h1, h2, h3, h4⟩ := L.ex
  have := L.l1
  exact ⟨⟨x, y, z, h0, a.at_ (by omega) h1, a.at_ (by omega) h2, a.at_ (by omega) h3, a.at_ (by omega) h4⟩, L.l1⟩
end DL

set_option Elab.async false
set_option linter.all false
set_option maxRecDepth 100000
set_option maxHeartbeats 4000000
namespace DL
open PySem PySem.Spec L2
open PyProof.Rows hiding St
def f_law_argument : FS :=
 (sSeq (sSet 3 (eCall g_law_draw (aCons (eVar 0) (aCons (eC (D.int 4)) aNil))))
 (sSeq (sIf (tOrF (tb (e2 eqD (eVar 3) (eC (D.int 0)))) (tAndF (tb (e2 eqD (eVar 3) (eC (D.int 1)))) (tAndF (tb (e2 gtD (eCall lenD (aCons (e2 ixD (eVar 1) (eC (D.int 2))) aNil)) (eC (D.int 0)))) (tb (e2 eqD (eCall g_law_draw (aCons (eVar 0) (aCons (eC (D.int 2)) aNil))) (eC (D.int 0)))))))
  (sRet (eC D.non))
  sNil)
 (sSeq (sIf (tOrF (tb (e2 eqD (eVar 3) (eC (D.int 1)))) (tb (e2 eqD (eCall lenD (aCons (e2 ixD (eVar 1) (eC (D.int 2))) aNil)) (eC (D.int 0)))))
  (sRet (eCall g_law_number (aCons (eVar 0) aNil)))
  sNil)
 (sSeq (sSet 4 (e2 ixD (e2 ixD (e2 ixD (eVar 1) (eC (D.int 2))) (eCall g_law_draw (aCons (eVar 0) (aCons (eCall lenD (aCons (e2 ixD (eVar 1) (eC (D.int 2))) aNil)) aNil)))) (eC (D.int 0))))
 (sSeq (sIf (tAndF (tb (eVar 2)) (tb (e2 gtD (eCall g_law_draw (aCons (eVar 0) (aCons (eC (D.int 3)) aNil))) (eC (D.int 0)))))
  (sRet (eTup (aCons (eC (D.str "late")) (aCons (eVar 4) aNil))))
  sNil)
 (sRet (eTup (aCons (eC (D.str "now")) (aCons (eVar 4) aNil)))))))))
def g_law_argument : List D → DM → Rs D := fnD 5 f_law_argument
def f_law_action (G : List D → DM → Rs D) : FS :=
 (sSeq (sSet 3 (e2 ixD (eLst (aCons (eC (D.str "done")) (aCons (eC (D.str "error")) (aCons (eC (D.str "always")) aNil)))) (eCall g_law_draw (aCons (eVar 0) (aCons (eC (D.int 3)) aNil)))))
 (sSeq (sSet 4 (e2 ixD (e2 ixD (eVar 1) (eC (D.int 0))) (eCall g_law_draw (aCons (eVar 0) (aCons (eCall lenD (aCons (e2 ixD (eVar 1) (eC (D.int 0))) aNil)) aNil)))))
 (sSeq (sSet 5 (eCall g_law_argument (aCons (eVar 0) (aCons (eVar 1) (aCons (eC (D.bl true)) aNil)))))
 (sSeq (sSet 6 (eTup aNil))
 (sSeq (sIf (tAndF (tb (e2 neD (eVar 3) (eC (D.str "error")))) (tAndF (tb (e2 ltD (eVar 2) (eC (D.int 2)))) (tb (e2 eqD (eCall g_law_draw (aCons (eVar 0) (aCons (eC (D.int 3)) aNil))) (eC (D.int 2))))))
  (sForR (e2 addD (eC (D.int 1)) (eCall g_law_draw (aCons (eVar 0) (aCons (e2 subD (eC (D.int 3)) (eVar 2)) aNil)))) (gNm 7)
  (sSet 6 (e2 addD (eVar 6) (eTup (aCons (eCall G (aCons (eVar 0) (aCons (eVar 1) (aCons (e2 addD (eVar 2) (eC (D.int 1))) aNil)))) aNil)))))
  sNil)
 (sRet (eTup (aCons (eVar 3) (aCons (eVar 4) (aCons (eVar 5) (aCons (eVar 6) aNil)))))))))))
def g_law_action : Nat → List D → DM → Rs D
  | 0 => fun _ _ => .bad
  | n + 1 => fnD 8 (f_law_action (g_law_action n))
def f_law_halves : FS :=
 (sSeq (sIf (tb (e2 neD (e2 ixD (eVar 0) (eC (D.int 0))) (eC (D.str "always"))))
  (sRet (eLst (aCons (eVar 0) aNil)))
  sNil)
 (sRet (eLst (aCons (eTup (aCons (eC (D.str "done")) (aCons (e2 ixD (eVar 0) (eC (D.int 1))) (aCons (e2 ixD (eVar 0) (eC (D.int 2))) (aCons (e2 ixD (eVar 0) (eC (D.int 3))) aNil))))) (aCons (eTup (aCons (eC (D.str "error")) (aCons (e2 ixD (eVar 0) (eC (D.int 1))) (aCons (e2 ixD (eVar 0) (eC (D.int 2))) (aCons (eTup aNil) aNil))))) aNil)))))
def g_law_halves : List D → DM → Rs D := fnD 1 f_law_halves
def f_halves : FS :=
 (sSeq (sAsg (eVar 0) (gTupN [1, 2, 3, 4]))
 (sSeq (sIf (tb (e2 neD (eVar 1) (eC (D.str "always"))))
  (sRet (eTup (aCons (eVar 0) aNil)))
  sNil)
 (sRet (eTup (aCons (eTup (aCons (eC (D.str "done")) (aCons (eVar 2) (aCons (eVar 3) (aCons (eVar 4) aNil))))) (aCons (eTup (aCons (eC (D.str "error")) (aCons (eVar 2) (aCons (eVar 3) (aCons (eTup aNil) aNil))))) aNil))))))
def g_halves : List D → DM → Rs D := fnD 5 f_halves
def f_law_backward : FS :=
 (sRet (eLc [1] (iR (eCall lenD (aCons (eVar 0) aNil))) (cNm 1) tYesD (e2 ixD (eVar 0) (e2 subD (e2 subD (eCall lenD (aCons (eVar 0) aNil)) (eC (D.int 1))) (eVar 1)))))
def g_law_backward : List D → DM → Rs D := fnD 2 f_law_backward
def f_law_split : FS :=
 (sSeq (sSet 1 (eLst aNil))
 (sSeq (sFor (fun _ _ => 0) (eVar 0) (gNm 2)
  (sSet 1 (e2 addD (eVar 1) (eCall g_law_halves (aCons (eVar 2) aNil)))))
 (sRet (eVar 1))))
def g_law_split : List D → DM → Rs D := fnD 3 f_law_split
def f_split : FS :=
 (sSeq (sSet 1 (eLst aNil))
 (sSeq (sFor (fun _ _ => 0) (eVar 0) (gNm 2)
  (sExpr (eMt "list" extendD (eVar 1) (aCons (eCall g_halves (aCons (eVar 2) aNil)) aNil))))
 (sRet (eVar 1))))
def g_split : List D → DM → Rs D := fnD 3 f_split
def f_law_below : FS :=
 (sSeq (sIf (tAndF (tb (e2 inD (e2 ixD (eVar 0) (eC (D.int 0))) (eVar 1))) (tOrF (tb (e2 eqD (e2 ixD (eVar 0) (eC (D.int 0))) (eC (D.str "done")))) (tb (e2 inSeqD (e2 ixD (e2 gixD (eVar 2) (e2 ixD (eVar 0) (eC (D.int 1)))) (eC (D.int 0))) (eTup (aCons (eC (D.str "heal")) (aCons (eC (D.str "jump")) aNil)))))))
  (sRet (eTup (aCons (eC (D.str "done")) (aCons (eC (D.str "error")) aNil))))
  sNil)
 (sRet (eVar 1)))
def g_law_below : List D → DM → Rs D := fnD 3 f_law_below
def f_below : FS :=
 (sSeq (sSet 3 (e2 ixD (eVar 0) (eC (D.int 0))))
 (sSeq (sIf (tAndF (tb (e2 inD (eVar 3) (eVar 1))) (tOrF (tb (e2 eqD (eVar 3) (eC (D.str "done")))) (tb (e2 inD (e2 ixD (e2 (ogetD 0 g_Book_getitem) (eVar 2) (e2 ixD (eVar 0) (eC (D.int 1)))) (eC (D.int 0))) (eC (D.tup [(D.str "heal"), (D.str "jump")]))))))
  (sRet (eC (D.tup [(D.str "done"), (D.str "error")])))
  sNil)
 (sRet (eVar 1))))
def g_below : List D → DM → Rs D := fnD 4 f_below
def f_law_keep : FS :=
 (sSeq (sSet 3 (eLst aNil))
 (sSeq (sFor (fun _ _ => 0) (eCall g_law_backward (aCons (eVar 0) aNil)) (gNm 4)
  (sIf (tb (e2 inD (e2 ixD (eVar 4) (eC (D.int 0))) (eVar 1)))
  (sSeq (sSet 3 (e2 addD (eLst (aCons (eVar 4) aNil)) (eVar 3)))
 (sSet 1 (eCall g_law_below (aCons (eVar 4) (aCons (eVar 1) (aCons (eVar 2) aNil))))))
  sNil))
 (sRet (eCall tupleD (aCons (eVar 3) aNil)))))
def g_law_keep : List D → DM → Rs D := fnD 5 f_law_keep
def f_keep_live : FS :=
 (sSeq (sSet 3 (eLst aNil))
 (sSeq (sForI (iRv (eCall listD (aCons (eVar 0) aNil))) (gNm 4)
  (sIf (tb (e2 inD (e2 ixD (eVar 4) (eC (D.int 0))) (eVar 1)))
  (sSeq (sExpr (eMt "list" appendD (eVar 3) (aCons (eVar 4) aNil)))
 (sSet 1 (eCall g_below (aCons (eVar 4) (aCons (eVar 1) (aCons (eVar 2) aNil))))))
  sNil))
 (sRet (eCall tupleD (aCons (e1 revLD (eVar 3)) aNil)))))
def g_keep_live : List D → DM → Rs D := fnD 5 f_keep_live
def f_law_normal (G : List D → DM → Rs D) : FS :=
 (sSeq (sSet 2 (eLst aNil))
 (sSeq (sFor (fun _ _ => 0) (eCall g_law_split (aCons (eVar 0) aNil)) (gNm 3)
  (sSeq (sSet 4 (eCall g_law_keep (aCons (eCall G (aCons (e2 ixD (eVar 3) (eC (D.int 3))) (aCons (eVar 1) aNil))) (aCons (eTup (aCons (eC (D.str "done")) aNil)) (aCons (eVar 1) aNil)))))
 (sSeq (sSet 5 (eC (D.int 0)))
 (sSeq (sForR (eCall lenD (aCons (eVar 4) aNil)) (gNm 6)
  (sIf (tAndF (tb (e2 eqD (eVar 5) (eVar 6))) (tb (e2 eqD (e2 ixD (e2 ixD (eVar 4) (eVar 6)) (eC (D.int 0))) (eC (D.str "done")))))
  (sSet 5 (e2 addD (eVar 6) (eC (D.int 1))))
  sNil))
 (sSet 2 (e2 addD (e2 addD (eVar 2) (eCall listD (aCons (eSl (eVar 4) oN (oS (eVar 5))) aNil))) (eLst (aCons (eTup (aCons (e2 ixD (eVar 3) (eC (D.int 0))) (aCons (e2 ixD (eVar 3) (eC (D.int 1))) (aCons (e2 ixD (eVar 3) (eC (D.int 2))) (aCons (eSl (eVar 4) (oS (eVar 5)) oN) aNil))))) aNil))))))))
 (sRet (eCall tupleD (aCons (eVar 2) aNil)))))
def g_law_normal : Nat → List D → DM → Rs D
  | 0 => fun _ _ => .bad
  | n + 1 => fnD 7 (f_law_normal (g_law_normal n))
def f_normal_half (G : List D → DM → Rs D) : FS :=
 (sSeq (sAsg (eVar 0) (gTupN [2, 3, 4, 5]))
 (sSeq (sSet 6 (eCall g_keep_live (aCons (eCall G (aCons (eVar 5) (aCons (eVar 1) aNil))) (aCons (eTup (aCons (eC (D.str "done")) aNil)) (aCons (eVar 1) aNil)))))
 (sSeq (sSet 7 (eC (D.int 0)))
 (sSeq (sWhile (fun _ _ => 1000) (tAndF (tb (e2 ltD (eVar 7) (eCall lenD (aCons (eVar 6) aNil)))) (tb (e2 eqD (e2 ixD (e2 ixD (eVar 6) (eVar 7)) (eC (D.int 0))) (eC (D.str "done")))))
  (sAug 7 (fun i j => i + j) (eC (D.int 1))))
 (sRet (eLstS (aStar (eSl (eVar 6) oN (oS (eVar 7))) (aCons (eTup (aCons (eVar 2) (aCons (eVar 3) (aCons (eVar 4) (aCons (eSl (eVar 6) (oS (eVar 7)) oN) aNil))))) aNil))))))))
def g_normal_half (G : List D → DM → Rs D) : List D → DM → Rs D := fnD 8 (f_normal_half G)
def f_normal (G : List D → DM → Rs D) : FS :=
 (sSeq (sSet 2 (eLst aNil))
 (sSeq (sFor (fun _ _ => 0) (eCall g_split (aCons (eVar 0) aNil)) (gNm 3)
  (sExpr (eMt "list" extendD (eVar 2) (aCons (eCall (g_normal_half G) (aCons (eVar 3) (aCons (eVar 1) aNil))) aNil))))
 (sRet (eCall tupleD (aCons (eVar 2) aNil)))))
def g_normal : Nat → List D → DM → Rs D
  | 0 => fun _ _ => .bad
  | n + 1 => fnD 4 (f_normal (g_normal n))
local macro_rules | `(tactic| walk_at "dx") => `(tactic| try simp (disch := first | decide | assumption | omega) only [sPut, sOset, sFldD, eMeth, eMake, ePr, eMt, eCh, sAug, oN, oS, eSl, eDic0, eCv, sSeq, sIf, sRet, sRetN, sNil, sSet, sExpr, sAsg, gTupN, gNms, gNm, tb, tNotF, tAndF, tOrF, eNot, eAnd, eOr, eIf, eTup, eLst, aCons, aNil, eCall, e1, e2, eVar, eC, negD, bind_ok, ro_ok, seq_nx, seq_rt, seq_ct, seq_bk, fin_rt, fin_nx, sat_ok, sat_bind, sat_fin, sat_seq, sat_ro, rsat_nx, rsat_rt, rsat_ct, rsat_bk, seqQ_nx, seqQ_rt, seqQ_ct, seqQ_bk, finQ_nx, finQ_rt, loopQ_nx, loopQ_ct, loopQ_bk, loopQ_rt, sSub, ixo0, ixo1, ixo2, ixo3, ixo4, puts1, puts2, puts3, puts4, List.map_cons, List.map_nil, List.length_cons, List.length_nil, Nat.reduceAdd, Nat.reduceSub, List.replicate_succ, List.replicate_zero, List.nil_append, List.cons_append, List.getElem?_cons_zero, List.getElem?_cons_succ, List.set_cons_zero, List.set_cons_succ, ix0, ix1, ix2, ix3, ix4, eq_ss, eq_ii, eq_bb, ne_ss, ne_ii, add_ii, sub_ii, mul_ii, mod_ii, fdiv_ii, ord_ii, isN_, isNonD, int_i, if_true, if_false, Bool.false_eq_true, Bool.true_eq_false, Bool.not_true, Bool.not_false, decide_eq_true_eq, Bool.and_true, Bool.true_and, Bool.and_false, Bool.false_and, Bool.or_true, Bool.or_false, Bool.true_or, Bool.false_or, ofString_inj, String.reduceEq, decide_true, decide_false, Int.reduceLT, Int.reduceLE, Int.reduceEq, Int.reduceNeg, Int.reduceSub, Int.reduceAdd, Int.reducePow, Int.reduceMul, true_or, or_true, false_or, or_false, true_and, and_true, false_and, and_false, not_true_eq_false, not_false_eq_true, *])

/-! ### actions as data -/
abbrev mkA (g s : Str) (a : D) (fs : List D) : D := .tup [.str g, .str s, a, .tup fs]
structure ArgOk (cs : List (Str × Int)) (d : D) : Prop where
  ex : d = .non ∨ (∃ n, d = .int n ∧ 0 ≤ n ∧ n < 1000) ∨ ∃ w s, (w = ("now" : Str) ∨ w = "late") ∧ s ∈ cs.map (·.1) ∧ d = .tup [.str w, .str s]
theorem law_argument_sat {M : DM} {l : Nat} {nk : List (Str × D)} {cs : List (Str × Int)} {n m : Nat} {Q : D → DM → Prop} (P : PoolAt M) (L : LoreAt M l nk cs) (O : LoreOk nk cs n m) (hm : m ≤ 2) (q : ∀ d M', ArgOk cs d → Drew M M' → Q d M') :
    (g_law_argument [.obj 1, .obj l, .bl true] M).sat Q := by
  obtain ⟨la, lb, lp, g0, g1, g2, g3, g4⟩ := L.ex
  have hl := L.l1
  have clen := O.clen
  unfold g_law_argument f_law_argument fnD
  walk_at "dx"
  refine law_draw_sat P (by decide) fun r M1 h1 h2 D1 => ?_
  have key : ∀ M2, Drew M M2 → ixD (.obj l) (.int 2) M2 = .ok (.obj lp) M2 ∧ lenD [.obj lp] M2 = .ok (.int cs.length) M2 := fun M2 D =>
    ⟨ixo (k := 2) ((D.get (by omega)).trans g1) rfl, by rw [len_o ((D.get (by omega)).trans g4), List.length_map]⟩
  obtain ⟨i2, l2⟩ := key M1 D1
  have non : ∀ M2, Drew M M2 → Q .non M2 := fun M2 D => q _ _ ⟨.inl rfl⟩ D
  have num : ∀ M2, Drew M M2 → (g_law_number [.obj 1] M2).sat Q := fun M2 D => law_number_sat D.at_ fun n M3 h3 h4 D3 => q _ _ ⟨.inr (.inl ⟨n, rfl, h3, h4⟩)⟩ (D.trans D3)
  have cell : 0 < cs.length → ∀ M2, Drew M M2 → ∀ k M3, 0 ≤ k → k < (cs.length : Int) → Drew M2 M3 → ∃ s z, ixD (.obj lp) (.int k) M3 = .ok (.tup [.str s, z]) M3 ∧ s ∈ cs.map (·.1) := by
    intro _ M2 D2 k M3 h3 h4 D3
    have hk : k.toNat < cs.length := by omega
    refine ⟨cs[k.toNat].1, .int cs[k.toNat].2, ?_, List.mem_map.mpr ⟨_, List.getElem_mem hk, rfl⟩⟩
    have := ixo (k := k.toNat) (a := cellD cs[k.toNat]) (((D2.trans D3).get (by omega)).trans g4) (by rw [List.getElem?_map, List.getElem?_eq_getElem hk]; rfl)
    rw [show ((k.toNat : Nat) : Int) = k by omega] at this
    exact this
  have arg : ∀ s M2, s ∈ cs.map (·.1) → Drew M M2 → ∀ w, (w = ("now" : Str) ∨ w = "late") → Q (.tup [.str w, .str s]) M2 := fun s M2 hs D w hw => q _ _ ⟨.inr (.inr ⟨w, s, hw, hs, rfl⟩)⟩ D
  clear q key
  by_cases c0 : r = 0
  · have nn := non M1 D1
    clear non num cell arg
    walk_at "dx"
  by_cases c1 : r = 1
  · by_cases hc : 0 < cs.length
    · have hc' : (0 : Int) < cs.length := by omega
      walk_at "dx"
      refine law_draw_sat D1.at_ (by decide) fun r2 M2 h3 h4 D2 => ?_
      have nn := non M2 (D1.trans D2)
      have nu := num M2 (D1.trans D2)
      clear non num cell arg
      by_cases c2 : r2 = 0
      · walk_at "dx"
      · walk_at "dx"
    · have hc' : ¬ (0 : Int) < cs.length := by omega
      have nn := num M1 D1
      clear non num cell arg
      walk_at "dx"
  · by_cases hc : 0 < cs.length
    · have hc' : ¬ (cs.length : Int) = 0 := by omega
      have cell := cell hc M1 D1
      clear non num
      walk_at "dx"
      refine law_draw_sat D1.at_ (by omega) fun k M2 h3 h4 D2 => ?_
      obtain ⟨s, z, i3, hs⟩ := cell k M2 h3 h4 D2
      clear cell
      walk_at "dx"
      refine law_draw_sat D2.at_ (by decide) fun k M3 h5 h6 D3 => ?_
      have a1 := arg s M3 hs ((D1.trans D2).trans D3) "now" (.inl rfl)
      have a2 := arg s M3 hs ((D1.trans D2).trans D3) "late" (.inr rfl)
      clear arg
      by_cases hk : 0 < k
      · walk_at "dx"
      · walk_at "dx"
    · have hc' : (cs.length : Int) = 0 := by omega
      have nn := num M1 D1
      clear non num cell arg
      walk_at "dx"
def GuardOk (g : Str) : Prop := g = "done" ∨ g = "error" ∨ g = "always"
def ActOk (nk : List (Str × D)) (cs : List (Str × Int)) : Nat → D → Prop
  | 0, _ => False
  | n + 1, d => ∃ g s a fs, d = mkA g s a fs ∧ GuardOk g ∧ s ∈ nk.map (·.1) ∧ ArgOk cs a ∧ (∀ f ∈ fs, ActOk nk cs n f) ∧ fs.length ≤ 3 ∧ (g = "error" → fs = [])
theorem step_draw {M : DM} {l : Nat} {nk : List (Str × D)} {cs : List (Str × Int)} {n m : Nat} (L : LoreAt M l nk cs) (O : LoreOk nk cs n m) : ∃ la, ixD (.obj l) (.int 0) M = .ok (.obj la) M ∧ lenD [.obj la] M = .ok (.int nk.length) M ∧ 1 < la ∧ M[la]? = some (.lst (nk.map fun q => .str q.1)) := by
  obtain ⟨la, lb, lp, g0, g1, g2, g3, g4⟩ := L.ex
  exact ⟨la, ixo (k := 0) g1 rfl, by rw [len_o g2, List.length_map], g0.1, g2⟩
theorem step_ix {M : DM} {la : Nat} {nk : List (Str × D)} {k : Int} (h : M[la]? = some (.lst (nk.map fun q => .str q.1))) (h1 : 0 ≤ k) (h2 : k < (nk.length : Int)) : ∃ s, ixD (.obj la) (.int k) M = .ok (.str s) M ∧ s ∈ nk.map (·.1) := by
  have hk : k.toNat < nk.length := by omega
  refine ⟨nk[k.toNat].1, ?_, List.mem_map.mpr ⟨_, List.getElem_mem hk, rfl⟩⟩
  have := ixo (k := k.toNat) (a := D.str nk[k.toNat].1) h (by rw [List.getElem?_map, List.getElem?_eq_getElem hk]; rfl)
  rw [show ((k.toNat : Nat) : Int) = k by omega] at this
  exact this
theorem add_tt {xs ys : List D} {M : DM} (h : xs.length + ys.length ≤ 10000) : addD (.tup xs) (.tup ys) M = .ok (.tup (xs ++ ys)) M := by
  have hl : xs.length + ys.length ≤ sizeLine := by rw [sizeLine_eq]; omega
  simp only [addD, hl, if_true]
/-- for k in range(n): further = further + (action(..),) -/
theorem acts_loop {M : DM} {n : Int} {Pd : D → Prop} {call : FE} {v i : Nat} {base : Option D → List D → DSt} {R : Ro → Prop} (P : PoolAt M) (hn : 0 ≤ n ∧ n ≤ 100)
    (hbase : ∀ o w x, (base o w).set i (some x) = base (some x) w) (hget : ∀ o w, (base o w)[v]? = some (some (.tup w))) (hset : ∀ o w w', (base o w).set v (some (.tup w')) = base o w')
    (hc : ∀ o w M', Grew M M' → (call (base o w) M').sat fun d M2 => Pd d ∧ Grew M M2)
    (fin : ∀ o w M', (∀ d ∈ w, Pd d) → w.length = n.toNat → Grew M M' → R (.nx (base o w) M')) (o : Option D) :
    (sForR (eC (.int n)) (gNm i) (sSet v (e2 addD (eVar v) (eTup (aCons call aNil)))) (base o []) M).sat R := by
  refine sforR_sat (n := n) rfl (lim_of (by omega)) (fun j δ M' => ∃ o w, δ = base o w ∧ (∀ d ∈ w, Pd d) ∧ w.length = j ∧ Grew M M') ⟨o, [], rfl, by simp, rfl, .refl P⟩ ?_ ?_
  · rintro j δ M1 hj ⟨o, w, rfl, hw, hl, G⟩
    refine ⟨_, _, rfl, ?_⟩
    rw [hbase]
    obtain ⟨d, M2, e, hd, G2⟩ := sat_get (hc (some (.int j)) w M1 G)
    have ad := add_tt (xs := w) (ys := [d]) (M := M2) (by rw [hl]; simp only [List.length_cons, List.length_nil]; omega)
    simp only [sSet, e2, eVar, hget, eTup, aCons, aNil, bind_ok, e, ad, ro_ok, rsat_nx, loopQ_nx, hset]
    refine ⟨_, w ++ [d], rfl, fun x hx => ?_, by rw [List.length_append, hl]; rfl, G2⟩
    rcases List.mem_append.mp hx with z | z
    · exact hw x z
    · rw [List.mem_singleton.mp z]; exact hd
  · rintro δ M1 ⟨o, w, rfl, hw, hl, G⟩
    exact fin o w M1 hw hl G
theorem law_action_sat {l : Nat} {nk : List (Str × D)} {cs : List (Str × Int)} {n m : Nat} (O : LoreOk nk cs n m) (hn : n ≤ 12) (hm : m ≤ 2) : ∀ (t fuel : Nat) {M : DM} {dep : Int} {Q : D → DM → Prop}, t ≤ 2 → t + 1 ≤ fuel → dep = 2 - (t : Int) → PoolAt M → LoreAt M l nk cs →
    (∀ d M', ActOk nk cs (t + 1) d → Grew M M' → Q d M') → (g_law_action fuel [.obj 1, .obj l, .int dep] M).sat Q := by
  intro t
  induction t with
  | zero =>
    intro fuel M dep Q _ hf hdep P L q
    obtain ⟨f, rfl⟩ : ∃ f, fuel = f + 1 := ⟨fuel - 1, by omega⟩
    show Rs.sat (fnD 8 (f_law_action (g_law_action f)) [.obj 1, .obj l, .int dep] M) Q
    have G0 : Grew M (M ++ [.lst [.str "done", .str "error", .str "always"]]) := (Grew.refl P).app _
    have gn : (M ++ [.lst [.str "done", .str "error", .str "always"]])[M.length]? = some (.lst [.str "done", .str "error", .str "always"]) := get_new
    have two := P.two
    have nlen := O.len
    unfold f_law_action fnD
    generalize g_law_action f = G at *
    have hd : ¬ dep < 2 := by omega
    clear hdep
    walk_at "dx"
    generalize (M ++ [.lst [.str "done", .str "error", .str "always"]]) = M0 at *
    refine law_draw_sat G0.pool (by decide) fun r M1 h1 h2 D1 => ?_
    obtain ⟨g, hg, hi⟩ : ∃ g, GuardOk g ∧ ixD (.obj M.length) (.int r) M1 = .ok (.str g) M1 := by
      have gn1 := (D1.get (by omega)).trans gn
      have : r = 0 ∨ r = 1 ∨ r = 2 := by omega
      rcases this with rfl | rfl | rfl
      · exact ⟨_, .inl rfl, ixo (k := 0) gn1 rfl⟩
      · exact ⟨_, .inr (.inl rfl), ixo (k := 1) gn1 rfl⟩
      · exact ⟨_, .inr (.inr rfl), ixo (k := 2) gn1 rfl⟩
    have G1 := G0.trans D1.grew
    obtain ⟨la, i0, l0, hla, gla⟩ := step_draw (L.grew G1) O
    have npos := O.pos
    clear G0 gn D1 h1 h2
    walk_at "dx"
    refine law_draw_sat G1.pool (by omega) fun k M2 h3 h4 D2 => ?_
    obtain ⟨s, i3, hs⟩ := step_ix ((D2.get (by omega)).trans gla) h3 h4
    have G2 := G1.trans D2.grew
    walk_at "dx"
    refine law_argument_sat G2.pool (L.grew G2) O hm fun a M3 ha D3 => ?_
    have fin := q (mkA g s a []) M3 ⟨g, s, a, [], rfl, hg, hs, ha, by simp, by simp, fun _ => rfl⟩ (G2.trans D3.grew)
    clear q
    by_cases he : g = ("error" : Str)
    · rw [he] at fin
      walk_at "dx"
    · walk_at "dx"
  | succ t ih =>
    intro fuel M dep Q ht hf hdep P L q
    obtain ⟨f, rfl⟩ : ∃ f, fuel = f + 1 := ⟨fuel - 1, by omega⟩
    show Rs.sat (fnD 8 (f_law_action (g_law_action f)) [.obj 1, .obj l, .int dep] M) Q
    have G0 : Grew M (M ++ [.lst [.str "done", .str "error", .str "always"]]) := (Grew.refl P).app _
    have gn : (M ++ [.lst [.str "done", .str "error", .str "always"]])[M.length]? = some (.lst [.str "done", .str "error", .str "always"]) := get_new
    have two := P.two
    have nlen := O.len
    unfold f_law_action fnD
    have ihf := fun {M : DM} {Q : D → DM → Prop} => ih f (M := M) (dep := dep + 1) (Q := Q) (by omega) (by omega) (by omega)
    clear ih
    generalize g_law_action f = G at *
    have hd : dep < 2 := by omega
    have hd0 : 0 ≤ dep := by omega
    clear hdep ht hf
    walk_at "dx"
    generalize (M ++ [.lst [.str "done", .str "error", .str "always"]]) = M0 at *
    refine law_draw_sat G0.pool (by decide) fun r M1 h1 h2 D1 => ?_
    obtain ⟨g, hg, hi⟩ : ∃ g, GuardOk g ∧ ixD (.obj M.length) (.int r) M1 = .ok (.str g) M1 := by
      have gn1 := (D1.get (by omega)).trans gn
      have : r = 0 ∨ r = 1 ∨ r = 2 := by omega
      rcases this with rfl | rfl | rfl
      · exact ⟨_, .inl rfl, ixo (k := 0) gn1 rfl⟩
      · exact ⟨_, .inr (.inl rfl), ixo (k := 1) gn1 rfl⟩
      · exact ⟨_, .inr (.inr rfl), ixo (k := 2) gn1 rfl⟩
    have G1 := G0.trans D1.grew
    obtain ⟨la, i0, l0, hla, gla⟩ := step_draw (L.grew G1) O
    have npos := O.pos
    clear G0 gn D1 h1 h2
    walk_at "dx"
    refine law_draw_sat G1.pool (by omega) fun k M2 h3 h4 D2 => ?_
    obtain ⟨s, i3, hs⟩ := step_ix ((D2.get (by omega)).trans gla) h3 h4
    have G2 := G1.trans D2.grew
    walk_at "dx"
    refine law_argument_sat G2.pool (L.grew G2) O hm fun a M3 ha D3 => ?_
    have G3 := G2.trans D3.grew
    have fin := fun fs M4 (hf : ∀ f ∈ fs, ActOk nk cs (t + 1) f) (hz : fs.length ≤ 3) (hge : g = "error" → fs = []) (G4 : Grew M M4) => q (mkA g s a fs) M4 ⟨g, s, a, fs, rfl, hg, hs, ha, hf, hz, hge⟩ G4
    have fin0 := fin [] M3 (by simp) (by simp) (fun _ => rfl) G3
    clear q i0 l0 gla i3 hi hg hs ha
    by_cases he : g = ("error" : Str)
    · clear fin
      rw [he] at fin0
      walk_at "dx"
    · walk_at "dx"
      refine law_draw_sat G3.pool (by decide) fun r2 M4 h5 h6 D4 => ?_
      have G4 := G3.trans D4.grew
      by_cases h7 : r2 = 2
      · clear fin0
        walk_at "dx"
        refine sforR_of ?_
        walk_at "dx"
        refine law_draw_sat G4.pool (by omega) fun r3 M5 h8 h9 D5 => ?_
        have G5 := G4.trans D5.grew
        walk_at "dx"
        refine ⟨1 + r3, rfl, ?_⟩
        refine acts_loop (Pd := ActOk nk cs (t + 1)) (base := fun o w => [some (.obj 1), some (.obj l), some (.int dep), some (.str g), some (.str s), some a, some (.tup w), o]) G5.pool (by omega) (fun _ _ _ => rfl) (fun _ _ => rfl) (fun _ _ _ => rfl) ?_ ?_ none
        · intro o w M6 G6
          simp only [eCall, aCons, aNil, eVar, e2, eC, List.getElem?_cons_zero, List.getElem?_cons_succ, bind_ok, add_ii]
          exact ihf G6.pool (L.grew (G5.trans G6)) fun d M7 hd G7 => ⟨hd, G6.trans G7⟩
        · intro o w M6 hw hl G6
          have fin1 := fin w M6 hw (by omega) (fun z => absurd z he) (G5.trans G6)
          clear fin
          walk_at "dx"
      · have fin1 := fin [] M4 (by simp) (by simp) (fun _ => rfl) G4
        clear fin fin0
        walk_at "dx"
end DL

set_option Elab.async false
set_option linter.all false
set_option maxRecDepth 100000
set_option maxHeartbeats 4000000
namespace DL
open PySem PySem.Spec L2
open PyProof.Rows hiding St
/-! ### halves, keeping, the normal form: on the data alone -/
def grd : D → Str
  | .tup (.str g :: _) => g
  | _ => ""
def stp : D → Str
  | .tup (_ :: .str s :: _) => s
  | _ => ""
def fur : D → List D
  | .tup [_, _, _, .tup fs] => fs
  | _ => []
def setFur (d : D) (fs : List D) : D := match d with
  | .tup [g, s, a, _] => .tup [g, s, a, .tup fs]
  | d => d
def halvesP (d : D) : List D := match d with
  | .tup [.str g, s, a, f] => if g = "always" then [.tup [.str "done", s, a, f], .tup [.str "error", s, a, .tup []]] else [.tup [.str g, s, a, f]]
  | _ => []
def ending (nk : List (Str × D)) (s : Str) : Bool := match nk.lookup s with
  | some (.tup (.str w :: _)) => decide (w = "heal" ∨ w = "jump")
  | _ => false
def belowP (nk : List (Str × D)) (h : D) (sts : List Str) : List Str := if grd h ∈ sts ∧ (grd h = "done" ∨ ending nk (stp h) = true) then ["done", "error"] else sts
def keepR (nk : List (Str × D)) : List Str → List D → List D
  | _, [] => []
  | sts, h :: r => if grd h ∈ sts then h :: keepR nk (belowP nk h sts) r else keepR nk sts r
def keepP (nk : List (Str × D)) (sts : List Str) (w : List D) : List D := (keepR nk sts w.reverse).reverse
def isDn (d : D) : Bool := decide (grd d = "done")
def normHalf (nk : List (Str × D)) (N : List D → List D) (h : D) : List D := (keepP nk ["done"] (N (fur h))).takeWhile isDn ++ [setFur h ((keepP nk ["done"] (N (fur h))).dropWhile isDn)]
def normP (nk : List (Str × D)) : Nat → List D → List D
  | 0, _ => []
  | n + 1, w => (w.flatMap halvesP).flatMap (normHalf nk (normP nk n))
/-- a half: its guard is done or error -/
def HalfG (d : D) : Prop := grd d = "done" ∨ grd d = "error"
/-- of the halves: from the end, behind the last done one -/
theorem keepR_both {nk : List (Str × D)} : ∀ {r : List D}, (∀ h ∈ r, HalfG h) → keepR nk ["done", "error"] r = r
  | [], _ => rfl
  | h :: r, hr => by
    have hh := hr h (List.mem_cons_self ..)
    have hm : grd h ∈ (["done", "error"] : List Str) := by rcases hh with e | e <;> simp [e]
    have hb : belowP nk h ["done", "error"] = (["done", "error"] : List Str) := by unfold belowP; split <;> rfl
    rw [keepR, if_pos hm, hb, keepR_both fun x hx => hr x (List.mem_cons_of_mem _ hx)]
theorem keepR_done {nk : List (Str × D)} : ∀ {r : List D}, (∀ h ∈ r, HalfG h) → keepR nk ["done"] r = r.dropWhile fun d => !isDn d
  | [], _ => rfl
  | h :: r, hr => by
    have ih := keepR_done (nk := nk) (r := r) fun x hx => hr x (List.mem_cons_of_mem _ hx)
    by_cases e : grd h = "done"
    · have hm : grd h ∈ (["done"] : List Str) := by simp [e]
      have hb : belowP nk h ["done"] = (["done", "error"] : List Str) := by unfold belowP; rw [if_pos ⟨hm, .inl e⟩]
      rw [keepR, if_pos hm, hb, keepR_both fun x hx => hr x (List.mem_cons_of_mem _ hx), List.dropWhile_cons_of_neg (by simp [isDn, e])]
    · have hm : ¬ grd h ∈ (["done"] : List Str) := by simp [e]
      rw [keepR, if_neg hm, ih, List.dropWhile_cons_of_pos (by simp [isDn, e])]
/-- what is kept is kept -/
theorem keepR_mem {nk : List (Str × D)} : ∀ {sts : List Str} {r : List D} {d : D}, d ∈ keepR nk sts r → d ∈ r
  | _, [], _, h => by cases h
  | sts, x :: r, d, h => by
    rw [keepR] at h
    split at h
    · rcases List.mem_cons.mp h with e | h
      · rw [e]; exact List.mem_cons_self ..
      · exact List.mem_cons_of_mem _ (keepR_mem h)
    · exact List.mem_cons_of_mem _ (keepR_mem h)
theorem keepP_mem {nk : List (Str × D)} {sts : List Str} {w : List D} {d : D} (h : d ∈ keepP nk sts w) : d ∈ w := by
  unfold keepP at h
  exact List.mem_reverse.mp (keepR_mem (List.mem_reverse.mp h))
theorem keepR_idem {nk : List (Str × D)} : ∀ {sts : List Str} {r : List D}, keepR nk sts (keepR nk sts r) = keepR nk sts r
  | _, [] => rfl
  | sts, x :: r => by
    rw [keepR]
    split
    · rename_i h
      rw [keepR, if_pos h, keepR_idem]
    · exact keepR_idem
theorem keepP_idem {nk : List (Str × D)} {sts : List Str} {w : List D} : keepP nk sts (keepP nk sts w) = keepP nk sts w := by
  unfold keepP
  rw [List.reverse_reverse, keepR_idem]
theorem keepR_len {nk : List (Str × D)} : ∀ {sts : List Str} {r : List D}, (keepR nk sts r).length ≤ r.length
  | _, [] => Nat.le_refl _
  | sts, x :: r => by
    rw [keepR]
    split
    · rw [List.length_cons, List.length_cons]
      have := keepR_len (nk := nk) (sts := belowP nk x sts) (r := r)
      omega
    · rw [List.length_cons]
      have := keepR_len (nk := nk) (sts := sts) (r := r)
      omega
theorem keepP_len {nk : List (Str × D)} {sts : List Str} {w : List D} : (keepP nk sts w).length ≤ w.length := by
  unfold keepP
  rw [List.length_reverse]
  have := keepR_len (nk := nk) (sts := sts) (r := w.reverse)
  rw [List.length_reverse] at this
  exact this
/-- a normal half, n levels deep -/
def NormA (nk : List (Str × D)) (cs : List (Str × Int)) : Nat → D → Prop
  | 0, _ => False
  | n + 1, d => ∃ g s a fs, d = mkA g s a fs ∧ (g = "done" ∨ g = "error") ∧ s ∈ nk.map (·.1) ∧ ArgOk cs a ∧ (∀ f ∈ fs, NormA nk cs n f) ∧ fs.takeWhile isDn = [] ∧ keepP nk ["done"] fs = fs ∧ fs.length ≤ 900
theorem NormA.half {nk : List (Str × D)} {cs : List (Str × Int)} : ∀ {n : Nat} {d : D}, NormA nk cs n d → HalfG d
  | 0, d, h => h.elim
  | n + 1, d, ⟨g, s, a, fs, e, hg, _⟩ => by rw [e]; exact hg
theorem NormA.succ {nk : List (Str × D)} {cs : List (Str × Int)} : ∀ {n : Nat} {d : D}, NormA nk cs n d → NormA nk cs (n + 1) d
  | 0, d, h => h.elim
  | n + 1, d, ⟨g, s, a, fs, e, h1, h2, h3, h4, h5⟩ => ⟨g, s, a, fs, e, h1, h2, h3, fun f hf => NormA.succ (h4 f hf), h5⟩
theorem NormA.mono {nk : List (Str × D)} {cs : List (Str × Int)} {n m : Nat} {d : D} (h : NormA nk cs n d) (hm : n ≤ m) : NormA nk cs m d := by
  induction hm with
  | refl => exact h
  | step _ ih => exact ih.succ
/-- a normal form is its own -/
theorem norm_id {nk : List (Str × D)} {cs : List (Str × Int)} : ∀ {n m : Nat} {w : List D}, (∀ d ∈ w, NormA nk cs n d) → n ≤ m → 0 < m → normP nk m w = w
  | 0, m + 1, w, h, _, _ => by
    cases w with
    | nil => rfl
    | cons d w => exact (h d (List.mem_cons_self ..)).elim
  | n + 1, m + 1, w, h, hm, _ => by
    show (w.flatMap halvesP).flatMap (normHalf nk (normP nk m)) = w
    have one : ∀ d ∈ w, halvesP d = [d] ∧ normHalf nk (normP nk m) d = [d] := fun d hd => by
      obtain ⟨g, s, a, fs, rfl, hg, _, _, hf, ht, hk, _⟩ := h d hd
      have hne : ¬ g = ("always" : Str) := by rcases hg with e | e <;> rw [e] <;> decide
      refine ⟨by simp [halvesP, hne], ?_⟩
      have hN : normP nk m fs = fs := by
        cases m with
        | zero =>
          cases n with
          | zero =>
            cases fs with
            | nil => rfl
            | cons x fs => exact (hf x (List.mem_cons_self ..)).elim
          | succ n => omega
        | succ m => exact norm_id hf (by omega) (by omega)
      have hd : fs.dropWhile isDn = fs := by
        cases fs with
        | nil => rfl
        | cons x fs =>
          by_cases e : isDn x = true
          · rw [List.takeWhile_cons_of_pos e] at ht; cases ht
          · rw [List.dropWhile_cons_of_neg e]
      show (keepP nk ["done"] (normP nk m fs)).takeWhile isDn ++ [setFur (mkA g s a fs) ((keepP nk ["done"] (normP nk m fs)).dropWhile isDn)] = [mkA g s a fs]
      rw [hN, hk, ht, hd]
      rfl
    clear h
    induction w with
    | nil => rfl
    | cons d w ih =>
      obtain ⟨h1, h2⟩ := one d (List.mem_cons_self ..)
      rw [List.flatMap_cons, h1, List.flatMap_append, List.flatMap_cons, List.flatMap_nil, List.append_nil, h2, ih fun x hx => one x (List.mem_cons_of_mem _ hx)]
      rfl
theorem mem_takeW {α : Type} {p : α → Bool} {l : List α} {x : α} (h : x ∈ l.takeWhile p) : x ∈ l := (List.takeWhile_sublist p).mem h
theorem mem_dropW {α : Type} {p : α → Bool} {l : List α} {x : α} (h : x ∈ l.dropWhile p) : x ∈ l := (List.dropWhile_sublist p).mem h
theorem take_drop {α : Type} {p : α → Bool} : ∀ l : List α, (l.dropWhile p).takeWhile p = []
  | [] => rfl
  | x :: l => by
    by_cases e : p x = true
    · rw [List.dropWhile_cons_of_pos e]; exact take_drop l
    · rw [List.dropWhile_cons_of_neg e, List.takeWhile_cons_of_neg e]
/-- dropping at the end leaves what stays at the end -/
theorem drop_end {α : Type} {p q : α → Bool} (l : List α) (h : (l.reverse.dropWhile q) = l.reverse) : ((l.dropWhile p).reverse.dropWhile q) = (l.dropWhile p).reverse := by
  induction l with
  | nil => rfl
  | cons x l ih =>
    by_cases e : p x = true
    · rw [List.dropWhile_cons_of_pos e]
      refine ih ?_
      rw [List.reverse_cons] at h
      cases hr : l.reverse with
      | nil => rfl
      | cons y r =>
        rw [hr, List.cons_append] at h
        by_cases hy : q y = true
        · rw [List.dropWhile_cons_of_pos hy] at h
          have := congrArg List.length h
          have hle := (List.dropWhile_sublist q (l := r ++ [x])).length_le
          rw [List.length_cons] at this
          omega
        · rw [List.dropWhile_cons_of_neg hy]
    · rw [List.dropWhile_cons_of_neg e]
      exact h
theorem keepP_done {nk : List (Str × D)} {w : List D} (h : ∀ d ∈ w, HalfG d) : keepP nk ["done"] w = (w.reverse.dropWhile fun d => !isDn d).reverse := by
  unfold keepP
  rw [keepR_done fun x hx => h x (List.mem_reverse.mp hx)]
/-- how long a normal form may be -/
def normB : Nat → Nat
  | 0 => 0
  | n + 1 => 6 * (normB n + 1)
theorem flat_len {α β : Type} {f : α → List β} {b : Nat} : ∀ {l : List α}, (∀ x ∈ l, (f x).length ≤ b) → (l.flatMap f).length ≤ l.length * b
  | [], _ => by simp
  | x :: l, h => by
    rw [List.flatMap_cons, List.length_append, List.length_cons, Nat.succ_mul]
    have h1 := h x (List.mem_cons_self ..)
    have h2 := flat_len (l := l) fun y hy => h y (List.mem_cons_of_mem _ hy)
    omega
theorem halves_len {d : D} : (halvesP d).length ≤ 2 := by
  unfold halvesP
  split
  · split <;> simp
  · simp
/-- what the halves of an action are -/
theorem act_half {nk : List (Str × D)} {cs : List (Str × Int)} {n : Nat} {d h : D} (hd : ActOk nk cs (n + 1) d) (hh : h ∈ halvesP d) : ∃ g s a fs, h = mkA g s a fs ∧ (g = "done" ∨ g = "error") ∧ s ∈ nk.map (·.1) ∧ ArgOk cs a ∧ (∀ f ∈ fs, ActOk nk cs n f) ∧ fs.length ≤ 3 ∧ (g = "error" → fs = []) := by
  obtain ⟨g, s, a, fs, rfl, hg, hs, ha, hf, hz, he⟩ := hd
  by_cases e : g = ("always" : Str)
  · simp only [halvesP, e, if_true, List.mem_cons, List.not_mem_nil, or_false] at hh
    rcases hh with rfl | rfl
    · exact ⟨_, s, a, fs, rfl, .inl rfl, hs, ha, hf, hz, fun z => absurd z (by decide +kernel)⟩
    · exact ⟨_, s, a, [], rfl, .inr rfl, hs, ha, by simp, by simp, fun _ => rfl⟩
  · simp only [halvesP, e, if_false, List.mem_cons, List.not_mem_nil, or_false] at hh
    subst hh
    refine ⟨g, s, a, fs, rfl, ?_, hs, ha, hf, hz, he⟩
    rcases hg with z | z | z
    · exact .inl z
    · exact .inr z
    · exact absurd z e
theorem norm_ok {nk : List (Str × D)} {cs : List (Str × Int)} : ∀ {n m : Nat} {w : List D}, n ≤ 3 → (∀ d ∈ w, ActOk nk cs n d) → n ≤ m → (∀ d ∈ normP nk m w, NormA nk cs n d) ∧ (normP nk m w).length ≤ w.length * (2 * (normB (n - 1) + 1))
  | 0, m, w, _, h, _ => by
    cases w with
    | nil =>
      have e : normP nk m [] = [] := by cases m <;> rfl
      rw [e]
      exact ⟨fun d hd => (nomatch hd), by simp⟩
    | cons d w => exact (h d (List.mem_cons_self ..)).elim
  | n + 1, m + 1, w, hn, h, hm => by
    have inner : ∀ fs : List D, (∀ f ∈ fs, ActOk nk cs n f) → fs.length ≤ 3 → (∀ d ∈ keepP nk ["done"] (normP nk m fs), NormA nk cs n d) ∧ (keepP nk ["done"] (normP nk m fs)).length ≤ normB n := fun fs hf hz => by
      obtain ⟨h1, h2⟩ := norm_ok (m := m) (by omega) hf (by omega)
      refine ⟨fun d hd => h1 d (keepP_mem hd), Nat.le_trans keepP_len (Nat.le_trans h2 ?_)⟩
      cases n with
      | zero =>
        cases fs with
        | nil => simp
        | cons x fs => exact (hf x (List.mem_cons_self ..)).elim
      | succ n =>
        show fs.length * (2 * (normB n + 1)) ≤ 6 * (normB n + 1)
        have : fs.length * (2 * (normB n + 1)) ≤ 3 * (2 * (normB n + 1)) := Nat.mul_le_mul_right _ hz
        omega
    have hB : normB n ≤ 258 := by
      have : n = 0 ∨ n = 1 ∨ n = 2 := by omega
      rcases this with rfl | rfl | rfl <;> decide
    have half : ∀ x ∈ w.flatMap halvesP, (∀ d ∈ normHalf nk (normP nk m) x, NormA nk cs (n + 1) d) ∧ (normHalf nk (normP nk m) x).length ≤ normB n + 1 := fun x hx => by
      obtain ⟨d, hd, hx⟩ := List.mem_flatMap.mp hx
      obtain ⟨g, s, a, fs, rfl, hg, hs, ha, hf, hz, _⟩ := act_half (h d hd) hx
      obtain ⟨h1, h2⟩ := inner fs hf hz
      have hh : ∀ d ∈ normP nk m fs, HalfG d := fun d hd => by
        obtain ⟨h3, _⟩ := norm_ok (m := m) (by omega) hf (by omega)
        exact (h3 d hd).half
      have kk : keepP nk ["done"] ((keepP nk ["done"] (normP nk m fs)).dropWhile isDn) = (keepP nk ["done"] (normP nk m fs)).dropWhile isDn := by
        rw [keepP_done fun d hd => (h1 d (mem_dropW hd)).half]
        rw [drop_end]
        · rw [List.reverse_reverse]
        · rw [keepP_done hh, List.reverse_reverse]
          exact dropW_idem _
      have e : normHalf nk (normP nk m) (mkA g s a fs) = (keepP nk ["done"] (normP nk m fs)).takeWhile isDn ++ [mkA g s a ((keepP nk ["done"] (normP nk m fs)).dropWhile isDn)] := rfl
      rw [e]
      refine ⟨fun y hy => ?_, ?_⟩
      · rcases List.mem_append.mp hy with z | z
        · exact (h1 y (mem_takeW z)).succ
        · rw [List.mem_singleton.mp z]
          refine ⟨g, s, a, _, rfl, hg, hs, ha, fun f hf => h1 f (mem_dropW hf), take_drop _, kk, ?_⟩
          have := (List.dropWhile_sublist isDn (l := keepP nk ["done"] (normP nk m fs))).length_le
          omega
      · rw [List.length_append, List.length_singleton]
        have := (List.takeWhile_sublist isDn (l := keepP nk ["done"] (normP nk m fs))).length_le
        omega
    refine ⟨fun d hd => ?_, ?_⟩
    · obtain ⟨x, hx, hd⟩ := List.mem_flatMap.mp hd
      exact (half x hx).1 d hd
    · have a1 : (w.flatMap halvesP).length ≤ w.length * 2 := flat_len fun x _ => halves_len
      have a2 : ((w.flatMap halvesP).flatMap (normHalf nk (normP nk m))).length ≤ (w.flatMap halvesP).length * (normB n + 1) := flat_len fun x hx => (half x hx).2
      show ((w.flatMap halvesP).flatMap (normHalf nk (normP nk m))).length ≤ w.length * (2 * (normB n + 1))
      have a3 : (w.flatMap halvesP).length * (normB n + 1) ≤ (w.length * 2) * (normB n + 1) := Nat.mul_le_mul_right _ a1
      rw [← Nat.mul_assoc]
      omega
where
  dropW_idem {α : Type} {q : α → Bool} : ∀ l : List α, (l.dropWhile q).dropWhile q = l.dropWhile q
    | [] => rfl
    | x :: l => by
      by_cases e : q x = true
      · rw [List.dropWhile_cons_of_pos e]; exact dropW_idem l
      · rw [List.dropWhile_cons_of_neg e, List.dropWhile_cons_of_neg e]
end DL

set_option Elab.async false
set_option linter.all false
set_option maxRecDepth 100000
set_option maxHeartbeats 4000000
namespace DL
open PySem PySem.Spec L2
open PyProof.Rows hiding St
local macro_rules | `(tactic| walk_at "dx") => `(tactic| try simp (disch := first | decide | assumption | omega) only [sPut, sOset, sFldD, eMeth, eMake, ePr, eMt, eCh, sAug, oN, oS, eSl, eDic0, eCv, sSeq, sIf, sRet, sRetN, sNil, sSet, sExpr, sAsg, gTupN, gNms, gNm, tb, tNotF, tAndF, tOrF, eNot, eAnd, eOr, eIf, eTup, eLst, aCons, aNil, eCall, e1, e2, eVar, eC, negD, bind_ok, ro_ok, seq_nx, seq_rt, seq_ct, seq_bk, fin_rt, fin_nx, sat_ok, sat_bind, sat_fin, sat_seq, sat_ro, rsat_nx, rsat_rt, rsat_ct, rsat_bk, seqQ_nx, seqQ_rt, seqQ_ct, seqQ_bk, finQ_nx, finQ_rt, loopQ_nx, loopQ_ct, loopQ_bk, loopQ_rt, sSub, ixo0, ixo1, ixo2, ixo3, ixo4, puts1, puts2, puts3, puts4, List.map_cons, List.map_nil, List.length_cons, List.length_nil, Nat.reduceAdd, Nat.reduceSub, List.replicate_succ, List.replicate_zero, List.nil_append, List.cons_append, List.getElem?_cons_zero, List.getElem?_cons_succ, List.set_cons_zero, List.set_cons_succ, ix0, ix1, ix2, ix3, ix4, eq_ss, eq_ii, eq_bb, ne_ss, ne_ii, add_ii, sub_ii, mul_ii, mod_ii, fdiv_ii, ord_ii, isN_, isNonD, int_i, if_true, if_false, Bool.false_eq_true, Bool.true_eq_false, Bool.not_true, Bool.not_false, decide_eq_true_eq, Bool.and_true, Bool.true_and, Bool.and_false, Bool.false_and, Bool.or_true, Bool.or_false, Bool.true_or, Bool.false_or, ofString_inj, String.reduceEq, decide_true, decide_false, Int.reduceLT, Int.reduceLE, Int.reduceEq, Int.reduceNeg, Int.reduceSub, Int.reduceAdd, Int.reducePow, Int.reduceMul, true_or, or_true, false_or, or_false, true_and, and_true, false_and, and_false, not_true_eq_false, not_false_eq_true, *])

/-- an action's shape -/
def IsA (d : D) : Prop := ∃ g s a fs, d = mkA g s a fs
theorem ActOk.isA {nk : List (Str × D)} {cs : List (Str × Int)} : ∀ {n : Nat} {d : D}, ActOk nk cs n d → IsA d
  | 0, d, h => h.elim
  | n + 1, d, ⟨g, s, a, fs, e, _⟩ => ⟨g, s, a, fs, e⟩
theorem NormA.isA {nk : List (Str × D)} {cs : List (Str × Int)} : ∀ {n : Nat} {d : D}, NormA nk cs n d → IsA d
  | 0, d, h => h.elim
  | n + 1, d, ⟨g, s, a, fs, e, _⟩ => ⟨g, s, a, fs, e⟩
theorem halves_eq {M : DM} {d : D} (h : IsA d) : g_halves [d] M = .ok (.tup (halvesP d)) M := by
  obtain ⟨g, s, a, fs, rfl⟩ := h
  unfold g_halves f_halves fnD
  by_cases e : g = ("always" : Str)
  · have p : halvesP (mkA g s a fs) = [.tup [.str "done", .str s, a, .tup fs], .tup [.str "error", .str s, a, .tup []]] := by simp only [halvesP, e, if_true]
    rw [p]
    rw [e]
    walk_at "dx"
  · have p : halvesP (mkA g s a fs) = [mkA g s a fs] := by simp only [halvesP, e, if_false]
    rw [p]
    walk_at "dx"
theorem law_halves_eq {M : DM} {d : D} (h : IsA d) : g_law_halves [d] M = .ok (.obj M.length) (M ++ [.lst (halvesP d)]) := by
  obtain ⟨g, s, a, fs, rfl⟩ := h
  unfold g_law_halves f_law_halves fnD
  by_cases e : g = ("always" : Str)
  · have p : halvesP (mkA g s a fs) = [.tup [.str "done", .str s, a, .tup fs], .tup [.str "error", .str s, a, .tup []]] := by simp only [halvesP, e, if_true]
    rw [p]
    rw [e]
    walk_at "dx"
  · have p : halvesP (mkA g s a fs) = [mkA g s a fs] := by simp only [halvesP, e, if_false]
    rw [p]
    walk_at "dx"
/-- for x in a tuple or list that stands -/
theorem sforK_sat {fu : DSt → DM → Nat} {f : FE} {g : FG} {body : FS} {δ : DSt} {M M' : DM} {x : D} (ds : List D) {R : Ro → Prop} (h : f δ M = .ok x M') (hx : itemsD x M' = some ds) (J : Nat → DSt → DM → Prop) (hK : ∀ i δ M, J i δ M → itemsD x M = some ds) (h0 : J 0 δ M')
    (step : ∀ j d δ M, ds[j]? = some d → J j δ M → ∃ δ1 M1, g d δ M = some (δ1, M1) ∧ (body δ1 M1).sat (loopQ (J (j + 1)) R)) (fin : ∀ δ M, J ds.length δ M → R (.nx δ M)) : (sFor fu f g body δ M).sat R := by
  cases x with
  | tup es => cases hx; exact sforT_sat h J h0 step fin
  | rol es =>
    cases hx
    unfold sFor
    rw [h]
    exact forDs_sat J ds 0 δ M' (fun j d δ M hd hJ => by rw [Nat.zero_add] at hJ ⊢; exact step j d δ M hd hJ) (fun δ M q => fin δ M (by rw [Nat.zero_add] at q; exact q)) h0
  | obj n =>
    refine sforO_sat ds h J (fun i δ M q => ?_) h0 step fin
    have := hK i δ M q
    simp only [itemsD] at this
    split at this
    · rename_i es e; cases this; exact e
    · cases this
  | _ => cases hx
theorem Kept.items {M M1 : DM} (a : Kept M M1) {x : D} {ds : List D} (h : itemsD x M = some ds) : itemsD x M1 = some ds := by
  cases x with
  | tup es => exact h
  | rol es => exact h
  | obj n =>
    simp only [itemsD] at h
    split at h
    · rename_i es e; cases h; simp only [itemsD, a.at_ e]
    · cases h
  | _ => cases h
theorem ext_tup {M : DM} {n : Nat} {ds es : List D} (h : M[n]? = some (.lst ds)) (hz : ds.length + es.length ≤ 10000) : extendD (.obj n) [.tup es] M = .ok .non (M.set n (.lst (ds ++ es))) := by
  have hl : ds.length + es.length ≤ sizeLine := by rw [sizeLine_eq]; omega
  simp only [extendD, h, hl, if_true]
theorem ext_obj {M : DM} {n m : Nat} {ds es : List D} (h : M[n]? = some (.lst ds)) (h' : M[m]? = some (.lst es)) (hz : ds.length + es.length ≤ 10000) : extendD (.obj n) [.obj m] M = .ok .non (M.set n (.lst (ds ++ es))) := by
  have hl : ds.length + es.length ≤ sizeLine := by rw [sizeLine_eq]; omega
  simp only [extendD, h, h', hl, if_true]
theorem add_oo {M : DM} {n m : Nat} {ds es : List D} (h : M[n]? = some (.lst ds)) (h' : M[m]? = some (.lst es)) (hz : ds.length + es.length ≤ 10000) : addD (.obj n) (.obj m) M = .ok (.obj M.length) (M ++ [.lst (ds ++ es)]) := by
  have hl : ds.length + es.length ≤ sizeLine := by rw [sizeLine_eq]; omega
  simp only [addD, h, h', hl, if_true]
theorem flat_take {α β : Type} {f : α → List β} {l : List α} {i : Nat} {x : α} (h : l[i]? = some x) : (l.take i).flatMap f ++ f x = (l.take (i + 1)).flatMap f := by
  rw [← take_snoc h, List.flatMap_append, List.flatMap_cons, List.flatMap_nil, List.append_nil]
theorem split_sat {M : DM} {x : D} {ws : List D} {Q : D → DM → Prop} (hx : itemsD x M = some ws) (hw : ∀ d ∈ ws, IsA d) (hz : ws.length ≤ 1000) (q : ∀ n M', M.length ≤ n → M'[n]? = some (.lst (ws.flatMap halvesP)) → Kept M M' → Q (.obj n) M') : (g_split [x] M).sat Q := by
  unfold g_split f_split fnD
  walk_at "dx"
  have K0 : Kept M (M ++ [.lst []]) := Kept.refl.app _
  have g0 : (M ++ [.lst []])[M.length]? = some (.lst []) := get_new
  generalize (M ++ [.lst []]) = M0 at *
  refine sforK_sat ws (x := x) (M' := M0) rfl (K0.items hx) (fun i δ M' => M'[M.length]? = some (.lst ((ws.take i).flatMap halvesP)) ∧ Kept M M' ∧ ∃ o, δ = [some x, some (.obj M.length), o]) (fun i δ M' h => h.2.1.items hx) ⟨g0, K0, none, rfl⟩ ?_ ?_
  · rintro i d δ M1 hd ⟨h1, K, o, rfl⟩
    refine ⟨_, _, rfl, ?_⟩
    have e1 := halves_eq (M := M1) (hw d (List.mem_of_getElem? hd))
    have t1 := ty_lst h1
    have hi := (List.getElem?_eq_some_iff.mp hd).1
    have a1 := ext_tup (es := halvesP d) h1 (by
      have := flat_len (l := ws.take i) (f := halvesP) (b := 2) fun x _ => halves_len
      have := halves_len (d := d)
      rw [List.length_take] at *
      omega)
    rw [flat_take hd] at a1
    have r1 := get_self (mo' := .lst ((ws.take (i + 1)).flatMap halvesP)) h1
    have K2 := K.set (Nat.le_refl _) (.lst ((ws.take (i + 1)).flatMap halvesP))
    clear h1 K
    walk_at "dx"
    first | exact ⟨r1, K2, _, rfl⟩ | exact ⟨_, rfl⟩
  · rintro δ M1 ⟨h1, K, o, rfl⟩
    rw [List.take_length] at h1
    have fin := q _ M1 (Nat.le_refl _) h1 K
    clear q
    walk_at "dx"
theorem law_split_sat {M : DM} {x : D} {ws : List D} {Q : D → DM → Prop} (hx : itemsD x M = some ws) (hw : ∀ d ∈ ws, IsA d) (hz : ws.length ≤ 1000) (q : ∀ n M', M.length ≤ n → M'[n]? = some (.lst (ws.flatMap halvesP)) → Kept M M' → Q (.obj n) M') : (g_law_split [x] M).sat Q := by
  unfold g_law_split f_law_split fnD
  walk_at "dx"
  have K0 : Kept M (M ++ [.lst []]) := Kept.refl.app _
  have g0 : (M ++ [.lst []])[M.length]? = some (.lst []) := get_new
  generalize (M ++ [.lst []]) = M0 at *
  refine sforK_sat ws (x := x) (M' := M0) rfl (K0.items hx) (fun i δ M' => Kept M M' ∧ ∃ o n, M.length ≤ n ∧ M'[n]? = some (.lst ((ws.take i).flatMap halvesP)) ∧ δ = [some x, some (.obj n), o]) (fun i δ M' h => h.1.items hx) ⟨K0, none, _, Nat.le_refl _, g0, rfl⟩ ?_ ?_
  · rintro i d δ M1 hd ⟨K, o, n, hn, h1, rfl⟩
    refine ⟨_, _, rfl, ?_⟩
    have e1 := law_halves_eq (M := M1) (hw d (List.mem_of_getElem? hd))
    have hi := (List.getElem?_eq_some_iff.mp hd).1
    have a1 := add_oo (get_app (l := [.lst (halvesP d)]) h1) get_new (by
      have := flat_len (l := ws.take i) (f := halvesP) (b := 2) fun x _ => halves_len
      have := halves_len (d := d)
      rw [List.length_take] at *
      omega)
    rw [flat_take hd] at a1
    have K2 := (K.app [.lst (halvesP d)]).app [.lst ((ws.take (i + 1)).flatMap halvesP)]
    have r1 := get_new (M := M1 ++ [.lst (halvesP d)]) (mo := .lst ((ws.take (i + 1)).flatMap halvesP))
    have hl := K2.len
    have hl2 : M.length ≤ (M1 ++ [MO.lst (halvesP d)]).length := (K.app [.lst (halvesP d)]).len
    clear h1 K hl
    walk_at "dx"
    first | exact ⟨K2, _, _, hl2, r1, rfl⟩ | exact ⟨_, _, hl2, r1, rfl⟩
  · rintro δ M1 ⟨K, o, n, hn, h1, rfl⟩
    rw [List.take_length] at h1
    have fin := q _ M1 hn h1 K
    clear q
    walk_at "dx"
/-! ### below -/
structure KnowsB (M : DM) (b : Nat) (nk : List (Str × D)) : Prop where
  ex : ∃ k z ss, BookAt M b k z nk ss
theorem KnowsB.kept {M M1 : DM} {b : Nat} {nk : List (Str × D)} (B : KnowsB M b nk) (a : Kept M M1) : KnowsB M1 b nk := by
  obtain ⟨k, z, ss, h⟩ := B.ex
  exact ⟨k, z, ss, h.kept a⟩
/-- the kinds that are known -/
def KindsOk (nk : List (Str × D)) : Prop := ∀ q ∈ nk, KindOk q.2
theorem kind_word {nk : List (Str × D)} {s : Str} (hk : KindsOk nk) (hs : s ∈ nk.map (·.1)) : ∃ (d : D) (w : Str) (r : List D), nk.lookup s = some d ∧ d = .tup (.str w :: r) ∧ ending nk s = decide (w = "heal" ∨ w = "jump") := by
  obtain ⟨d, h1, h2⟩ := lookup_mem hs
  have hd := hk _ h2
  have : ∃ (w : Str) (r : List D), d = .tup (.str w :: r) := by cases hd <;> exact ⟨_, _, rfl⟩
  obtain ⟨w, r, rfl⟩ := this
  exact ⟨_, w, r, h1, rfl, by unfold ending; rw [h1]⟩
/-- an action whose step is known -/
def IsK (nk : List (Str × D)) (d : D) : Prop := ∃ g s a fs, d = mkA g s a fs ∧ s ∈ nk.map (·.1)
theorem below_eq {M : DM} {b : Nat} {nk : List (Str × D)} {d : D} {sts : List Str} (B : KnowsB M b nk) (hk : KindsOk nk) (hd : IsK nk d) : g_below [d, .tup (sts.map .str), .obj b] M = .ok (.tup ((belowP nk d sts).map .str)) M := by
  obtain ⟨g, s, a, fs, rfl, hs⟩ := hd
  obtain ⟨k, z, ss, BB⟩ := B.ex
  obtain ⟨kd, w, r, h1, rfl, h3⟩ := kind_word hk hs
  have g1 := getitem_eq BB h1
  have hB := BB.at_
  have i1 : inD (.str g) (.tup (sts.map .str)) M = .ok (.bl (decide (g ∈ sts))) M := ins_tup
  have i2 : inD (.str w) (.tup [.str "heal", .str "jump"]) M = .ok (.bl (decide (w = "heal" ∨ w = "jump"))) M := (ins_tup (l := ["heal", "jump"])).trans (by simp only [List.mem_cons, List.not_mem_nil, or_false])
  have hb : belowP nk (mkA g s a fs) sts = if g ∈ sts ∧ (g = "done" ∨ ending nk s = true) then (["done", "error"] : List Str) else sts := rfl
  have og : ogetD 0 g_Book_getitem (.obj b) (.str s) M = .ok (.tup (.str w :: r)) M := by
    simp only [ogetD, hB, if_true]
    exact g1
  unfold g_below f_below fnD
  clear g1 hB BB B h1 hk hs
  rw [hb, h3]
  clear hb h3
  by_cases c1 : g ∈ sts
  · by_cases c2 : g = ("done" : Str)
    · subst c2
      walk_at "dx"
    · by_cases c3 : w = ("heal" : Str) ∨ w = "jump"
      · walk_at "dx"
      · walk_at "dx"
  · walk_at "dx"
/-- a dict of kinds -/
theorem law_below_eq {M : DM} {k : Nat} {nk : List (Str × D)} {d : D} {sts : List Str} (B : M[k]? = some (.dic (kvD nk))) (hk : KindsOk nk) (hd : IsK nk d) : g_law_below [d, .tup (sts.map .str), .obj k] M = .ok (.tup ((belowP nk d sts).map .str)) M := by
  obtain ⟨g, s, a, fs, rfl, hs⟩ := hd
  obtain ⟨kd, w, r, h1, rfl, h3⟩ := kind_word hk hs
  have og := gix_dic B h1
  have i1 : inD (.str g) (.tup (sts.map .str)) M = .ok (.bl (decide (g ∈ sts))) M := ins_tup
  have i2 : inSeqD (.str w) (.tup [.str "heal", .str "jump"]) M = .ok (.bl (decide (w = "heal" ∨ w = "jump"))) M := by
    have := anyEq_strs (M := M) (s := w) (l := ["heal", "jump"])
    simp only [List.map_cons, List.map_nil] at this
    simp only [inSeqD, itemsD, this, List.mem_cons, List.not_mem_nil, or_false]
  have hb : belowP nk (mkA g s a fs) sts = if g ∈ sts ∧ (g = "done" ∨ ending nk s = true) then (["done", "error"] : List Str) else sts := rfl
  unfold g_law_below f_law_below fnD
  clear B h1 hk hs
  rw [hb, h3]
  clear hb h3
  by_cases c1 : g ∈ sts
  · by_cases c2 : g = ("done" : Str)
    · subst c2
      walk_at "dx"
    · by_cases c3 : w = ("heal" : Str) ∨ w = "jump"
      · walk_at "dx"
      · walk_at "dx"
  · walk_at "dx"
/-! ### keeping -/
theorem IsK.in {M : DM} {nk : List (Str × D)} {d : D} {sts : List Str} (h : IsK nk d) : inD (.str (grd d)) (.tup (sts.map .str)) M = .ok (.bl (decide (grd d ∈ sts))) M ∧ ∀ M, ixD d (.int 0) M = .ok (.str (grd d)) M := by
  obtain ⟨g, s, a, fs, rfl, hs⟩ := h
  exact ⟨ins_tup, fun M => ix0⟩
theorem rev_at {ds : List D} {m i : Nat} (h : ds.length = m) (hi : i < m) : ds[m - 1 - i]? = ds.reverse[i]? := by
  subst h
  rw [List.getElem?_reverse hi]
theorem keep_live_sat {M : DM} {b : Nat} {nk : List (Str × D)} {x : D} {ws : List D} {sts : List Str} {Q : D → DM → Prop} (B : KnowsB M b nk) (hk : KindsOk nk) (hx : itemsD x M = some ws) (hw : ∀ d ∈ ws, IsK nk d) (hz : ws.length ≤ 1000)
    (q : ∀ M', Kept M M' → Q (.tup (keepP nk sts ws)) M') : (g_keep_live [x, .tup (sts.map .str), .obj b] M).sat Q := by
  unfold g_keep_live f_keep_live fnD
  walk_at "dx"
  have K0 : Kept M (M ++ [.lst []]) := Kept.refl.app _
  have g0 : (M ++ [.lst []])[M.length]? = some (.lst []) := get_new
  have l0 : (M ++ [MO.lst []]).length = M.length + 1 := by rw [List.length_append]; rfl
  generalize (M ++ [.lst []]) = M0 at *
  have K1 : Kept M (M0 ++ [.lst ws]) := K0.app _
  have g1 : (M0 ++ [.lst ws])[M.length]? = some (.lst []) := get_app g0
  have g2 : (M0 ++ [.lst ws])[M.length + 1]? = some (.lst ws) := by rw [← l0]; exact get_new
  have li : listD [x] M0 = .ok (.obj (M.length + 1)) (M0 ++ [.lst ws]) := by simp only [listD, K0.items hx, l0]
  generalize (M0 ++ [.lst ws]) = M1 at *
  refine sforI_sat (it := itV (M.length + 1) ws.length) (M' := M1) (by
    simp only [iRv, eCall, aCons, aNil, eVar, List.getElem?_cons_zero, bind_ok, li, iRev, g2]) ws.reverse (by rw [List.length_reverse]; exact Nat.lt_succ_self _)
    (fun i δ M' => Kept M M' ∧ M'[M.length + 1]? = some (.lst ws) ∧ ∃ o st acc, M'[M.length]? = some (.lst acc) ∧ acc.length ≤ i ∧ acc ++ keepR nk st (ws.reverse.drop i) = keepR nk sts ws.reverse ∧ i ≤ ws.length ∧ δ = [some x, some (.tup (st.map .str)), some (.obj b), some (.obj M.length), o])
    (fun i δ M' h => ?_) ⟨K1, g2, none, sts, [], g1, by simp, by simp, by simp, rfl⟩ ?_ ?_
  · obtain ⟨_, h2, _, _, _, _, _, _, hi, _⟩ := h
    simp only [itV, h2]
    by_cases e : i < ws.length
    · rw [if_pos e, rev_at rfl e]
      cases z : ws.reverse[i]? with
      | none =>
        have := List.getElem?_eq_none_iff.mp z
        rw [List.length_reverse] at this
        omega
      | some d => rfl
    · rw [if_neg e, List.getElem?_eq_none (by rw [List.length_reverse]; omega)]
  · rintro i d δ M2 hd ⟨K, h2, o, st, acc, h3, hl, hkp, hi, rfl⟩
    refine ⟨_, _, rfl, ?_⟩
    have hid := (List.getElem?_eq_some_iff.mp hd).1
    rw [List.length_reverse] at hid
    have hK : IsK nk d := hw d (List.mem_reverse.mp (List.mem_of_getElem? hd))
    have hdr : ws.reverse.drop i = d :: ws.reverse.drop (i + 1) := by
      rw [List.drop_eq_getElem_cons (by rw [List.length_reverse]; exact hid)]
      rw [(List.getElem?_eq_some_iff.mp hd).2]
    rw [hdr] at hkp
    obtain ⟨i1, i2⟩ := hK.in (M := M2) (sts := st)
    by_cases c : grd d ∈ st
    · rw [keepR, if_pos c] at hkp
      have t1 := ty_lst h3
      have a1 := app_lst (y := d) h3 (by omega)
      have K3 := K.set (Nat.le_refl _) (.lst (acc ++ [d]))
      have b1 := below_eq (M := M2.set M.length (.lst (acc ++ [d]))) (sts := st) (B.kept K3) hk hK
      have g3 := get_self (mo' := .lst (acc ++ [d])) h3
      have g4 : (M2.set M.length (.lst (acc ++ [d])))[M.length + 1]? = some (.lst ws) := get_set h2 (by omega)
      have fin : ∃ o' st' acc', (M2.set M.length (.lst (acc ++ [d])))[M.length]? = some (.lst acc') ∧ acc'.length ≤ i + 1 ∧ acc' ++ keepR nk st' (ws.reverse.drop (i + 1)) = keepR nk sts ws.reverse ∧ i + 1 ≤ ws.length ∧
          ([some x, some (.tup ((belowP nk d st).map .str)), some (.obj b), some (.obj M.length), some d] : DSt) = [some x, some (.tup (st'.map .str)), some (.obj b), some (.obj M.length), o'] :=
        ⟨some d, belowP nk d st, acc ++ [d], g3, by rw [List.length_append]; simp; omega, by rw [List.append_assoc]; exact hkp, hid, rfl⟩
      clear h3 hkp hl hdr B hK h2 K g3
      simp only [sIf, sSeq, sExpr, sSet, sNil, tb, e2, eVar, eC, eMt, eCall, aCons, aNil, gNm, List.set_cons_zero, List.set_cons_succ, List.getElem?_cons_zero, List.getElem?_cons_succ, bind_ok, ro_ok, i2, i1, c, decide_true, if_true, t1, a1, b1, seq_nx, rsat_nx, loopQ_nx]
      exact ⟨K3, g4, fin⟩
    · rw [keepR, if_neg c] at hkp
      have fin : ∃ o' st' acc', M2[M.length]? = some (.lst acc') ∧ acc'.length ≤ i + 1 ∧ acc' ++ keepR nk st' (ws.reverse.drop (i + 1)) = keepR nk sts ws.reverse ∧ i + 1 ≤ ws.length ∧
          ([some x, some (.tup (st.map .str)), some (.obj b), some (.obj M.length), some d] : DSt) = [some x, some (.tup (st'.map .str)), some (.obj b), some (.obj M.length), o'] := ⟨some d, st, acc, h3, by omega, hkp, hid, rfl⟩
      clear h3 hkp hl hdr B hK
      simp only [sIf, sNil, tb, e2, eVar, eC, gNm, List.set_cons_zero, List.set_cons_succ, List.getElem?_cons_zero, List.getElem?_cons_succ, bind_ok, ro_ok, i2, i1, c, decide_false, Bool.false_eq_true, if_false, rsat_nx, loopQ_nx]
      exact ⟨K, h2, fin⟩
  · rintro δ M2 ⟨K, h2, o, st, acc, h3, hl, hkp, hi, rfl⟩
    rw [List.drop_length, keepR, List.append_nil] at hkp
    subst hkp
    have r1 : revLD (.obj M.length) M2 = .ok (.obj M2.length) (M2 ++ [.lst (keepP nk sts ws)]) := by simp only [revLD, h3]; rfl
    have t1 : tupleD [.obj M2.length] (M2 ++ [.lst (keepP nk sts ws)]) = .ok (.tup (keepP nk sts ws)) (M2 ++ [.lst (keepP nk sts ws)]) := by simp only [tupleD, itemsD, get_new]
    have fin := q _ (K.app [.lst (keepP nk sts ws)])
    clear q h2 h3 hl K
    simp only [seqQ_nx, sRet, eCall, aCons, aNil, e1, eVar, List.getElem?_cons_zero, List.getElem?_cons_succ, bind_ok, r1, t1, ro_ok, rsat_rt, finQ_rt]
    exact fin
end DL

set_option Elab.async false
set_option linter.all false
set_option maxRecDepth 100000
set_option maxHeartbeats 4000000
namespace DL
open PySem PySem.Spec L2
open PyProof.Rows hiding St
local macro_rules | `(tactic| walk_at "dx") => `(tactic| try simp (disch := first | decide | assumption | omega) only [sPut, sOset, sFldD, eMeth, eMake, ePr, eMt, eCh, sAug, oN, oS, eSl, eDic0, eCv, sSeq, sIf, sRet, sRetN, sNil, sSet, sExpr, sAsg, gTupN, gNms, gNm, tb, tNotF, tAndF, tOrF, eNot, eAnd, eOr, eIf, eTup, eLst, aCons, aNil, eCall, e1, e2, eVar, eC, negD, bind_ok, ro_ok, seq_nx, seq_rt, seq_ct, seq_bk, fin_rt, fin_nx, sat_ok, sat_bind, sat_fin, sat_seq, sat_ro, rsat_nx, rsat_rt, rsat_ct, rsat_bk, seqQ_nx, seqQ_rt, seqQ_ct, seqQ_bk, finQ_nx, finQ_rt, loopQ_nx, loopQ_ct, loopQ_bk, loopQ_rt, sSub, ixo0, ixo1, ixo2, ixo3, ixo4, puts1, puts2, puts3, puts4, List.map_cons, List.map_nil, List.length_cons, List.length_nil, Nat.reduceAdd, Nat.reduceSub, List.replicate_succ, List.replicate_zero, List.nil_append, List.cons_append, List.getElem?_cons_zero, List.getElem?_cons_succ, List.set_cons_zero, List.set_cons_succ, ix0, ix1, ix2, ix3, ix4, eq_ss, eq_ii, eq_bb, ne_ss, ne_ii, add_ii, sub_ii, mul_ii, mod_ii, fdiv_ii, ord_ii, isN_, isNonD, int_i, if_true, if_false, Bool.false_eq_true, Bool.true_eq_false, Bool.not_true, Bool.not_false, decide_eq_true_eq, Bool.and_true, Bool.true_and, Bool.and_false, Bool.false_and, Bool.or_true, Bool.or_false, Bool.true_or, Bool.false_or, ofString_inj, String.reduceEq, decide_true, decide_false, Int.reduceLT, Int.reduceLE, Int.reduceEq, Int.reduceNeg, Int.reduceSub, Int.reduceAdd, Int.reducePow, Int.reduceMul, true_or, or_true, false_or, or_false, true_and, and_true, false_and, and_false, not_true_eq_false, not_false_eq_true, *])

theorem backward_eq {M : DM} {ws : List D} (hz : ws.length ≤ 1000) : g_law_backward [.tup ws] M = .ok (.obj M.length) (M ++ [.lst ws.reverse]) := by
  unfold g_law_backward f_law_backward fnD
  have hr : rngOk (ws.length : Int) = true := range_ok (by omega)
  have e1 : iR (eCall lenD (aCons (eVar 0) aNil)) [some (.tup ws), none] M = .ok (itS ((List.range ws.length).map fun i => .int (Int.ofNat i))) M := by
    show (iRng (.int ws.length) M) = _
    simp only [iRng, hr, if_true, Int.toNat_natCast]
  have key := lcIt_pure (n := M.length) (g := cNm 1) (ft := tYesD) (fe := e2 ixD (eVar 0) (e2 subD (e2 subD (eCall lenD (aCons (eVar 0) aNil)) (eC (D.int 1))) (eVar 1))) (it := itS ((List.range ws.length).map fun i => .int (Int.ofNat i))) (δ := [some (.tup ws), none]) (M := M) rfl
    ((List.range ws.length).map fun i => .int (Int.ofNat i)) (fun d => match d with | .int k => (ws[ws.length - 1 - k.toNat]?).getD .non | _ => .non) (by rw [List.length_map, List.length_range]; omega)
    (fun acc i => rfl) (fun acc i d hd => by
      rw [List.getElem?_map] at hd
      cases ei : (List.range ws.length)[i]? with
      | none => rw [ei] at hd; cases hd
      | some j =>
        have hi := (List.getElem?_eq_some_iff.mp ei).1
        rw [List.length_range] at hi
        rw [List.getElem?_range hi] at ei
        cases ei
        rw [List.getElem?_range hi] at hd
        cases hd
        refine ⟨_, rfl, rfl, ?_⟩
        have hlt : ws.length - 1 - i < ws.length := by omega
        have ix : ∀ M, ixD (.tup ws) (.int ((ws.length : Int) - 1 - Int.ofNat i)) M = .ok ws[ws.length - 1 - i] M := fun M => by
          have := ixn (M := M) (List.getElem?_eq_getElem hlt)
          rw [show ((ws.length - 1 - i : Nat) : Int) = (ws.length : Int) - 1 - Int.ofNat i by show _ = (ws.length : Int) - 1 - (i : Int); omega] at this
          exact this
        have e2' : (match D.int (Int.ofNat i) with | .int k => (ws[ws.length - 1 - k.toNat]?).getD .non | _ => .non) = ws[ws.length - 1 - i] := by
          show (ws[ws.length - 1 - (Int.ofNat i).toNat]?).getD .non = _
          rw [show (Int.ofNat i).toNat = i from rfl, List.getElem?_eq_getElem hlt]
          rfl
        rw [e2']
        simp only [e2, eVar, eC, eCall, aCons, aNil, cNm, List.set_cons_zero, List.set_cons_succ, List.getElem?_cons_zero, List.getElem?_cons_succ, bind_ok, len_t, sub_ii, ix])
    (((List.range ws.length).map fun i => D.int (Int.ofNat i)).length + 1) 0 [] (Nat.zero_le _) (by omega) rfl
  have eF : (((List.range ws.length).map fun i => D.int (Int.ofNat i)).drop 0).map (fun d => match d with | .int k => (ws[ws.length - 1 - k.toNat]?).getD .non | _ => .non) = ws.reverse := by
    rw [List.drop_zero, List.map_map]
    apply List.ext_getElem
    · simp
    · intro i h1 h2
      simp only [List.length_map, List.length_range] at h1
      simp only [List.getElem_map, List.getElem_range, Function.comp, List.getElem_reverse]
      rw [show (Int.ofNat i).toNat = i from rfl, List.getElem?_eq_getElem (by omega)]
      rfl
  rw [eF, List.nil_append] at key
  have lc : eLc [1] (iR (eCall lenD (aCons (eVar 0) aNil))) (cNm 1) tYesD (e2 ixD (eVar 0) (e2 subD (e2 subD (eCall lenD (aCons (eVar 0) aNil)) (eC (D.int 1))) (eVar 1))) [some (.tup ws), none] M = .ok (.obj M.length) (M ++ [.lst ws.reverse]) := by
    unfold eLc
    rw [e1]
    simp only [bind_ok]
    have fu : (itS ((List.range ws.length).map fun i => D.int (Int.ofNat i))).fu = ((List.range ws.length).map fun i => D.int (Int.ofNat i)).length + 1 := rfl
    have w : wipeD [some (D.tup ws), none] [1] = [some (.tup ws), none] := rfl
    rw [fu, w, key]
  show (sRet _ [some (.tup ws), none] M).fin = _
  unfold sRet
  rw [lc]
  rfl
theorem law_keep_sat {M : DM} {k : Nat} {nk : List (Str × D)} {ws : List D} {sts : List Str} {Q : D → DM → Prop} (B : M[k]? = some (.dic (kvD nk))) (hk : KindsOk nk) (hw : ∀ d ∈ ws, IsK nk d) (hz : ws.length ≤ 1000)
    (q : ∀ M', Kept M M' → Q (.tup (keepP nk sts ws)) M') : (g_law_keep [.tup ws, .tup (sts.map .str), .obj k] M).sat Q := by
  unfold g_law_keep f_law_keep fnD
  walk_at "dx"
  have K0 : Kept M (M ++ [.lst []]) := Kept.refl.app _
  have g0 : (M ++ [.lst []])[M.length]? = some (.lst []) := get_new
  generalize (M ++ [.lst []]) = M0 at *
  have bw := backward_eq (M := M0) hz
  have K1 : Kept M (M0 ++ [.lst ws.reverse]) := K0.app _
  have g1 : (M0 ++ [.lst ws.reverse])[M.length]? = some (.lst []) := get_app g0
  have g2 : (M0 ++ [.lst ws.reverse])[M0.length]? = some (.lst ws.reverse) := get_new
  have KM : Kept M0 (M0 ++ [.lst ws.reverse]) := Kept.refl.app _
  have h0 := K0.len
  generalize (M0 ++ [.lst ws.reverse]) = M1 at *
  refine sforO_sat ws.reverse (n := M0.length) (M' := M1) (by simp only [eCall, aCons, aNil, eVar, List.getElem?_cons_zero, bind_ok, bw])
    (fun i δ M' => Kept M M' ∧ Kept M1 M' ∧ ∃ o st acc n, M'[n]? = some (.lst acc) ∧ acc.length ≤ i ∧ acc.reverse ++ keepR nk st (ws.reverse.drop i) = keepR nk sts ws.reverse ∧ i ≤ ws.length ∧ δ = [some (.tup ws), some (.tup (st.map .str)), some (.obj k), some (.obj n), o])
    (fun i δ M' h => h.2.1.at_ g2) ⟨K1, .refl, none, sts, [], _, g1, by simp, by simp, by simp, rfl⟩ ?_ ?_
  · rintro i d δ M2 hd ⟨K, KK, o, st, acc, n, h3, hl, hkp, hi, rfl⟩
    refine ⟨_, _, rfl, ?_⟩
    have hid := (List.getElem?_eq_some_iff.mp hd).1
    rw [List.length_reverse] at hid
    have hK : IsK nk d := hw d (List.mem_reverse.mp (List.mem_of_getElem? hd))
    have hdr : ws.reverse.drop i = d :: ws.reverse.drop (i + 1) := by
      rw [List.drop_eq_getElem_cons (by rw [List.length_reverse]; exact hid)]
      rw [(List.getElem?_eq_some_iff.mp hd).2]
    rw [hdr] at hkp
    obtain ⟨i1, i2⟩ := hK.in (M := M2) (sts := st)
    by_cases c : grd d ∈ st
    · rw [keepR, if_pos c] at hkp
      have ad := add_oo (M := M2 ++ [.lst [d]]) (n := M2.length) (m := n) (ds := [d]) (es := acc) get_new (get_app h3) (by simp only [List.length_cons, List.length_nil]; omega)
      have K3 := (K.app [.lst [d]]).app [.lst ([d] ++ acc)]
      have KK3 := (KK.app [.lst [d]]).app [.lst ([d] ++ acc)]
      have b1 := law_below_eq (M := M2 ++ [.lst [d]] ++ [.lst ([d] ++ acc)]) (sts := st) (K3.at_ B) hk hK
      have fin : ∃ o' st' acc' n', (M2 ++ [.lst [d]] ++ [.lst ([d] ++ acc)])[n']? = some (.lst acc') ∧ acc'.length ≤ i + 1 ∧ acc'.reverse ++ keepR nk st' (ws.reverse.drop (i + 1)) = keepR nk sts ws.reverse ∧ i + 1 ≤ ws.length ∧
          ([some (.tup ws), some (.tup ((belowP nk d st).map .str)), some (.obj k), some (.obj (M2 ++ [MO.lst [d]]).length), some d] : DSt) = [some (.tup ws), some (.tup (st'.map .str)), some (.obj k), some (.obj n'), o'] :=
        ⟨some d, belowP nk d st, [d] ++ acc, _, get_new, by rw [List.length_append]; simp; omega, by rw [List.reverse_append, List.append_assoc]; exact hkp, hid, rfl⟩
      simp only [sIf, sSeq, sSet, sNil, tb, e2, eVar, eC, eLst, eCall, aCons, aNil, gNm, List.set_cons_zero, List.set_cons_succ, List.getElem?_cons_zero, List.getElem?_cons_succ, bind_ok, ro_ok, i2, i1, c, decide_true, if_true, ad, b1, seq_nx, rsat_nx, loopQ_nx]
      exact ⟨K3, KK3, fin⟩
    · rw [keepR, if_neg c] at hkp
      have fin : ∃ o' st' acc' n', M2[n']? = some (.lst acc') ∧ acc'.length ≤ i + 1 ∧ acc'.reverse ++ keepR nk st' (ws.reverse.drop (i + 1)) = keepR nk sts ws.reverse ∧ i + 1 ≤ ws.length ∧
          ([some (.tup ws), some (.tup (st.map .str)), some (.obj k), some (.obj n), some d] : DSt) = [some (.tup ws), some (.tup (st'.map .str)), some (.obj k), some (.obj n'), o'] := ⟨some d, st, acc, n, h3, by omega, hkp, hid, rfl⟩
      simp only [sIf, sNil, tb, e2, eVar, eC, gNm, List.set_cons_zero, List.set_cons_succ, List.getElem?_cons_zero, List.getElem?_cons_succ, bind_ok, ro_ok, i2, i1, c, decide_false, Bool.false_eq_true, if_false, rsat_nx, loopQ_nx]
      exact ⟨K, KK, fin⟩
  · rintro δ M2 ⟨K, KK, o, st, acc, n, h3, hl, hkp, hi, rfl⟩
    rw [List.drop_length, keepR, List.append_nil] at hkp
    have e : acc = keepP nk sts ws := by unfold keepP; rw [← hkp, List.reverse_reverse]
    subst e
    have t1 : tupleD [.obj n] M2 = .ok (.tup (keepP nk sts ws)) M2 := by simp only [tupleD, itemsD, h3]
    have fin := q _ K
    simp only [seqQ_nx, sRet, eCall, aCons, aNil, eVar, List.getElem?_cons_zero, List.getElem?_cons_succ, bind_ok, t1, ro_ok, rsat_rt, finQ_rt]
    exact fin
end DL

set_option Elab.async false
set_option linter.all false
set_option maxRecDepth 100000
set_option maxHeartbeats 4000000
namespace DL
open PySem PySem.Spec L2
open PyProof.Rows hiding St
local macro_rules | `(tactic| walk_at "dx") => `(tactic| try simp (disch := first | decide | assumption | omega) only [sPut, sOset, sFldD, eMeth, eMake, ePr, eMt, eCh, sAug, oN, oS, eSl, eDic0, eCv, sSeq, sIf, sRet, sRetN, sNil, sSet, sExpr, sAsg, gTupN, gNms, gNm, tb, tNotF, tAndF, tOrF, eNot, eAnd, eOr, eIf, eTup, eLst, aCons, aNil, eCall, e1, e2, eVar, eC, negD, bind_ok, ro_ok, seq_nx, seq_rt, seq_ct, seq_bk, fin_rt, fin_nx, sat_ok, sat_bind, sat_fin, sat_seq, sat_ro, rsat_nx, rsat_rt, rsat_ct, rsat_bk, seqQ_nx, seqQ_rt, seqQ_ct, seqQ_bk, finQ_nx, finQ_rt, loopQ_nx, loopQ_ct, loopQ_bk, loopQ_rt, sSub, ixo0, ixo1, ixo2, ixo3, ixo4, puts1, puts2, puts3, puts4, List.map_cons, List.map_nil, List.length_cons, List.length_nil, Nat.reduceAdd, Nat.reduceSub, List.replicate_succ, List.replicate_zero, List.nil_append, List.cons_append, List.getElem?_cons_zero, List.getElem?_cons_succ, List.set_cons_zero, List.set_cons_succ, ix0, ix1, ix2, ix3, ix4, eq_ss, eq_ii, eq_bb, ne_ss, ne_ii, add_ii, sub_ii, mul_ii, mod_ii, fdiv_ii, ord_ii, isN_, isNonD, int_i, if_true, if_false, Bool.false_eq_true, Bool.true_eq_false, Bool.not_true, Bool.not_false, decide_eq_true_eq, Bool.and_true, Bool.true_and, Bool.and_false, Bool.false_and, Bool.or_true, Bool.or_false, Bool.true_or, Bool.false_or, ofString_inj, String.reduceEq, decide_true, decide_false, Int.reduceLT, Int.reduceLE, Int.reduceEq, Int.reduceNeg, Int.reduceSub, Int.reduceAdd, Int.reducePow, Int.reduceMul, true_or, or_true, false_or, or_false, true_and, and_true, false_and, and_false, not_true_eq_false, not_false_eq_true, *])

theorem cut_to {ds : List D} {k : Nat} : cutD ds none (some (k : Int)) = ds.take k := by
  unfold cutD
  rw [HT.sIx_none, HT.sIx_nat, List.drop_zero, Nat.sub_zero, List.take_eq_take_iff]
  omega
theorem cut_from {ds : List D} {k : Nat} : cutD ds (some (k : Int)) none = ds.drop k := by
  unfold cutD
  rw [HT.sIx_none, HT.sIx_nat]
  by_cases h : k ≤ ds.length
  · rw [Nat.min_eq_left h, ← List.length_drop, List.take_length]
  · rw [Nat.min_eq_right (by omega), List.drop_eq_nil_of_le (by omega : ds.length ≤ k), List.drop_eq_nil_of_le (Nat.le_refl _), List.take_nil]
theorem tw_take {α : Type} {p : α → Bool} : ∀ l : List α, l.take (l.takeWhile p).length = l.takeWhile p
  | [] => rfl
  | x :: l => by
    by_cases e : p x = true
    · rw [List.takeWhile_cons_of_pos e, List.length_cons, List.take_succ_cons, tw_take l]
    · rw [List.takeWhile_cons_of_neg e]; rfl
theorem tw_drop {α : Type} {p : α → Bool} : ∀ l : List α, l.drop (l.takeWhile p).length = l.dropWhile p
  | [] => rfl
  | x :: l => by
    by_cases e : p x = true
    · rw [List.takeWhile_cons_of_pos e, List.length_cons, List.drop_succ_cons, tw_drop l, List.dropWhile_cons_of_pos e]
    · rw [List.takeWhile_cons_of_neg e, List.dropWhile_cons_of_neg e]; rfl
theorem tw_in {α : Type} {p : α → Bool} : ∀ {l : List α} {i : Nat}, i < (l.takeWhile p).length → ∃ x, l[i]? = some x ∧ p x = true
  | [], i, h => by cases h
  | x :: l, i, h => by
    by_cases e : p x = true
    · rw [List.takeWhile_cons_of_pos e, List.length_cons] at h
      cases i with
      | zero => exact ⟨x, rfl, e⟩
      | succ i => exact tw_in (l := l) (by omega)
    · rw [List.takeWhile_cons_of_neg e] at h; cases h
theorem tw_end {α : Type} {p : α → Bool} : ∀ {l : List α} {x : α}, l[(l.takeWhile p).length]? = some x → p x = false
  | [], x, h => by cases h
  | y :: l, x, h => by
    by_cases e : p y = true
    · rw [List.takeWhile_cons_of_pos e, List.length_cons, List.getElem?_cons_succ] at h
      exact tw_end h
    · rw [List.takeWhile_cons_of_neg e] at h
      cases h
      exact Bool.eq_false_iff.mpr e
theorem while_many {M : DM} {nk : List (Str × D)} {inn : List D} {x0 x1 x2 x3 x4 x5 : Option D} (hw : ∀ d ∈ inn, IsK nk d) : ∀ (f j : Nat), j ≤ (inn.takeWhile isDn).length → (inn.takeWhile isDn).length - j < f →
    whileF (tAndF (tb (e2 ltD (eVar 7) (eCall lenD (aCons (eVar 6) aNil)))) (tb (e2 eqD (e2 ixD (e2 ixD (eVar 6) (eVar 7)) (eC (D.int 0))) (eC (D.str "done"))))) (sAug 7 (fun i j => i + j) (eC (D.int 1))) f
      [x0, x1, x2, x3, x4, x5, some (.tup inn), some (.int (j : Int))] M = .nx [x0, x1, x2, x3, x4, x5, some (.tup inn), some (.int ((inn.takeWhile isDn).length : Int))] M
  | 0, j, _, h => absurd h (Nat.not_lt_zero _)
  | f + 1, j, hj, hf => by
    have hle := (List.takeWhile_sublist isDn (l := inn)).length_le
    by_cases c : j < (inn.takeWhile isDn).length
    · obtain ⟨d, hd, hp⟩ := tw_in c
      obtain ⟨g, s, a, fs, rfl, hs⟩ := hw d (List.mem_of_getElem? hd)
      have hg : g = ("done" : Str) := of_decide_eq_true hp
      have i1 := ixn (M := M) hd
      have lt : decide ((j : Int) < (inn.length : Int)) = true := decide_eq_true (by omega)
      have ih := while_many (M := M) (x0 := x0) (x1 := x1) (x2 := x2) (x3 := x3) (x4 := x4) (x5 := x5) hw f (j + 1) c (by omega)
      rw [Int.natCast_succ] at ih
      subst hg
      rw [whileF]
      simp only [tAndF, tb, e2, eVar, eC, eCall, aCons, aNil, List.getElem?_cons_zero, List.getElem?_cons_succ, bind_ok, len_t, ord_ii, lt, if_true, i1, ix0, eq_ss, decide_true, sAug, ro_ok, List.set_cons_zero, List.set_cons_succ, ih]
    · have e : j = (inn.takeWhile isDn).length := by omega
      rw [← e]
      rw [whileF]
      by_cases c2 : j < inn.length
      · obtain ⟨x, hd⟩ : ∃ x, inn[j]? = some x := ⟨_, List.getElem?_eq_getElem c2⟩
        obtain ⟨g, s, a, fs, rfl, hs⟩ := hw x (List.mem_of_getElem? hd)
        have hp : isDn (mkA g s a fs) = false := tw_end (by rw [← e]; exact hd)
        have hg : ¬ g = ("done" : Str) := of_decide_eq_false hp
        have i1 := ixn (M := M) hd
        have lt : decide ((j : Int) < (inn.length : Int)) = true := decide_eq_true (by omega)
        simp only [tAndF, tb, e2, eVar, eC, eCall, aCons, aNil, List.getElem?_cons_zero, List.getElem?_cons_succ, bind_ok, len_t, ord_ii, lt, if_true, i1, ix0, eq_ss, hg, decide_false]
      · have lt : decide ((j : Int) < (inn.length : Int)) = false := decide_eq_false (by omega)
        simp only [tAndF, tb, e2, eVar, eC, eCall, aCons, aNil, List.getElem?_cons_zero, List.getElem?_cons_succ, bind_ok, len_t, ord_ii, lt, Bool.false_eq_true, if_false]
/-- what a call of normal answers -/
def NormSp (nk : List (Str × D)) (b : Nat) (G : List D → DM → Rs D) (N : List D → List D) (ok : List D → Prop) : Prop :=
  ∀ (M : DM) (ws : List D) (Q : D → DM → Prop), KnowsB M b nk → ok ws → (∀ M', Kept M M' → Q (.tup (N ws)) M') → (G [.tup ws, .obj b] M).sat Q
theorem normal_half_sat {nk : List (Str × D)} {b : Nat} {G : List D → DM → Rs D} {N : List D → List D} {ok : List D → Prop} (HG : NormSp nk b G N ok) (hk : KindsOk nk) {M : DM} {d : D} {Q : D → DM → Prop} (B : KnowsB M b nk) (hd : IsK nk d) (ho : ok (fur d))
    (hN : ∀ x ∈ N (fur d), IsK nk x) (hz : (N (fur d)).length ≤ 900) (q : ∀ n M', M.length ≤ n → M'[n]? = some (.lst (normHalf nk N d)) → Kept M M' → Q (.obj n) M') : (g_normal_half G [d, .obj b] M).sat Q := by
  obtain ⟨g, s, a, fs, rfl, hs⟩ := hd
  unfold g_normal_half f_normal_half fnD
  have hf : fur (mkA g s a fs) = fs := rfl
  rw [hf] at ho hN hz
  walk_at "dx"
  refine HG M fs _ B ho fun M1 K1 => ?_
  walk_at "dx"
  refine keep_live_sat (sts := ["done"]) (B.kept K1) hk (x := .tup (N fs)) rfl hN (by omega) fun M2 K2 => ?_
  have K := K1.trans K2
  have hw : ∀ x ∈ keepP nk ["done"] (N fs), IsK nk x := fun x hx => hN x (keepP_mem hx)
  have hl : (keepP nk ["done"] (N fs)).length ≤ 900 := Nat.le_trans keepP_len hz
  have eN : normHalf nk N (mkA g s a fs) = (keepP nk ["done"] (N fs)).takeWhile isDn ++ [mkA g s a ((keepP nk ["done"] (N fs)).dropWhile isDn)] := rfl
  rw [eN] at q
  clear eN hN hz ho HG
  generalize keepP nk ["done"] (N fs) = inn at *
  have hle := (List.takeWhile_sublist isDn (l := inn)).length_le
  have wl := while_many (M := M2) (x0 := some (mkA g s a fs)) (x1 := some (.obj b)) (x2 := some (.str g)) (x3 := some (.str s)) (x4 := some a) (x5 := some (.tup fs)) hw 1000 0 (Nat.zero_le _) (by omega)
  have s1 : sliceD (.tup inn) none (some ((inn.takeWhile isDn).length : Int)) M2 = .ok (.tup (inn.takeWhile isDn)) M2 := by simp only [sliceD, cut_to, tw_take]
  have s2 : sliceD (.tup inn) (some ((inn.takeWhile isDn).length : Int)) none M2 = .ok (.tup (inn.dropWhile isDn)) M2 := by simp only [sliceD, cut_from, tw_drop]
  have fin := q M2.length (M2 ++ [.lst (inn.takeWhile isDn ++ [mkA g s a (inn.dropWhile isDn)])]) K.len get_new (K.app _)
  have hsz : (inn.takeWhile isDn ++ [mkA g s a (inn.dropWhile isDn)]).length ≤ sizeLine := by rw [List.length_append, List.length_singleton, sizeLine_eq]; omega
  have wl' : sWhile (fun _ _ => 1000) (tAndF (tb (e2 ltD (eVar 7) (eCall lenD (aCons (eVar 6) aNil)))) (tb (e2 eqD (e2 ixD (e2 ixD (eVar 6) (eVar 7)) (eC (D.int 0))) (eC (D.str "done"))))) (sAug 7 (fun i j => i + j) (eC (D.int 1)))
      [some (mkA g s a fs), some (.obj b), some (.str g), some (.str s), some a, some (.tup fs), some (.tup inn), some (.int 0)] M2 = .nx [some (mkA g s a fs), some (.obj b), some (.str g), some (.str s), some a, some (.tup fs), some (.tup inn), some (.int ((inn.takeWhile isDn).length : Int))] M2 := wl
  clear q wl hw hl hle
  simp only [seqQ_nx, sat_seq, sSeq, sSet, eC, ro_ok, rsat_nx, List.set_cons_zero, List.set_cons_succ, wl', sRet, eLstS, aStar, eSl, oN, oS, eVar, List.getElem?_cons_zero, List.getElem?_cons_succ, bind_ok, s1, s2, itemsD, aCons, aNil, eTup, hsz, if_true, rsat_rt, finQ_rt]
  exact fin
end DL

set_option Elab.async false
set_option linter.all false
set_option maxRecDepth 100000
set_option maxHeartbeats 4000000
namespace DL
open PySem PySem.Spec L2
open PyProof.Rows hiding St
local macro_rules | `(tactic| walk_at "dx") => `(tactic| try simp (disch := first | decide | assumption | omega) only [sPut, sOset, sFldD, eMeth, eMake, ePr, eMt, eCh, sAug, oN, oS, eSl, eDic0, eCv, sSeq, sIf, sRet, sRetN, sNil, sSet, sExpr, sAsg, gTupN, gNms, gNm, tb, tNotF, tAndF, tOrF, eNot, eAnd, eOr, eIf, eTup, eLst, aCons, aNil, eCall, e1, e2, eVar, eC, negD, bind_ok, ro_ok, seq_nx, seq_rt, seq_ct, seq_bk, fin_rt, fin_nx, sat_ok, sat_bind, sat_fin, sat_seq, sat_ro, rsat_nx, rsat_rt, rsat_ct, rsat_bk, seqQ_nx, seqQ_rt, seqQ_ct, seqQ_bk, finQ_nx, finQ_rt, loopQ_nx, loopQ_ct, loopQ_bk, loopQ_rt, sSub, ixo0, ixo1, ixo2, ixo3, ixo4, puts1, puts2, puts3, puts4, List.map_cons, List.map_nil, List.length_cons, List.length_nil, Nat.reduceAdd, Nat.reduceSub, List.replicate_succ, List.replicate_zero, List.nil_append, List.cons_append, List.getElem?_cons_zero, List.getElem?_cons_succ, List.set_cons_zero, List.set_cons_succ, ix0, ix1, ix2, ix3, ix4, eq_ss, eq_ii, eq_bb, ne_ss, ne_ii, add_ii, sub_ii, mul_ii, mod_ii, fdiv_ii, ord_ii, isN_, isNonD, int_i, if_true, if_false, Bool.false_eq_true, Bool.true_eq_false, Bool.not_true, Bool.not_false, decide_eq_true_eq, Bool.and_true, Bool.true_and, Bool.and_false, Bool.false_and, Bool.or_true, Bool.or_false, Bool.true_or, Bool.false_or, ofString_inj, String.reduceEq, decide_true, decide_false, Int.reduceLT, Int.reduceLE, Int.reduceEq, Int.reduceNeg, Int.reduceSub, Int.reduceAdd, Int.reducePow, Int.reduceMul, true_or, or_true, false_or, or_false, true_and, and_true, false_and, and_false, not_true_eq_false, not_false_eq_true, *])

def Dom (nk : List (Str × D)) : Nat → List D → Prop
  | 0, ws => ws = []
  | n + 1, ws => (∀ d ∈ ws, ∃ g s a fs, d = mkA g s a fs ∧ s ∈ nk.map (·.1) ∧ Dom nk n fs ∧ (∀ x ∈ normP nk (n + 1) fs, IsK nk x) ∧ (normP nk (n + 1) fs).length ≤ 900) ∧ ws.length ≤ 900 ∧ (normP nk (n + 2) ws).length ≤ 900
theorem normP_nil {nk : List (Str × D)} : ∀ n, normP nk n [] = []
  | 0 => rfl
  | _ + 1 => rfl
theorem Dom.nil {nk : List (Str × D)} : ∀ n, Dom nk n []
  | 0 => rfl
  | n + 1 => ⟨fun d hd => (nomatch hd), by simp, by rw [normP_nil]; simp⟩
theorem dom_half {nk : List (Str × D)} {n : Nat} {ws : List D} {h : D} (W : Dom nk (n + 1) ws) (hh : h ∈ ws.flatMap halvesP) : IsK nk h ∧ Dom nk n (fur h) ∧ (∀ x ∈ normP nk (n + 1) (fur h), IsK nk x) ∧ (normP nk (n + 1) (fur h)).length ≤ 900 := by
  obtain ⟨d, hd, hh⟩ := List.mem_flatMap.mp hh
  obtain ⟨g, s, a, fs, rfl, hs, h1, h2, h3⟩ := W.1 d hd
  by_cases e : g = ("always" : Str)
  · simp only [halvesP, e, if_true, List.mem_cons, List.not_mem_nil, or_false] at hh
    rcases hh with rfl | rfl
    · exact ⟨⟨_, s, a, fs, rfl, hs⟩, h1, h2, h3⟩
    · refine ⟨⟨_, s, a, [], rfl, hs⟩, Dom.nil n, ?_, ?_⟩
      · show ∀ x ∈ normP nk (n + 1) [], IsK nk x
        rw [normP_nil]
        exact fun x hx => (nomatch hx)
      · show (normP nk (n + 1) []).length ≤ 900
        rw [normP_nil]
        simp
  · simp only [halvesP, e, if_false, List.mem_cons, List.not_mem_nil, or_false] at hh
    subst hh
    exact ⟨⟨g, s, a, fs, rfl, hs⟩, h1, h2, h3⟩
theorem dom_isA {nk : List (Str × D)} {n : Nat} {ws : List D} (W : Dom nk n ws) : ∀ d ∈ ws, IsA d := by
  cases n with
  | zero => intro d hd; rw [show ws = [] from W] at hd; cases hd
  | succ n =>
    intro d hd
    obtain ⟨g, s, a, fs, e, _⟩ := W.1 d hd
    exact ⟨g, s, a, fs, e⟩
theorem dom_len {nk : List (Str × D)} {n : Nat} {ws : List D} (W : Dom nk n ws) : ws.length ≤ 900 ∧ (normP nk (n + 1) ws).length ≤ 900 := by
  cases n with
  | zero => rw [show ws = [] from W]; exact ⟨by simp, by rw [normP_nil]; simp⟩
  | succ n => exact W.2
theorem flat_take_len {α β : Type} {f : α → List β} (l : List α) (k : Nat) : ((l.take k).flatMap f).length ≤ (l.flatMap f).length := by
  have : l.flatMap f = (l.take k).flatMap f ++ (l.drop k).flatMap f := by rw [← List.flatMap_append, List.take_append_drop]
  rw [this, List.length_append]
  omega
theorem normal_sat {nk : List (Str × D)} {b : Nat} (hk : KindsOk nk) : ∀ (n : Nat) {M : DM} {x : D} {ws : List D} {Q : D → DM → Prop}, KnowsB M b nk → itemsD x M = some ws → Dom nk n ws → (∀ M', Kept M M' → Q (.tup (normP nk (n + 1) ws)) M') → (g_normal (n + 1) [x, .obj b] M).sat Q := by
  intro n
  induction n with
  | zero =>
    intro M x ws Q B hx W q
    have hw : ws = [] := W
    subst hw
    show Rs.sat (fnD 4 (f_normal (g_normal 0)) [x, .obj b] M) Q
    unfold f_normal fnD
    walk_at "dx"
    have K0 : Kept M (M ++ [.lst []]) := Kept.refl.app _
    have g0 : (M ++ [.lst []])[M.length]? = some (.lst []) := get_new
    generalize (M ++ [.lst []]) = M0 at *
    obtain ⟨d1, M1, e1, n1, h1, hn1, K1⟩ : ∃ d1 M1, g_split [x] M0 = .ok d1 M1 ∧ ∃ n1, d1 = .obj n1 ∧ M1[n1]? = some (.lst []) ∧ Kept M0 M1 := by
      obtain ⟨d1, M1, e1, h⟩ := sat_get (split_sat (Q := fun d M1 => ∃ n1, d = .obj n1 ∧ M1[n1]? = some (.lst []) ∧ Kept M0 M1) (K0.items hx) (fun d hd => (nomatch hd)) (by simp) fun n M' _ h K => ⟨n, rfl, h, K⟩)
      obtain ⟨n1, h1, h2, h3⟩ := h
      exact ⟨d1, M1, e1, n1, h1, h2, h3⟩
    subst h1
    have g1 := K1.at_ g0
    refine sforO_sat [] (n := n1) (M' := M1) (by simp only [eCall, aCons, aNil, eVar, List.getElem?_cons_zero, bind_ok, e1]) (fun i δ M' => M' = M1 ∧ δ = [some x, some (.obj b), some (.obj M.length), none]) (fun i δ M' h => by rw [h.1]; exact hn1) ⟨rfl, rfl⟩ (fun j d δ M hd => (nomatch hd)) ?_
    rintro δ M2 ⟨rfl, rfl⟩
    have t1 : tupleD [.obj M.length] M2 = .ok (.tup []) M2 := by simp only [tupleD, itemsD, g1]
    have fin := q M2 (K0.trans K1)
    simp only [seqQ_nx, sRet, eCall, aCons, aNil, eVar, List.getElem?_cons_zero, List.getElem?_cons_succ, bind_ok, t1, ro_ok, rsat_rt, finQ_rt]
    exact fin
  | succ n ih =>
    intro M x ws Q B hx W q
    have HG : NormSp nk b (g_normal (n + 1)) (normP nk (n + 1)) (Dom nk n) := fun M ws Q B W q => ih B rfl W q
    clear ih
    have hlen := dom_len W
    have eN : normP nk (n + 1 + 1) ws = (ws.flatMap halvesP).flatMap (normHalf nk (normP nk (n + 1))) := rfl
    rw [eN] at q hlen
    show Rs.sat (fnD 4 (f_normal (g_normal (n + 1))) [x, .obj b] M) Q
    have hH := fun h => dom_half (h := h) W
    unfold f_normal fnD
    generalize g_normal (n + 1) = G at *
    walk_at "dx"
    have K0 : Kept M (M ++ [.lst []]) := Kept.refl.app _
    have g0 : (M ++ [.lst []])[M.length]? = some (.lst []) := get_new
    generalize (M ++ [.lst []]) = M0 at *
    have lm := K0.len
    obtain ⟨d1, M1, e1, n1, h1, hn1, hn2, K1⟩ : ∃ d1 M1, g_split [x] M0 = .ok d1 M1 ∧ ∃ n1, d1 = .obj n1 ∧ M1[n1]? = some (.lst (ws.flatMap halvesP)) ∧ M0.length ≤ n1 ∧ Kept M0 M1 := by
      obtain ⟨d1, M1, e1, h⟩ := sat_get (split_sat (Q := fun d M1 => ∃ n1, d = .obj n1 ∧ M1[n1]? = some (.lst (ws.flatMap halvesP)) ∧ M0.length ≤ n1 ∧ Kept M0 M1) (K0.items hx) (dom_isA W) (by omega) fun n M' hl h K => ⟨n, rfl, h, hl, K⟩)
      obtain ⟨n1, h1, h2, h3, h4⟩ := h
      exact ⟨d1, M1, e1, n1, h1, h2, h3, h4⟩
    subst h1
    have g1 := K1.at_ g0
    have gl := lt_of_get g0
    have hl1 : (ws.flatMap halvesP).length ≤ 1800 := by
      have := flat_len (l := ws) (f := halvesP) (b := 2) fun x _ => halves_len
      omega
    clear W
    generalize ws.flatMap halvesP = hs at *
    refine sforO_sat hs (n := n1) (M' := M1) (by simp only [eCall, aCons, aNil, eVar, List.getElem?_cons_zero, bind_ok, e1])
      (fun i δ M' => Kept M M' ∧ M'[n1]? = some (.lst hs) ∧ M'[M.length]? = some (.lst ((hs.take i).flatMap (normHalf nk (normP nk (n + 1))))) ∧ ∃ o, δ = [some x, some (.obj b), some (.obj M.length), o]) (fun i δ M' h => h.2.1) ⟨K0.trans K1, hn1, g1, none, rfl⟩ ?_ ?_
    · rintro i d δ M2 hd ⟨K, h2, h3, o, rfl⟩
      refine ⟨_, _, rfl, ?_⟩
      obtain ⟨k1, k2, k3, k4⟩ := hH d (List.mem_of_getElem? hd)
      have t1 := ty_lst h3
      obtain ⟨d3, M3, e3, n3, rfl, h4, h5, K3⟩ : ∃ d3 M3, g_normal_half G [d, .obj b] M2 = .ok d3 M3 ∧ ∃ n3, d3 = .obj n3 ∧ M3[n3]? = some (.lst (normHalf nk (normP nk (n + 1)) d)) ∧ M2.length ≤ n3 ∧ Kept M2 M3 := by
        obtain ⟨d3, M3, e3, n3, h4, h5, h6, h7⟩ := sat_get (normal_half_sat (Q := fun d3 M3 => ∃ n3, d3 = .obj n3 ∧ M3[n3]? = some (.lst (normHalf nk (normP nk (n + 1)) d)) ∧ M2.length ≤ n3 ∧ Kept M2 M3) HG hk (B.kept K) k1 k2 k3 k4 fun n M' hl h K => ⟨n, rfl, h, hl, K⟩)
        exact ⟨d3, M3, e3, n3, h4, h5, h6, h7⟩
      have a1 := ext_obj (K3.at_ h3) h4 (by
        have := flat_take_len (f := normHalf nk (normP nk (n + 1))) hs (i + 1)
        rw [← flat_take hd, List.length_append] at this
        omega)
      rw [flat_take hd] at a1
      have K4 := (K.trans K3).set (Nat.le_refl _) (.lst ((hs.take (i + 1)).flatMap (normHalf nk (normP nk (n + 1)))))
      have g4 := get_self (mo' := .lst ((hs.take (i + 1)).flatMap (normHalf nk (normP nk (n + 1))))) (K3.at_ h3)
      have g5 := get_set (mo' := .lst ((hs.take (i + 1)).flatMap (normHalf nk (normP nk (n + 1))))) (K3.at_ h2) (show n1 ≠ M.length by omega)
      simp only [sExpr, eMt, eCall, aCons, aNil, eVar, gNm, List.set_cons_zero, List.set_cons_succ, List.getElem?_cons_zero, List.getElem?_cons_succ, bind_ok, t1, if_true, e3, a1, ro_ok, rsat_nx, loopQ_nx]
      exact ⟨K4, g5, g4, _, rfl⟩
    · rintro δ M2 ⟨K, h2, h3, o, rfl⟩
      rw [List.take_length] at h3
      have t1 : tupleD [.obj M.length] M2 = .ok (.tup (hs.flatMap (normHalf nk (normP nk (n + 1))))) M2 := by simp only [tupleD, itemsD, h3]
      have fin := q M2 K
      simp only [seqQ_nx, sRet, eCall, aCons, aNil, eVar, List.getElem?_cons_zero, List.getElem?_cons_succ, bind_ok, t1, ro_ok, rsat_rt, finQ_rt]
      exact fin
end DL

set_option Elab.async false
set_option linter.all false
set_option maxRecDepth 100000
set_option maxHeartbeats 4000000
namespace DL
open PySem PySem.Spec L2
open PyProof.Rows hiding St
local macro_rules | `(tactic| walk_at "dx") => `(tactic| try simp (disch := first | decide | assumption | omega) only [sPut, sOset, sFldD, eMeth, eMake, ePr, eMt, eCh, sAug, oN, oS, eSl, eDic0, eCv, sSeq, sIf, sRet, sRetN, sNil, sSet, sExpr, sAsg, gTupN, gNms, gNm, tb, tNotF, tAndF, tOrF, eNot, eAnd, eOr, eIf, eTup, eLst, aCons, aNil, eCall, e1, e2, eVar, eC, negD, bind_ok, ro_ok, seq_nx, seq_rt, seq_ct, seq_bk, fin_rt, fin_nx, sat_ok, sat_bind, sat_fin, sat_seq, sat_ro, rsat_nx, rsat_rt, rsat_ct, rsat_bk, seqQ_nx, seqQ_rt, seqQ_ct, seqQ_bk, finQ_nx, finQ_rt, loopQ_nx, loopQ_ct, loopQ_bk, loopQ_rt, sSub, ixo0, ixo1, ixo2, ixo3, ixo4, puts1, puts2, puts3, puts4, List.map_cons, List.map_nil, List.length_cons, List.length_nil, Nat.reduceAdd, Nat.reduceSub, List.replicate_succ, List.replicate_zero, List.nil_append, List.cons_append, List.getElem?_cons_zero, List.getElem?_cons_succ, List.set_cons_zero, List.set_cons_succ, ix0, ix1, ix2, ix3, ix4, eq_ss, eq_ii, eq_bb, ne_ss, ne_ii, add_ii, sub_ii, mul_ii, mod_ii, fdiv_ii, ord_ii, isN_, isNonD, int_i, if_true, if_false, Bool.false_eq_true, Bool.true_eq_false, Bool.not_true, Bool.not_false, decide_eq_true_eq, Bool.and_true, Bool.true_and, Bool.and_false, Bool.false_and, Bool.or_true, Bool.or_false, Bool.true_or, Bool.false_or, ofString_inj, String.reduceEq, decide_true, decide_false, Int.reduceLT, Int.reduceLE, Int.reduceEq, Int.reduceNeg, Int.reduceSub, Int.reduceAdd, Int.reducePow, Int.reduceMul, true_or, or_true, false_or, or_false, true_and, and_true, false_and, and_false, not_true_eq_false, not_false_eq_true, *])

theorem many_loop {M : DM} {nk : List (Str × D)} {inn : List D} {x0 x1 x2 x3 o6 : Option D} {R : Ro → Prop} (hw : ∀ d ∈ inn, IsK nk d) (hz : inn.length ≤ 1000)
    (q : ∀ o6, R (.nx [x0, x1, x2, x3, some (.tup inn), some (.int ((inn.takeWhile isDn).length : Int)), o6] M)) :
    (sForR (eCall lenD (aCons (eVar 4) aNil)) (gNm 6)
  (sIf (tAndF (tb (e2 eqD (eVar 5) (eVar 6))) (tb (e2 eqD (e2 ixD (e2 ixD (eVar 4) (eVar 6)) (eC (D.int 0))) (eC (D.str "done")))))
  (sSet 5 (e2 addD (eVar 6) (eC (D.int 1))))
  sNil) [x0, x1, x2, x3, some (.tup inn), some (.int 0), o6] M).sat R := by
  have hle := (List.takeWhile_sublist isDn (l := inn)).length_le
  refine sforR_sat (n := inn.length) (M' := M) rfl (range_ok (by omega)) (fun i δ M' => M' = M ∧ ∃ o6, δ = [x0, x1, x2, x3, some (.tup inn), some (.int ((min i (inn.takeWhile isDn).length : Nat) : Int)), o6]) ⟨rfl, o6, by simp⟩ ?_ ?_
  · rintro i δ M1 hi ⟨rfl, o6, rfl⟩
    refine ⟨_, _, rfl, ?_⟩
    have hi2 : i < inn.length := by omega
    obtain ⟨x, hd⟩ : ∃ x, inn[i]? = some x := ⟨_, List.getElem?_eq_getElem hi2⟩
    obtain ⟨g, s, a, fs, rfl, hs⟩ := hw x (List.mem_of_getElem? hd)
    have i1 := ixn (M := M1) hd
    by_cases c1 : i < (inn.takeWhile isDn).length
    · obtain ⟨y, hy, hp⟩ := tw_in c1
      rw [hd] at hy
      cases hy
      have hg : g = ("done" : Str) := of_decide_eq_true hp
      have e1 : min i (inn.takeWhile isDn).length = i := Nat.min_eq_left (by omega)
      have e2' : (min (i + 1) (inn.takeWhile isDn).length : Nat) = i + 1 := Nat.min_eq_left (by omega)
      subst hg
      simp only [e1, sIf, sSet, tAndF, tb, e2, eVar, eC, gNm, List.set_cons_zero, List.set_cons_succ, List.getElem?_cons_zero, List.getElem?_cons_succ, bind_ok, eq_ii, decide_true, if_true, i1, ix0, eq_ss, add_ii, ro_ok, rsat_nx, loopQ_nx]
      exact ⟨trivial, _, by rw [e2']; rfl⟩
    · by_cases c2 : i = (inn.takeWhile isDn).length
      · have hp : isDn (mkA g s a fs) = false := tw_end (by rw [← c2]; exact hd)
        have hg : ¬ g = ("done" : Str) := of_decide_eq_false hp
        have e1 : min i (inn.takeWhile isDn).length = i := Nat.min_eq_left (by omega)
        have e2' : (min (i + 1) (inn.takeWhile isDn).length : Nat) = i := by omega
        simp only [e1, sIf, sNil, tAndF, tb, e2, eVar, eC, gNm, List.set_cons_zero, List.set_cons_succ, List.getElem?_cons_zero, List.getElem?_cons_succ, bind_ok, eq_ii, decide_true, if_true, i1, ix0, eq_ss, hg, decide_false, Bool.false_eq_true, if_false, ro_ok, rsat_nx, loopQ_nx]
        exact ⟨trivial, _, by rw [e2']⟩
      · have e1 : min i (inn.takeWhile isDn).length = (inn.takeWhile isDn).length := Nat.min_eq_right (by omega)
        have e2' : (min (i + 1) (inn.takeWhile isDn).length : Nat) = (inn.takeWhile isDn).length := by omega
        have ne : decide (((inn.takeWhile isDn).length : Int) = (i : Int)) = false := decide_eq_false (by omega)
        simp only [e1, sIf, sNil, tAndF, tb, e2, eVar, eC, gNm, List.set_cons_zero, List.set_cons_succ, List.getElem?_cons_zero, List.getElem?_cons_succ, bind_ok, eq_ii, ne, Bool.false_eq_true, if_false, ro_ok, rsat_nx, loopQ_nx]
        exact ⟨trivial, _, by rw [e2']⟩
  · rintro δ M1 ⟨rfl, o6, rfl⟩
    have e : min ((inn.length : Int)).toNat (inn.takeWhile isDn).length = (inn.takeWhile isDn).length := by omega
    rw [e]
    exact q o6
theorem law_normal_sat {nk : List (Str × D)} {k : Nat} (hk : KindsOk nk) : ∀ (n : Nat) {M : DM} {ws : List D} {Q : D → DM → Prop}, M[k]? = some (.dic (kvD nk)) → Dom nk n ws → (∀ M', Kept M M' → Q (.tup (normP nk (n + 1) ws)) M') → (g_law_normal (n + 1) [.tup ws, .obj k] M).sat Q := by
  intro n
  induction n with
  | zero =>
    intro M ws Q B W q
    have hw : ws = [] := W
    subst hw
    show Rs.sat (fnD 7 (f_law_normal (g_law_normal 0)) [.tup [], .obj k] M) Q
    unfold f_law_normal fnD
    walk_at "dx"
    have K0 : Kept M (M ++ [.lst []]) := Kept.refl.app _
    have g0 : (M ++ [.lst []])[M.length]? = some (.lst []) := get_new
    generalize (M ++ [.lst []]) = M0 at *
    obtain ⟨d1, M1, e1, n1, h1, hn1, K1⟩ : ∃ d1 M1, g_law_split [.tup []] M0 = .ok d1 M1 ∧ ∃ n1, d1 = .obj n1 ∧ M1[n1]? = some (.lst []) ∧ Kept M0 M1 := by
      obtain ⟨d1, M1, e1, h⟩ := sat_get (law_split_sat (x := .tup []) (ws := []) (Q := fun d M1 => ∃ n1, d = .obj n1 ∧ M1[n1]? = some (.lst []) ∧ Kept M0 M1) rfl (fun d hd => (nomatch hd)) (by simp) fun n M' _ h K => ⟨n, rfl, h, K⟩)
      obtain ⟨n1, h1, h2, h3⟩ := h
      exact ⟨d1, M1, e1, n1, h1, h2, h3⟩
    subst h1
    have g1 := K1.at_ g0
    refine sforO_sat [] (n := n1) (M' := M1) (by simp only [eCall, aCons, aNil, eVar, List.getElem?_cons_zero, bind_ok, e1]) (fun i δ M' => M' = M1 ∧ δ = [some (.tup []), some (.obj k), some (.obj M.length), none, none, none, none]) (fun i δ M' h => by rw [h.1]; exact hn1) ⟨rfl, rfl⟩ (fun j d δ M hd => (nomatch hd)) ?_
    rintro δ M2 ⟨rfl, rfl⟩
    have t1 : tupleD [.obj M.length] M2 = .ok (.tup []) M2 := by simp only [tupleD, itemsD, g1]
    have fin := q M2 (K0.trans K1)
    simp only [seqQ_nx, sRet, eCall, aCons, aNil, eVar, List.getElem?_cons_zero, List.getElem?_cons_succ, bind_ok, t1, ro_ok, rsat_rt, finQ_rt]
    exact fin
  | succ n ih =>
    intro M ws Q B W q
    have hlen := dom_len W
    have eN : normP nk (n + 1 + 1) ws = (ws.flatMap halvesP).flatMap (normHalf nk (normP nk (n + 1))) := rfl
    rw [eN] at q hlen
    show Rs.sat (fnD 7 (f_law_normal (g_law_normal (n + 1))) [.tup ws, .obj k] M) Q
    have hH := fun h => dom_half (h := h) W
    unfold f_law_normal fnD
    generalize g_law_normal (n + 1) = G at *
    walk_at "dx"
    have K0 : Kept M (M ++ [.lst []]) := Kept.refl.app _
    have g0 : (M ++ [.lst []])[M.length]? = some (.lst []) := get_new
    generalize (M ++ [.lst []]) = M0 at *
    have lm := K0.len
    obtain ⟨d1, M1, e1, n1, h1, hn1, hn2, K1⟩ : ∃ d1 M1, g_law_split [.tup ws] M0 = .ok d1 M1 ∧ ∃ n1, d1 = .obj n1 ∧ M1[n1]? = some (.lst (ws.flatMap halvesP)) ∧ M0.length ≤ n1 ∧ Kept M0 M1 := by
      obtain ⟨d1, M1, e1, h⟩ := sat_get (law_split_sat (x := .tup ws) (ws := ws) (Q := fun d M1 => ∃ n1, d = .obj n1 ∧ M1[n1]? = some (.lst (ws.flatMap halvesP)) ∧ M0.length ≤ n1 ∧ Kept M0 M1) rfl (dom_isA W) (by omega) fun n M' hl h K => ⟨n, rfl, h, hl, K⟩)
      obtain ⟨n1, h1, h2, h3, h4⟩ := h
      exact ⟨d1, M1, e1, n1, h1, h2, h3, h4⟩
    subst h1
    have g1 := K1.at_ g0
    have hl1 : (ws.flatMap halvesP).length ≤ 1800 := by
      have := flat_len (l := ws) (f := halvesP) (b := 2) fun x _ => halves_len
      omega
    clear W
    generalize ws.flatMap halvesP = hs at *
    generalize hN : normP nk (n + 1) = N at *
    refine sforO_sat hs (n := n1) (M' := M1) (by simp only [eCall, aCons, aNil, eVar, List.getElem?_cons_zero, bind_ok, e1])
      (fun i δ M' => Kept M M' ∧ Kept M1 M' ∧ ∃ o3 o4 o5 o6 n, M'[n]? = some (.lst ((hs.take i).flatMap (normHalf nk N))) ∧ δ = [some (.tup ws), some (.obj k), some (.obj n), o3, o4, o5, o6]) (fun i δ M' h => h.2.1.at_ hn1) ⟨K0.trans K1, .refl, none, none, none, none, _, g1, rfl⟩ ?_ ?_
    · rintro i d δ M2 hd ⟨K, KK, o3, o4, o5, o6, m, h3, rfl⟩
      refine ⟨_, _, rfl, ?_⟩
      obtain ⟨k1, k2, k3, k4⟩ := hH d (List.mem_of_getElem? hd)
      have hlt := flat_take_len (f := normHalf nk N) hs (i + 1)
      rw [← flat_take hd, List.length_append] at hlt
      have eT := flat_take (f := normHalf nk N) hd
      obtain ⟨g, s, a, fs, rfl, hs'⟩ := k1
      rw [show fur (mkA g s a fs) = fs from rfl] at k2 k3 k4
      have e3 : ∀ M, ixD (mkA g s a fs) (.int 3) M = .ok (.tup fs) M := fun M => ix3
      have hx : (g_law_keep [.tup [], .tup [], .obj k] M2) = (g_law_keep [.tup [], .tup [], .obj k] M2) := rfl
      obtain ⟨d3, M3, ee, hd3, K3⟩ := sat_get (ih (M := M2) (ws := fs) (Q := fun d3 M3 => d3 = .tup (N fs) ∧ Kept M2 M3) (K.at_ B) k2 fun M' KM => ⟨rfl, KM⟩)
      subst hd3
      obtain ⟨d4, M4, ee4, hd4, K4⟩ := sat_get (law_keep_sat (M := M3) (sts := ["done"]) (ws := N fs) (Q := fun d4 M4 => d4 = .tup (keepP nk ["done"] (N fs)) ∧ Kept M3 M4) ((K.trans K3).at_ B) hk k3 (by omega) fun M' KM => ⟨rfl, KM⟩)
      subst hd4
      have hw : ∀ x ∈ keepP nk ["done"] (N fs), IsK nk x := fun x hx => k3 x (keepP_mem hx)
      have hl : (keepP nk ["done"] (N fs)).length ≤ 900 := Nat.le_trans keepP_len k4
      have eN : normHalf nk N (mkA g s a fs) = (keepP nk ["done"] (N fs)).takeWhile isDn ++ [mkA g s a ((keepP nk ["done"] (N fs)).dropWhile isDn)] := rfl
      rw [eN, List.length_append, List.length_singleton] at hlt
      rw [eN] at eT
      clear eN hH k2 k3 k4 ih hx hd
      simp only [List.map_cons, List.map_nil] at ee4
      simp only [gNm, sSeq, sSet, eCall, aCons, aNil, e2, eVar, eC, eTup, List.set_cons_zero, List.set_cons_succ, List.getElem?_cons_zero, List.getElem?_cons_succ, bind_ok, e3, ee, ee4, ro_ok, seq_nx, sat_seq]
      have h4 := (K3.trans K4).at_ h3
      have KA := K.trans (K3.trans K4)
      have KB := KK.trans (K3.trans K4)
      generalize keepP nk ["done"] (N fs) = inn at *
      generalize (hs.take i).flatMap (normHalf nk N) = acc at *
      generalize (hs.take (i + 1)).flatMap (normHalf nk N) = acc' at *
      refine many_loop hw (by omega) fun o6 => ?_
      have s1 : sliceD (.tup inn) none (some ((inn.takeWhile isDn).length : Int)) M4 = .ok (.tup (inn.takeWhile isDn)) M4 := by simp only [sliceD, cut_to, tw_take]
      have l1 : listD [.tup (inn.takeWhile isDn)] M4 = .ok (.obj M4.length) (M4 ++ [.lst (inn.takeWhile isDn)]) := rfl
      have a1 := add_oo (M := M4 ++ [.lst (inn.takeWhile isDn)]) (n := m) (m := M4.length) (get_app h4) get_new (by omega)
      have s2 : ∀ M, sliceD (.tup inn) (some ((inn.takeWhile isDn).length : Int)) none M = .ok (.tup (inn.dropWhile isDn)) M := fun M => by simp only [sliceD, cut_from, tw_drop]
      have a2 := add_oo (M := M4 ++ [.lst (inn.takeWhile isDn)] ++ [.lst (acc ++ inn.takeWhile isDn)] ++ [.lst [mkA g s a (inn.dropWhile isDn)]]) (n := (M4 ++ [MO.lst (inn.takeWhile isDn)]).length) (m := (M4 ++ [MO.lst (inn.takeWhile isDn)] ++ [MO.lst (acc ++ inn.takeWhile isDn)]).length) (get_app get_new) get_new (by rw [List.length_append]; simp only [List.length_cons, List.length_nil]; omega)
      rw [List.append_assoc acc, eT] at a2
      have i0 : ∀ M, ixD (mkA g s a fs) (.int 0) M = .ok (.str g) M := fun M => ix0
      have i1 : ∀ M, ixD (mkA g s a fs) (.int 1) M = .ok (.str s) M := fun M => ix1
      have i2 : ∀ M, ixD (mkA g s a fs) (.int 2) M = .ok a M := fun M => ix2
      simp only [seqQ_nx, sSet, e2, eVar, eC, eCall, aCons, aNil, eSl, oN, oS, eLst, eTup, List.getElem?_cons_zero, List.getElem?_cons_succ, bind_ok, s1, l1, a1, i0, i1, i2, s2, a2, ro_ok, List.set_cons_zero, List.set_cons_succ, rsat_nx, loopQ_nx]
      exact ⟨(((KA.app _).app _).app _).app _, (((KB.app _).app _).app _).app _, _, _, _, _, _, get_new, rfl⟩
    · rintro δ M2 ⟨K, KK, o3, o4, o5, o6, m, h3, rfl⟩
      rw [List.take_length] at h3
      have t1 : tupleD [.obj m] M2 = .ok (.tup (hs.flatMap (normHalf nk N))) M2 := by simp only [tupleD, itemsD, h3]
      have fin := q M2 K
      simp only [seqQ_nx, sRet, eCall, aCons, aNil, eVar, List.getElem?_cons_zero, List.getElem?_cons_succ, bind_ok, t1, ro_ok, rsat_rt, finQ_rt]
      exact fin
end DL

set_option Elab.async false
set_option linter.all false
set_option maxRecDepth 100000
set_option maxHeartbeats 4000000
namespace DL
open PySem PySem.Spec L2
open PyProof.Rows hiding St
local macro_rules | `(tactic| walk_at "dx") => `(tactic| try simp (disch := first | decide | assumption | omega) only [sPut, sOset, sFldD, eMeth, eMake, ePr, eMt, eCh, sAug, oN, oS, eSl, eDic0, eCv, sSeq, sIf, sRet, sRetN, sNil, sSet, sExpr, sAsg, gTupN, gNms, gNm, tb, tNotF, tAndF, tOrF, eNot, eAnd, eOr, eIf, eTup, eLst, aCons, aNil, eCall, e1, e2, eVar, eC, negD, bind_ok, ro_ok, seq_nx, seq_rt, seq_ct, seq_bk, fin_rt, fin_nx, sat_ok, sat_bind, sat_fin, sat_seq, sat_ro, rsat_nx, rsat_rt, rsat_ct, rsat_bk, seqQ_nx, seqQ_rt, seqQ_ct, seqQ_bk, finQ_nx, finQ_rt, loopQ_nx, loopQ_ct, loopQ_bk, loopQ_rt, sSub, ixo0, ixo1, ixo2, ixo3, ixo4, puts1, puts2, puts3, puts4, List.map_cons, List.map_nil, List.length_cons, List.length_nil, Nat.reduceAdd, Nat.reduceSub, List.replicate_succ, List.replicate_zero, List.nil_append, List.cons_append, List.getElem?_cons_zero, List.getElem?_cons_succ, List.set_cons_zero, List.set_cons_succ, ix0, ix1, ix2, ix3, ix4, eq_ss, eq_ii, eq_bb, ne_ss, ne_ii, add_ii, sub_ii, mul_ii, mod_ii, fdiv_ii, ord_ii, isN_, isNonD, int_i, if_true, if_false, Bool.false_eq_true, Bool.true_eq_false, Bool.not_true, Bool.not_false, decide_eq_true_eq, Bool.and_true, Bool.true_and, Bool.and_false, Bool.false_and, Bool.or_true, Bool.or_false, Bool.true_or, Bool.false_or, ofString_inj, String.reduceEq, decide_true, decide_false, Int.reduceLT, Int.reduceLE, Int.reduceEq, Int.reduceNeg, Int.reduceSub, Int.reduceAdd, Int.reducePow, Int.reduceMul, true_or, or_true, false_or, or_false, true_and, and_true, false_and, and_false, not_true_eq_false, not_false_eq_true, *])

theorem ArgOk.plain {cs : List (Str × Int)} {a : D} (h : ArgOk cs a) {k : Nat} (hk : 2 ≤ k) : plainN k a = true := by
  obtain ⟨k, rfl⟩ : ∃ j, k = j + 2 := ⟨k - 2, by omega⟩
  rcases h.ex with rfl | ⟨n, rfl, _⟩ | ⟨w, s, _, _, rfl⟩
  · rfl
  · rfl
  · simp [plainN]
theorem mkA_plain {g s : Str} {a : D} {fs : List D} {k : Nat} (ha : plainN (k + 1) a = true) (hz : fs.length ≤ 1000) (hf : ∀ f ∈ fs, plainN k f = true) : plainN (k + 2) (mkA g s a fs) = true := by
  have h2 : (fs.all (plainN k)) = true := List.all_eq_true.mpr hf
  simp [plainN, ha, hz]
  exact hf
theorem ActOk.plain {nk : List (Str × D)} {cs : List (Str × Int)} : ∀ {n : Nat} {d : D}, ActOk nk cs n d → ∀ {k : Nat}, 2 * n + 1 ≤ k → plainN k d = true
  | 0, d, h, _, _ => h.elim
  | n + 1, d, ⟨g, s, a, fs, e, _, _, ha, hf, hz, _⟩, k, hk => by
    obtain ⟨k, rfl⟩ : ∃ j, k = j + 2 := ⟨k - 2, by omega⟩
    rw [e]
    exact mkA_plain (ha.plain (by omega)) (by omega) fun f hf' => ActOk.plain (hf f hf') (by omega)
theorem NormA.plain {nk : List (Str × D)} {cs : List (Str × Int)} : ∀ {n : Nat} {d : D}, NormA nk cs n d → ∀ {k : Nat}, 2 * n + 1 ≤ k → plainN k d = true
  | 0, d, h, _, _ => h.elim
  | n + 1, d, ⟨g, s, a, fs, e, _, _, ha, hf, _, _, hz⟩, k, hk => by
    obtain ⟨k, rfl⟩ : ∃ j, k = j + 2 := ⟨k - 2, by omega⟩
    rw [e]
    exact mkA_plain (ha.plain (by omega)) (by omega) fun f hf' => NormA.plain (hf f hf') (by omega)
theorem NormA.isK {nk : List (Str × D)} {cs : List (Str × Int)} {n : Nat} {d : D} (h : NormA nk cs n d) : IsK nk d := by
  cases n with
  | zero => exact h.elim
  | succ n => obtain ⟨g, s, a, fs, e, _, hs, _⟩ := h; exact ⟨g, s, a, fs, e, hs⟩
theorem dom_act {nk : List (Str × D)} {cs : List (Str × Int)} : ∀ {m n : Nat} {ws : List D}, n ≤ 3 → (∀ d ∈ ws, ActOk nk cs n d) → ws.length ≤ 5 → n ≤ m → Dom nk m ws
  | 0, n, ws, hn, h, hz, hm => by
    have e : n = 0 := by omega
    subst e
    cases ws with
    | nil => rfl
    | cons d ws => exact (h d (List.mem_cons_self ..)).elim
  | m + 1, n, ws, hn, h, hz, hm => by
    refine ⟨fun d hd => ?_, by omega, ?_⟩
    · cases n with
      | zero => exact (h d hd).elim
      | succ n =>
        obtain ⟨g, s, a, fs, e, _, hs, ha, hf, hz2, _⟩ := h d hd
        obtain ⟨h1, h2⟩ := norm_ok (m := m + 1) (n := n) (w := fs) (by omega) hf (by omega)
        refine ⟨g, s, a, fs, e, hs, dom_act (n := n) (by omega) hf (by omega) (by omega), fun x hx => (h1 x hx).isK, ?_⟩
        have hB : normB (n - 1) ≤ 6 := by
          have : n = 0 ∨ n = 1 ∨ n = 2 := by omega
          rcases this with rfl | rfl | rfl <;> decide
        have : fs.length * (2 * (normB (n - 1) + 1)) ≤ 3 * (2 * (normB (n - 1) + 1)) := Nat.mul_le_mul_right _ hz2
        omega
    · obtain ⟨h1, h2⟩ := norm_ok (m := m + 2) (n := n) (w := ws) hn h (by omega)
      have hB : normB (n - 1) ≤ 42 := by
        have : n = 0 ∨ n = 1 ∨ n = 2 ∨ n = 3 := by omega
        rcases this with rfl | rfl | rfl | rfl <;> decide
      have : ws.length * (2 * (normB (n - 1) + 1)) ≤ 5 * (2 * (normB (n - 1) + 1)) := Nat.mul_le_mul_right _ hz
      omega
theorem dom_norm {nk : List (Str × D)} {cs : List (Str × Int)} : ∀ {m n : Nat} {ws : List D}, (∀ d ∈ ws, NormA nk cs n d) → ws.length ≤ 900 → n ≤ m → Dom nk m ws
  | 0, n, ws, h, hz, hm => by
    have e : n = 0 := by omega
    subst e
    cases ws with
    | nil => rfl
    | cons d ws => exact (h d (List.mem_cons_self ..)).elim
  | m + 1, n, ws, h, hz, hm => by
    refine ⟨fun d hd => ?_, by omega, ?_⟩
    · cases n with
      | zero => exact (h d hd).elim
      | succ n =>
        obtain ⟨g, s, a, fs, e, _, hs, ha, hf, _, _, hz2⟩ := h d hd
        refine ⟨g, s, a, fs, e, hs, dom_norm (n := n) hf hz2 (by omega), ?_, ?_⟩
        · rw [norm_id hf (by omega) (by omega)]; exact fun x hx => (hf x hx).isK
        · rw [norm_id hf (by omega) (by omega)]; exact hz2
    · rw [norm_id h (by omega) (by omega)]; exact hz
theorem same_tt {M : DM} {ws : List D} (hz : ws.length ≤ 1000) (h : ∀ d ∈ ws, plainN 9 d = true) : g_law_same 10 [.tup ws, .tup ws] M = .ok (.bl true) M := by
  refine law_same_true 10 _ _ (SameP.refl 10 _ ?_)
  have h2 : (ws.all (plainN 9)) = true := List.all_eq_true.mpr h
  simp only [plainN, hz, h2, decide_true, Bool.and_self]
theorem same_oo {M : DM} {a b : Nat} {ws : List D} (ha : M[a]? = some (.lst ws)) (hb : M[b]? = some (.lst ws)) (hz : ws.length ≤ 1000) (h : ∀ d ∈ ws, plainN 9 d = true) : g_law_same 10 [.obj a, .obj b] M = .ok (.bl true) M := by
  refine law_same_true 10 _ _ (.lst (xs := ws) (ys := ws) (by simp only [lstOf, ha]) (by simp only [lstOf, hb]) rfl (by omega) fun i x y hx hy => ?_)
  rw [hx] at hy
  cases hy
  exact SameP.refl 9 x (h x (List.mem_of_getElem? hx))
end DL

set_option Elab.async false
set_option linter.all false
set_option maxRecDepth 100000
set_option maxHeartbeats 2000000
namespace DL
open PySem PySem.Spec L2
open PyProof.Rows hiding St
/-! ### sorted(d) of a dict with at most two keys, texts -/
def srt2 : List Str → Option (List Str)
  | [] => some []
  | [a] => some [a]
  | [a, b] => if b.cps.toList < a.cps.toList then some [b, a] else some [a, b]
  | _ => none
def strKeys : List (Key × D) → Option (List Str)
  | [] => some []
  | (.inr s, _) :: r => (strKeys r).map (s :: ·)
  | _ => none
theorem perm2 {a b : Str} {ys : List Str} (h : ys.Perm [a, b]) : ys = [a, b] ∨ ys = [b, a] := by
  have hl := h.length_eq
  match ys, hl with
  | [x, y], _ =>
    have hx : x ∈ [a, b] := h.mem_iff.mp (List.mem_cons_self ..)
    simp only [List.mem_cons, List.not_mem_nil, or_false] at hx
    rcases hx with rfl | rfl
    · have := (List.perm_cons x).mp h
      rw [List.perm_singleton] at this
      exact .inl (by rw [this])
    · have := (List.perm_cons x).mp (h.trans (List.Perm.swap x a []))
      rw [List.perm_singleton] at this
      exact .inr (by rw [this])
theorem srt2_eq {ks ys zs : List Str} (h : srt2 ks = some zs) (p : ys.Perm ks) (s : sortedS ys = true) : ys = zs := by
  unfold srt2 at h
  split at h
  · cases h; exact List.perm_nil.mp p
  · cases h; exact List.perm_singleton.mp p
  · rename_i a b
    have rs : ∀ x y : Str, sortedS [x, y] = !decide (y.cps.toList < x.cps.toList) := fun x y => by
      show (!ltCps y.cps.toList x.cps.toList && true) = _
      rw [ltCps_eq, Bool.and_true]
    split at h
    · rename_i c
      cases h
      rcases perm2 p with e | e
      · rw [e, rs, decide_eq_true c] at s; cases s
      · exact e
    · rename_i c
      cases h
      rcases perm2 p with e | e
      · exact e
      · rw [e, rs] at s
        have c2 : ¬ a.cps.toList < b.cps.toList := by
          intro z
          rw [decide_eq_true z] at s
          cases s
        have : a.cps.toList = b.cps.toList := List.le_antisymm (List.not_lt.mp c) (List.not_lt.mp c2)
        have e2 : a = b := by
          cases a; cases b
          simp at this
          rw [this]
        rw [e, e2]
  · cases h
section
variable {c : Ctx} {X : Cx} {W : WX} {k : Nat} {N : List Str} {sc : Scope} {a b e o : Expr} {es : List Expr} {fa fb : FE} {pos apos : Pos}
theorem strKeys_rel {ρ : List Addr} {H : Hp} : ∀ {kvs : List (Key × D)} {ws : List (Key × V)} {ks : List Str}, RK c ρ H kvs ws → strKeys kvs = some ks → ws.map (·.1) = ks.map Sum.inr
  | [], ws, ks, h, e => by
    simp only [RK] at h
    subst h
    cases e
    rfl
  | (.inr s, d) :: kvs, ws, ks, h, e => by
    simp only [RK] at h
    obtain ⟨x, xs, rfl, h1, h2⟩ := h
    simp only [strKeys] at e
    cases e2 : strKeys kvs with
    | none => rw [e2] at e; cases e
    | some ks' =>
      rw [e2] at e
      cases e
      rw [List.map_cons, List.map_cons, strKeys_rel h2 e2]
  | (.inl i, d) :: kvs, ws, ks, h, e => by cases e
def sortedD (xs : List D) (M : DM) : Rs D := match xs with
  | [.obj n] => match M[n]? with
    | some (.dic kvs) => match strKeys kvs with
      | some ks => match srt2 ks with
        | some zs => .ok (.obj M.length) (M ++ [.lst (zs.map .str)])
        | none => .bad
      | none => .bad
    | _ => .bad
  | _ => .bad
theorem srt2_len {ks zs : List Str} (h : srt2 ks = some zs) : ks.length ≤ 2 := by
  unfold srt2 at h
  split at h <;> first | (simp; done) | cases h
theorem rds_strs {ρ : List Addr} {H : Hp} : ∀ zs : List Str, RDs c ρ H (zs.map .str) (zs.map V.str)
  | [] => by simp only [List.map_nil, RDs]
  | z :: zs => by
    simp only [List.map_cons, RDs]
    exact ⟨_, _, rfl, by simp only [RD], rds_strs zs⟩
theorem ve_sorted {f : FA} {p : Pos} (I : In c X W k N sc) (hC : Cold X) (n : Gn sc "sorted") (hm : c.mg "sorted" = none) (ha : VA c X W [e] f) (he : starEach [e] X.env = [(false, eval e X.env)] := by rfl) : VE c X W (.Call (.Name "sorted" p) [e] [] pos) (eCall sortedD f) := by
  refine ve_callB I (call_sortedD hC.calm) ?_ n hm PyProof.Rows.boot_sorted ha (he := he)
  intro ρ M H σ xs vs Q P r h
  unfold sortedD at h
  split at h
  · rename_i n
    split at h
    · rename_i kvs eM
      split at h
      · rename_i ks ek
        split at h
        · rename_i zs ez
          obtain ⟨v, rfl, rv⟩ := rds1 r
          simp only [RD] at rv
          obtain ⟨a, rfl, ha⟩ := rv
          obtain ⟨ws, q1, q2⟩ := P.at_ _ _ _ eM ha
          refine ⟨a, ws, ks, rfl, .inl q1, strKeys_rel q2 ek, by have := srt2_len ez; omega, fun ys p hp hs hn => ?_⟩
          rw [srt2_eq ez hp hs]
          exact post_lst P (rds_strs zs) hn h
        · exact h.elim
      · exact h.elim
    · exact h.elim
  · exact h.elim
/-! ### xs.index(y), texts -/
def findS : List D → Str → Option Nat
  | .str s :: r, y => if s = y then some 0 else (findS r y).map (· + 1)
  | _, _ => none
def indexD (x : D) (xs : List D) (M : DM) : Rs D := match x, xs with
  | .obj n, [.str y] => match M[n]? with
    | some (.lst ds) => if (ds.all fun d => match d with | .str _ => true | _ => false) = true then (match findS ds y with
      | some j => .ok (.int j) M
      | none => .bad) else .bad
    | _ => .bad
  | _, _ => .bad
theorem findS_rel {ρ : List Addr} {H : Hp} {y : Str} : ∀ {ds : List D} {ys : List V} {j : Nat}, RDs c ρ H ds ys → (ds.all fun d => match d with | .str _ => true | _ => false) = true → findS ds y = some j →
    ys.all flatV = true ∧ (∃ z, ys[j]? = some z ∧ eqV z (.str y) = true) ∧ ∀ (m : Nat) (z' : V), m < j → ys[m]? = some z' → eqV z' (.str y) = false
  | .str s :: ds, ys, j, r, ha, h => by
    simp only [RDs] at r
    obtain ⟨x, xs, rfl, r1, r2⟩ := r
    simp only [RD] at r1
    subst r1
    have all : ∀ {ds : List D} {xs : List V}, RDs c ρ H ds xs → (ds.all fun d => match d with | .str _ => true | _ => false) = true → xs.all flatV = true := by
      intro ds
      induction ds with
      | nil => intro xs r _; simp only [RDs] at r; subst r; rfl
      | cons d ds ih =>
        intro xs r h
        simp only [RDs] at r
        obtain ⟨x, xs', rfl, r1, r2⟩ := r
        rw [List.all_cons, Bool.and_eq_true] at h
        cases d with
        | str s => simp only [RD] at r1; subst r1; rw [List.all_cons, ih r2 h.2]; rfl
        | _ => exact absurd h.1 (by simp)
    rw [List.all_cons, Bool.and_eq_true] at ha
    simp only [findS] at h
    split at h
    · rename_i e
      cases h
      refine ⟨by rw [List.all_cons, all r2 ha.2]; rfl, ⟨.str s, rfl, ?_⟩, fun m z' hm => absurd hm (Nat.not_lt_zero _)⟩
      show (s == y) = true
      rw [e]
      simp
    · rename_i e
      cases e2 : findS ds y with
      | none => rw [e2] at h; cases h
      | some i =>
        rw [e2] at h
        cases h
        obtain ⟨h1, ⟨z, h2, h3⟩, h4⟩ := findS_rel r2 ha.2 e2
        refine ⟨by rw [List.all_cons, h1]; rfl, ⟨z, by simpa using h2, h3⟩, fun m z' hm hz => ?_⟩
        cases m with
        | zero =>
          cases hz
          show (s == y) = false
          exact beq_eq_false_iff_ne.mpr e
        | succ m => exact h4 m z' (Nat.lt_of_succ_lt_succ hm) (by simpa using hz)
  | [], _, _, _, _, h => by cases h
  | .non :: _, _, _, _, _, h => by cases h
  | .bl _ :: _, _, _, _, _, h => by cases h
  | .int _ :: _, _, _, _, _, h => by cases h
  | .tup _ :: _, _, _, _, _, h => by cases h
  | .rol _ :: _, _, _, _, _, h => by cases h
  | .obj _ :: _, _, _, _, _, h => by cases h
  | .cl _ :: _, _, _, _, _, h => by cases h
  | .ty _ :: _, _, _, _, _, h => by cases h
theorem o_index : OpM c W (rIndex c.K) indexD := by
  intro ρ M H σ x v xs vs Q P rx rs h
  unfold indexD at h
  split at h
  · rename_i n y
    split at h
    · rename_i ds eM
      split at h
      · rename_i hall
        split at h
        · rename_i j ej
          simp only [RD] at rx
          obtain ⟨a, rfl, ha⟩ := rx
          obtain ⟨y', rfl, ry⟩ := rds1 rs
          simp only [RD] at ry
          subst ry
          obtain ⟨zs, q1, q2⟩ := P.at_ _ _ _ eM ha
          obtain ⟨h1, ⟨z, h2, h3⟩, h4⟩ := findS_rel q2 hall ej
          exact ⟨a, zs, .str y, j, z, rfl, rfl, .of q1, rfl, h1, h2, h3, h4, h ρ H _ .refl P (by simp only [RD])⟩
        · exact h.elim
      · exact h.elim
    · exact h.elim
  · exact h.elim
theorem ve_index {fo : FE} {ff : FA} {cpos : Pos} (I : In c X W k N sc) (ho : VE c X W o fo) (ha : VA c X W [e] ff)
    (hbase : attributeBase o "index" X.env (eval o X.env) = eval o X.env := by rfl)
    (hfew : ((backTo cpos (starEach [e] X.env)).all (fun x => !x.1) && (backToKw cpos (keywordEach [] X.env)).all (fun x => x.1.isSome)
      && decide ([e].length + ([] : List Keyword).length + (if ([] : List Keyword).isEmpty then 0 else 1) < 30)) = true := by rfl)
    (hline : (apos.endLine == cpos.line) = true := by rfl) (hs : starEach [e] X.env = (false, eval e X.env) :: starEach [] X.env := by rfl) :
    VE c X W (.Call (.Attribute o "index" apos) [e] [] cpos) (eMt "list" indexD fo ff) :=
  ve_bm I PySem.F.plainAttrs_list PySem.F.slot_list_index PySem.F.type_list_index (by have h := mt_index (X := X); rw [I.hK] at h; exact h) o_index ho ha hbase hfew hline hs rfl
end
end DL

set_option Elab.async false
set_option linter.all false
set_option maxRecDepth 100000
set_option maxHeartbeats 2000000
namespace DL
open PySem PySem.Spec L2
open PyProof.Rows hiding St
section
variable {c : Ctx} {X : Cx} {W : WX} {k : Nat} {N : List Str} {sc : Scope} {a b e o : Expr} {es : List Expr} {fa fb : FE} {pos apos cpos : Pos}
/-- xs.pop() -/
def popD (x : D) (xs : List D) (M : DM) : Rs D := match x, xs with
  | .obj n, [] => match M[n]? with
    | some (.lst ds) => match ds[ds.length - 1]? with
      | some d => .ok d (M.set n (.lst ds.dropLast))
      | none => .bad
    | _ => .bad
  | _, _ => .bad
theorem RDs.dropLast {ρ : List Addr} {H : Hp} {ds : List D} {xs : List V} (r : RDs c ρ H ds xs) : RDs c ρ H ds.dropLast xs.dropLast := by
  rw [List.dropLast_eq_take, List.dropLast_eq_take, RDs.len _ _ r]
  exact RDs.take _ _ _ r
theorem o_pop : OpM c W rPop popD := by
  intro ρ M H σ x v xs vs Q P rx rs h
  unfold popD at h
  split at h
  · rename_i n
    split at h
    · rename_i ds eM
      split at h
      · rename_i d ed
        simp only [RD] at rx
        obtain ⟨a, rfl, ha⟩ := rx
        simp only [RDs] at rs
        subst rs
        obtain ⟨zs, q1, q2⟩ := P.at_ _ _ _ eM ha
        obtain ⟨w, h1, h2⟩ := RDs.get _ _ q2 _ _ ed
        obtain ⟨P4, e4⟩ := post_write (W := W) (ds := ds) P ha q2.dropLast
        exact ⟨a, zs, w, rfl, rfl, q1, by rw [← RDs.len _ _ q2]; exact h1, h ρ _ w e4 P4 (RD.mono e4 _ _ h2)⟩
      · exact h.elim
    · exact h.elim
  · exact h.elim
theorem ve_bm0 {name : Str} {T id : String} {r : V → List V → Hp → VK → Prop} {g : D → List D → DM → Rs D} {fo : FE} (I : In c X W k N sc) (pa : PlainAttrs T) (slot : Slot T name id)
    (hty : typeOf (.builtin id) = pure (.type "method_descriptor")) (hm : MtR X id r) (hg : OpM c W r g) (ho : VE c X W o fo)
    (hbase : attributeBase o name X.env (eval o X.env) = eval o X.env := by rfl) (hline : (apos.endLine == cpos.line) = true := by rfl) :
    VE c X W (.Call (.Attribute o name apos) [] [] cpos) (eMt T g fo aNil) := by
  obtain ⟨t, p, s⟩ := ho
  refine ⟨_, pe_bm0 pa slot hty hm p hbase hline, fun ρ M H δ σ Q P r h => ?_⟩
  refine s.bind P r h fun x M1 ρ1 H1 v e1 P1 s1' r1 _ h1 => ?_
  split at h1
  · rename_i ty
    refine ⟨by rw [I.hK]; exact tyD_ok P1 r1 ty, ?_⟩
    exact hg ρ1 M1 H1 σ x v [] [] Q P1 r1 (by simp only [RDs]) h1
  · exact h1.elim
theorem ve_pop {fo : FE} (I : In c X W k N sc) (ho : VE c X W o fo) (_ : VA c X W [] aNil)
    (hbase : attributeBase o "pop" X.env (eval o X.env) = eval o X.env := by rfl) (hline : (apos.endLine == cpos.line) = true := by rfl) : VE c X W (.Call (.Attribute o "pop" apos) [] [] cpos) (eMt "list" popD fo aNil) :=
  ve_bm0 I PySem.F.plainAttrs_list PySem.F.slot_list_pop PySem.F.type_list_pop mt_pop o_pop ho hbase hline
/-- (a, b, ..) = a list of ours -/
def gLstN (is : List Nat) : FG := fun d δ M => match d with
  | .obj n => match M[n]? with
    | some (.lst ds) => match gNms is ds δ with
      | some δ' => some (δ', M)
      | none => none
    | _ => none
  | _ => none
theorem vg_lst (I : InS c X W k N sc) (hC : Cold X) {m : Nat} {is : List Nat} (h : VGs c X es is) (hn : (assignEach es X.env).length = es.length := by rfl) (hst : (assignEach es X.env).findIdx? (·.1) = none := by rfl) : VG c X (.Tuple es m pos) (gLstN is) := by
  obtain ⟨⟨t, p, s⟩, hl⟩ := h
  refine ⟨_, pg_lst hC.calm p hn hst, fun ρ M H δ σ d v Q P r rd h => ?_⟩
  cases d with
  | obj n =>
    simp only [gLstN] at h
    simp only [RD] at rd
    obtain ⟨a, rfl, ha⟩ := rd
    cases eM : M[n]? with
    | none => rw [eM] at h; exact h.elim
    | some mo =>
      rw [eM] at h
      cases mo with
      | lst ds =>
        simp only at h
        cases e : gNms is ds δ with
        | none => rw [e] at h; exact h.elim
        | some δ' =>
          rw [e] at h
          obtain ⟨xs, q1, q2⟩ := P.at_ _ _ _ eM ha
          refine ⟨a, xs, rfl, .of q1, by rw [← RDs.len _ _ q2, ← gNms_len e, hl], ?_⟩
          exact s ρ M H δ σ ds xs Q δ' P r q2 e fun σ' s' => h ρ H σ' .refl P s'
      | _ => exact h.elim
  | _ => exact h.elim
end
end DL

set_option Elab.async false
set_option linter.all false
set_option maxRecDepth 100000
set_option maxHeartbeats 4000000
namespace DL
open PySem PySem.Spec L2
open PyProof.Rows hiding St
/-! ### the ends that the answers lead to: on data alone -/
abbrev Cfg := List D × Str
def splitP (ws : List D) : List D := ws.flatMap halvesP
def aft (nk : List (Str × D)) (h : D) (s : Str) : Str := if s = "done" ∨ ending nk (stp h) = true then "done" else "error"
def kidsH (nk : List (Str × D)) (p : List D) (h : D) (s : Str) : List Cfg := if grd h = s then [(p, "error"), (p ++ splitP (fur h), aft nk h s)] else [(p, s)]
/-- a pile that is told from its top (reversed) -/
def kids (nk : List (Str × D)) (c : Cfg) : List Cfg := match c.1.getLast? with
  | none => []
  | some h => kidsH nk c.1.dropLast h c.2
inductive Ends (nk : List (Str × D)) : Cfg → Str → Prop
  | stop (s : Str) : Ends nk ([], s) s
  | step {c k : Cfg} {e : Str} (hk : k ∈ kids nk c) (h : Ends nk k e) : Ends nk c e
def wtH : Nat → D → Nat
  | 0, _ => 0
  | n + 1, h => 1 + ((splitP (fur h)).map (wtH n)).sum
def Deep : Nat → D → Prop
  | 0, _ => False
  | n + 1, h => ∀ x ∈ splitP (fur h), Deep n x
theorem wtH_stay : ∀ {n m : Nat} {h : D}, Deep n h → n ≤ m → wtH m h = wtH n h
  | 0, _, _, h, _ => h.elim
  | n + 1, m + 1, h, hd, hm => by
    show 1 + ((splitP (fur h)).map (wtH m)).sum = 1 + ((splitP (fur h)).map (wtH n)).sum
    have : (splitP (fur h)).map (wtH m) = (splitP (fur h)).map (wtH n) := List.map_congr_left fun x hx => wtH_stay (hd x hx) (by omega)
    rw [this]
theorem Deep.succ : ∀ {n : Nat} {h : D}, Deep n h → Deep (n + 1) h
  | 0, _, h => h.elim
  | n + 1, h, hd => fun x hx => Deep.succ (hd x hx)
theorem Deep.mono {n m : Nat} {h : D} (hd : Deep n h) (hm : n ≤ m) : Deep m h := by
  induction hm with
  | refl => exact hd
  | step _ ih => exact ih.succ
def wtP (n : Nat) (p : List D) : Nat := (p.map (wtH n)).sum
theorem wtP_app {n : Nat} {p q : List D} : wtP n (p ++ q) = wtP n p + wtP n q := by
  unfold wtP
  rw [List.map_append, List.sum_append]
theorem kids_wt {nk : List (Str × D)} {n : Nat} {c k : Cfg} (hd : ∀ h ∈ c.1, Deep n h) (hk : k ∈ kids nk c) : wtP n k.1 < wtP n c.1 ∧ ∀ h ∈ k.1, Deep n h := by
  unfold kids at hk
  split at hk
  · cases hk
  · rename_i h e
    obtain ⟨p, hp⟩ : ∃ p, c.1 = p ++ [h] := ⟨c.1.dropLast, by
      have := List.getLast?_eq_some_iff.mp e
      obtain ⟨q, hq⟩ := this
      rw [hq]
      simp⟩
    rw [hp] at hk hd ⊢
    simp only [List.dropLast_concat] at hk
    have hdh := hd h (by simp)
    have hdp : ∀ x ∈ p, Deep n x := fun x hx => hd x (by simp [hx])
    have w1 : wtP n (p ++ [h]) = wtP n p + wtH n h := by rw [wtP_app]; simp [wtP]
    cases n with
    | zero => exact hdh.elim
    | succ n =>
      have wh : wtH (n + 1) h = 1 + wtP n (splitP (fur h)) := rfl
      have ws : wtP (n + 1) (splitP (fur h)) = wtP n (splitP (fur h)) := by
        unfold wtP
        rw [List.map_congr_left fun x hx => wtH_stay (hdh x hx) (Nat.le_succ n)]
      unfold kidsH at hk
      split at hk
      · simp only [List.mem_cons, List.not_mem_nil, or_false] at hk
        rcases hk with rfl | rfl
        · exact ⟨by show wtP (n + 1) p < _; omega, hdp⟩
        · refine ⟨by show wtP (n + 1) (p ++ splitP (fur h)) < _; rw [wtP_app]; omega, fun x hx => ?_⟩
          rcases List.mem_append.mp hx with z | z
          · exact hdp x z
          · exact (hdh x z).succ
      · simp only [List.mem_cons, List.not_mem_nil, or_false] at hk
        subst hk
        exact ⟨by show wtP (n + 1) p < _; omega, hdp⟩
/-! ### what the ends are -/
theorem kids_nil {nk : List (Str × D)} {s : Str} : kids nk ([], s) = [] := rfl
theorem kids_snoc {nk : List (Str × D)} {p : List D} {h : D} {s : Str} : kids nk (p ++ [h], s) = kidsH nk p h s := by
  unfold kids
  simp only [List.getLast?_concat, List.dropLast_concat]
theorem snoc_of {p : List D} (h : p ≠ []) : ∃ q x, p = q ++ [x] := ⟨p.dropLast, p.getLast h, (List.dropLast_concat_getLast h).symm⟩
theorem kidsH_pre {nk : List (Str × D)} {p q : List D} {h : D} {s : Str} : kidsH nk (p ++ q) h s = (kidsH nk q h s).map fun c => (p ++ c.1, c.2) := by
  unfold kidsH
  split <;> simp [List.append_assoc]
theorem Ends.split {nk : List (Str × D)} {c : Cfg} {e : Str} (h : Ends nk c e) : ∀ (p w : List D), c.1 = p ++ w → ∃ t, Ends nk (w, c.2) t ∧ Ends nk (p, t) e := by
  induction h with
  | stop s =>
    intro p w hp
    have : p = [] ∧ w = [] := by simpa using hp.symm
    obtain ⟨rfl, rfl⟩ := this
    exact ⟨s, .stop s, .stop s⟩
  | @step c k e hk h ih =>
    intro p w hp
    by_cases hw : w = []
    · subst hw
      have : c = (p, c.2) := by rw [← show c.1 = p by simpa using hp]
      exact ⟨c.2, .stop _, by rw [← this]; exact .step hk h⟩
    · obtain ⟨q, x, rfl⟩ := snoc_of hw
      have hc : c = (p ++ q ++ [x], c.2) := by rw [List.append_assoc, ← hp]
      rw [hc, kids_snoc, kidsH_pre] at hk
      obtain ⟨k', hk', rfl⟩ := List.mem_map.mp hk
      obtain ⟨t, h1, h2⟩ := ih p k'.1 rfl
      exact ⟨t, .step (by rw [kids_snoc]; exact hk') h1, h2⟩
theorem Ends.join {nk : List (Str × D)} {c : Cfg} {t : Str} (h : Ends nk c t) {p : List D} {e : Str} (h2 : Ends nk (p, t) e) : Ends nk (p ++ c.1, c.2) e := by
  induction h with
  | stop s => simpa using h2
  | @step c k t hk h ih =>
    have hne : c.1 ≠ [] := by
      intro z
      have : c = ([], c.2) := by rw [← z]
      rw [this, kids_nil] at hk
      cases hk
    obtain ⟨q, x, hq⟩ := snoc_of hne
    have hc : c = (q ++ [x], c.2) := by rw [← hq]
    refine .step (k := (p ++ k.1, k.2)) ?_ (ih h2)
    rw [hc, kids_snoc] at hk
    rw [hq, ← List.append_assoc, kids_snoc, kidsH_pre]
    exact List.mem_map.mpr ⟨k, hk, rfl⟩
theorem ends_two {nk : List (Str × D)} {c : Cfg} {e : Str} (h : Ends nk c e) (hs : c.2 = "done" ∨ c.2 = "error") : e = "done" ∨ e = "error" := by
  induction h with
  | stop s => exact hs
  | @step c k t hk h ih =>
    refine ih ?_
    unfold kids at hk
    split at hk
    · cases hk
    · unfold kidsH at hk
      split at hk
      · simp only [List.mem_cons, List.not_mem_nil, or_false] at hk
        rcases hk with rfl | rfl
        · exact .inr rfl
        · show aft _ _ _ = _ ∨ aft _ _ _ = _
          unfold aft
          split
          · exact .inl rfl
          · exact .inr rfl
      · simp only [List.mem_cons, List.not_mem_nil, or_false] at hk
        subst hk
        exact hs
/-- from done, done can be left: every answer is 1 -/
theorem done_left {nk : List (Str × D)} {n : Nat} : ∀ (m : Nat) (w : List D), (∀ h ∈ w, Deep n h) → wtP n w ≤ m → Ends nk (w, "done") "done" := by
  intro m
  induction m with
  | zero =>
    intro w hd hm
    by_cases hw : w = []
    · subst hw; exact .stop _
    · obtain ⟨q, x, rfl⟩ := snoc_of hw
      have := hd x (by simp)
      cases n with
      | zero => exact this.elim
      | succ n =>
        rw [wtP_app] at hm
        have : wtP (n + 1) [x] = 1 + wtP n (splitP (fur x)) := by simp [wtP, wtH]
        omega
  | succ m ih =>
    intro w hd hm
    by_cases hw : w = []
    · subst hw; exact .stop _
    · obtain ⟨q, x, rfl⟩ := snoc_of hw
      by_cases hg : grd x = "done"
      · have hk : (q ++ splitP (fur x), ("done" : Str)) ∈ kids nk (q ++ [x], "done") := by
          rw [kids_snoc]
          unfold kidsH
          rw [if_pos hg]
          have : aft nk x "done" = "done" := by unfold aft; rw [if_pos (.inl rfl)]
          rw [this]
          simp
        obtain ⟨h1, h2⟩ := kids_wt hd hk
        exact .step hk (ih _ h2 (by simp only at h1; omega))
      · have hk : (q, ("done" : Str)) ∈ kids nk (q ++ [x], "done") := by
          rw [kids_snoc]
          unfold kidsH
          rw [if_neg hg]
          simp
        obtain ⟨h1, h2⟩ := kids_wt hd hk
        exact .step hk (ih _ h2 (by simp only at h1; omega))
/-- no further ones under error, at all depths -/
def Leaf (d : D) : Prop := grd d = "error" → fur d = []
/-- one half -/
theorem ends_one {nk : List (Str × D)} {n : Nat} {h : D} {s t : Str} (hd : Deep n h) (hl : Leaf h) (hg : grd h = "done" ∨ grd h = "error") (hs : s = "done" ∨ s = "error") : Ends nk ([h], s) t ↔ t ∈ belowP nk h [s] := by
  cases n with
  | zero => exact hd.elim
  | succ n =>
  have deep : ∀ x ∈ splitP (fur h), Deep n x := hd
  have hk : kids nk ([h], s) = kidsH nk [] h s := kids_snoc (p := [])
  have inv : ∀ {e : Str}, Ends nk ([h], s) e ↔ ∃ k ∈ kidsH nk [] h s, Ends nk k e := by
    intro e
    constructor
    · intro z
      cases z with
      | step hk' hz => exact ⟨_, by rw [← hk]; exact hk', hz⟩
    · rintro ⟨k, hk', z⟩
      exact .step (by rw [hk]; exact hk') z
  have nilE : ∀ {a e : Str}, Ends nk ([], a) e ↔ e = a := by
    intro a e
    constructor
    · intro z
      cases z with
      | stop => rfl
      | step hk' _ => cases hk'
    · rintro rfl; exact .stop _
  rw [inv]
  unfold belowP kidsH
  by_cases he : grd h = s
  · rw [if_pos he]
    simp only [List.mem_cons, List.not_mem_nil, or_false, he, true_and, exists_eq_or_imp, exists_eq_left, nilE, List.nil_append]
    by_cases ha : s = "done" ∨ ending nk (stp h) = true
    · have : aft nk h s = "done" := by unfold aft; rw [if_pos ha]
      rw [if_pos ha, this]
      simp only [List.mem_cons, List.not_mem_nil, or_false]
      constructor
      · rintro (e | e)
        · exact .inr e
        · exact ends_two e (.inl rfl)
      · rintro (rfl | rfl)
        · exact .inr (done_left _ _ deep (Nat.le_refl _))
        · exact .inl rfl
    · have : aft nk h s = "error" := by unfold aft; rw [if_neg ha]
      rw [if_neg ha, this]
      have hs' : s = "error" := hs.resolve_left fun z => ha (.inl z)
      have : splitP (fur h) = [] := by rw [hl (he.trans hs')]; rfl
      rw [this, nilE, hs']
      simp
  · rw [if_neg he]
    have : ¬ (grd h ∈ [s] ∧ (grd h = "done" ∨ ending nk (stp h) = true)) := fun z => he (by simpa using z.1)
    rw [if_neg this]
    simp only [List.mem_cons, List.not_mem_nil, or_false, exists_eq_left, nilE]
def topsP (nk : List (Str × D)) (p : List D) (sts : List Str) : List Str := p.reverse.foldl (fun S h => belowP nk h S) sts
theorem below_mem {nk : List (Str × D)} {h : D} {sts : List Str} {t : Str} (hS : ∀ s ∈ sts, s = "done" ∨ s = "error") : t ∈ belowP nk h sts ↔ ∃ s ∈ sts, t ∈ belowP nk h [s] := by
  unfold belowP
  by_cases hg : grd h = "done" ∨ ending nk (stp h) = true
  · by_cases hm : grd h ∈ sts
    · rw [if_pos ⟨hm, hg⟩]
      constructor
      · intro ht
        exact ⟨grd h, hm, by rw [if_pos ⟨by simp, hg⟩]; exact ht⟩
      · rintro ⟨s, hs, ht⟩
        split at ht
        · exact ht
        · have : t = s := by simpa using ht
          subst this
          simpa using hS t hs
    · rw [if_neg (fun z => hm z.1)]
      constructor
      · intro ht
        exact ⟨t, ht, by rw [if_neg (fun z => hm (by have := z.1; simp at this; rw [this]; exact ht))]; simp⟩
      · rintro ⟨s, hs, ht⟩
        rw [if_neg (fun z => hm (by have := z.1; simp at this; rw [this]; exact hs))] at ht
        have : t = s := by simpa using ht
        subst this; exact hs
  · rw [if_neg (fun z => hg z.2)]
    constructor
    · intro ht
      exact ⟨t, ht, by rw [if_neg (fun z => hg z.2)]; simp⟩
    · rintro ⟨s, hs, ht⟩
      rw [if_neg (fun z => hg z.2)] at ht
      have : t = s := by simpa using ht
      subst this; exact hs
theorem below_two {nk : List (Str × D)} {h : D} {sts : List Str} (hS : ∀ s ∈ sts, s = "done" ∨ s = "error") : ∀ s ∈ belowP nk h sts, s = "done" ∨ s = "error" := by
  unfold belowP
  split
  · simp
  · exact hS
/-- the states below a word are the ends -/
theorem ends_tops {nk : List (Str × D)} {n : Nat} : ∀ (r : List D), (∀ h ∈ r, Deep n h ∧ Leaf h ∧ (grd h = "done" ∨ grd h = "error")) → ∀ (sts : List Str), (∀ s ∈ sts, s = "done" ∨ s = "error") → ∀ e, e ∈ r.foldl (fun S h => belowP nk h S) sts ↔ ∃ s ∈ sts, Ends nk (r.reverse, s) e := by
  intro r
  induction r with
  | nil =>
    intro _ sts _ e
    simp only [List.foldl_nil, List.reverse_nil]
    constructor
    · intro h; exact ⟨e, h, .stop _⟩
    · rintro ⟨s, hs, z⟩
      cases z with
      | stop => exact hs
      | step hk _ => cases hk
  | cons h r ih =>
    intro hr sts hS e
    obtain ⟨h1, h2, h3⟩ := hr h (by simp)
    rw [List.foldl_cons, ih (fun x hx => hr x (List.mem_cons_of_mem _ hx)) _ (below_two hS), List.reverse_cons]
    constructor
    · rintro ⟨t, ht, z⟩
      obtain ⟨s, hs, ht⟩ := (below_mem hS).mp ht
      refine ⟨s, hs, ?_⟩
      have := ((ends_one h1 h2 h3 (hS s hs)).mpr ht).join z
      exact this
    · rintro ⟨s, hs, z⟩
      obtain ⟨t, z1, z2⟩ := z.split r.reverse [h] rfl
      exact ⟨t, (below_mem hS).mpr ⟨s, hs, (ends_one h1 h2 h3 (hS s hs)).mp z1⟩, z2⟩
/-- the four sets, in the order in which they stand -/
def canon (S : List Str) : List Str := (["done", "error"] : List Str).filter fun s => decide (s ∈ S)
theorem canon_tops {nk : List (Str × D)} : ∀ (r : List D) (sts : List Str), canon sts = sts → canon (r.foldl (fun S h => belowP nk h S) sts) = r.foldl (fun S h => belowP nk h S) sts := by
  intro r
  induction r with
  | nil => intro sts h; exact h
  | cons h r ih =>
    intro sts hs
    rw [List.foldl_cons]
    refine ih _ ?_
    unfold belowP
    split
    · simp [canon]
    · exact hs
theorem canon_eq {S T : List Str} (h : ∀ e, e ∈ S ↔ e ∈ T) : canon S = canon T := by
  unfold canon
  congr 1
  funext s
  exact decide_eq_decide.mpr (h s)
theorem canon_two {S : List Str} (h : canon S = S) : ∀ s ∈ S, s = "done" ∨ s = "error" := by
  intro s hs
  rw [← h] at hs
  have := (List.mem_filter.mp hs).1
  simpa using this
/-! ### the walk over configurations -/
structure WSt where
  todo : List Cfg
  known : List Cfg
  ends : List Str
def measC (n : Nat) (c : Cfg) : Nat := 3 ^ wtP n c.1
def measW (n : Nat) (l : List Cfg) : Nat := (l.map (measC n)).sum
theorem measW_app {n : Nat} {l m : List Cfg} : measW n (l ++ m) = measW n l + measW n m := by
  unfold measW
  rw [List.map_append, List.sum_append]
structure WInv (nk : List (Str × D)) (n : Nat) (st : List Cfg) (w : WSt) : Prop where
  deep : ∀ c ∈ w.todo, ∀ h ∈ c.1, Deep n h
  sound : ∀ c ∈ w.todo, ∀ e, Ends nk c e → ∃ s ∈ st, Ends nk s e
  soundE : ∀ e ∈ w.ends, ∃ s ∈ st, Ends nk s e
  full : ∀ c ∈ w.known, c.1 ≠ []
  start : ∀ c ∈ st, (c.1 = [] ∧ c.2 ∈ w.ends) ∨ c ∈ w.known ∨ c ∈ w.todo
  step : ∀ c ∈ w.known, ∀ k ∈ kids nk c, (k.1 = [] ∧ k.2 ∈ w.ends) ∨ k ∈ w.known ∨ k ∈ w.todo
theorem WInv.last {nk : List (Str × D)} {n : Nat} {st : List Cfg} {w : WSt} (I : WInv nk n st w) (h : w.todo = []) : ∀ e, e ∈ w.ends ↔ ∃ s ∈ st, Ends nk s e := by
  have cov : ∀ (c : Cfg) (e : Str), Ends nk c e → ((c.1 = [] ∧ c.2 ∈ w.ends) ∨ c ∈ w.known ∨ c ∈ w.todo) → e ∈ w.ends := by
    intro c e z
    induction z with
    | stop s =>
      rintro (⟨_, h⟩ | h' | h')
      · exact h
      · exact absurd rfl (I.full _ h')
      · rw [h] at h'; cases h'
    | @step c k e hk _ ih =>
      rintro (⟨h', _⟩ | h' | h')
      · have : c = ([], c.2) := by rw [← h']
        rw [this] at hk; cases hk
      · exact ih (I.step c h' k hk)
      · rw [h] at h'; cases h'
  intro e
  constructor
  · exact I.soundE e
  · rintro ⟨s, hs, z⟩
    exact cov s e z (I.start s hs)
/-- one turn takes the last configuration off -/
theorem WInv.stop {nk : List (Str × D)} {n : Nat} {st : List Cfg} {t : List Cfg} {k : List Cfg} {es : List Str} {s : Str} (I : WInv nk n st ⟨t ++ [([], s)], k, es⟩) : WInv nk n st ⟨t, k, es ++ [s]⟩ where
  deep c hc := I.deep c (by simp [hc])
  sound c hc := I.sound c (by simp [hc])
  soundE e he := by
    rcases List.mem_append.mp he with h | h
    · exact I.soundE e h
    · have : e = s := by simpa using h
      subst this
      exact I.sound ([], e) (by simp) e (.stop _)
  full := I.full
  start c hc := by
    rcases I.start c hc with h | h | h
    · exact .inl ⟨h.1, by simp [h.2]⟩
    · exact .inr (.inl h)
    · rcases List.mem_append.mp h with h | h
      · exact .inr (.inr h)
      · have : c = ([], s) := by simpa using h
        subst this
        exact .inl ⟨rfl, by simp⟩
  step c hc k' hk' := by
    rcases I.step c hc k' hk' with h | h | h
    · exact .inl ⟨h.1, by simp [h.2]⟩
    · exact .inr (.inl h)
    · rcases List.mem_append.mp h with h | h
      · exact .inr (.inr h)
      · have : k' = ([], s) := by simpa using h
        subst this
        exact .inl ⟨rfl, by simp⟩
theorem WInv.skip {nk : List (Str × D)} {n : Nat} {st : List Cfg} {t : List Cfg} {k : List Cfg} {es : List Str} {c : Cfg} (I : WInv nk n st ⟨t ++ [c], k, es⟩) (hc : c ∈ k) : WInv nk n st ⟨t, k, es⟩ where
  deep c hc := I.deep c (by simp [hc])
  sound c hc := I.sound c (by simp [hc])
  soundE := I.soundE
  full := I.full
  start c' hc' := by
    rcases I.start c' hc' with h | h | h
    · exact .inl h
    · exact .inr (.inl h)
    · rcases List.mem_append.mp h with h | h
      · exact .inr (.inr h)
      · have : c' = c := by simpa using h
        subst this
        exact .inr (.inl hc)
  step c' hc' k' hk' := by
    rcases I.step c' hc' k' hk' with h | h | h
    · exact .inl h
    · exact .inr (.inl h)
    · rcases List.mem_append.mp h with h | h
      · exact .inr (.inr h)
      · have : k' = c := by simpa using h
        subst this
        exact .inr (.inl hc)
theorem WInv.go {nk : List (Str × D)} {n : Nat} {st : List Cfg} {t : List Cfg} {k : List Cfg} {es : List Str} {c : Cfg} (I : WInv nk n st ⟨t ++ [c], k, es⟩) (hc : c.1 ≠ []) : WInv nk n st ⟨t ++ kids nk c, k ++ [c], es⟩ where
  deep c' hc' := by
    rcases List.mem_append.mp hc' with h | h
    · exact I.deep c' (by simp [h])
    · exact (kids_wt (I.deep c (by simp)) h).2
  sound c' hc' e he := by
    rcases List.mem_append.mp hc' with h | h
    · exact I.sound c' (by simp [h]) e he
    · exact I.sound c (by simp) e (.step h he)
  soundE := I.soundE
  full c' hc' := by
    rcases List.mem_append.mp hc' with h | h
    · exact I.full c' h
    · have : c' = c := by simpa using h
      rw [this]; exact hc
  start c' hc' := by
    rcases I.start c' hc' with h | h | h
    · exact .inl h
    · exact .inr (.inl (by simp only at h ⊢; simp [h]))
    · rcases List.mem_append.mp h with h | h
      · exact .inr (.inr (by simp [h]))
      · exact .inr (.inl (by simp only; simp at h; simp [h]))
  step c' hc' k' hk' := by
    rcases List.mem_append.mp hc' with h | h
    · rcases I.step c' h k' hk' with h | h | h
      · exact .inl h
      · exact .inr (.inl (by simp only at h ⊢; simp [h]))
      · rcases List.mem_append.mp h with h | h
        · exact .inr (.inr (by simp [h]))
        · exact .inr (.inl (by simp only; simp at h; simp [h]))
    · have : c' = c := by simpa using h
      rw [this] at hk'
      exact .inr (.inr (by simp [hk']))
theorem kids_meas {nk : List (Str × D)} {n : Nat} {c : Cfg} (hd : ∀ h ∈ c.1, Deep n h) (hc : c.1 ≠ []) : measW n (kids nk c) < measC n c := by
  obtain ⟨p, h, hp⟩ := snoc_of hc
  have hc' : c = (p ++ [h], c.2) := by rw [← hp]
  have lt : ∀ k ∈ kids nk c, 3 * measC n k ≤ measC n c := by
    intro k hk
    have := (kids_wt hd hk).1
    unfold measC
    calc 3 * 3 ^ wtP n k.1 = 3 ^ (wtP n k.1 + 1) := by rw [Nat.pow_succ, Nat.mul_comm]
      _ ≤ 3 ^ wtP n c.1 := Nat.pow_le_pow_right (by decide) this
  have two : (kids nk c).length ≤ 2 := by
    rw [hc', kids_snoc]
    unfold kidsH
    split <;> simp
  have pos : 0 < measC n c := Nat.pow_pos (by decide)
  rcases hk : kids nk c with _ | ⟨a, _ | ⟨b, _ | ⟨d, r⟩⟩⟩
  · simpa [measW] using pos
  · have := lt a (by rw [hk]; simp)
    simp only [measW, List.map_cons, List.map_nil, List.sum_cons, List.sum_nil]
    omega
  · have h1 := lt a (by rw [hk]; simp)
    have h2 := lt b (by rw [hk]; simp)
    simp only [measW, List.map_cons, List.map_nil, List.sum_cons, List.sum_nil]
    omega
  · rw [hk] at two
    simp at two
/-! ### how many configurations -/
mutual
def closH : Nat → D → List (List D)
  | 0, _ => []
  | n + 1, h => [h] :: closL n [] (splitP (fur h))
def closL : Nat → List D → List D → List (List D)
  | _, _, [] => []
  | n, pre, x :: w => (closH n x).map (pre ++ ·) ++ closL n (pre ++ [x]) w
end
theorem closL_len {n : Nat} (ih : ∀ h, (closH n h).length = wtH n h) : ∀ (w pre : List D), (closL n pre w).length = wtP n w
  | [], pre => by simp [closL, wtP]
  | x :: w, pre => by
    simp only [closL, List.length_append, List.length_map, ih, closL_len ih w]
    simp [wtP]
theorem closH_len : ∀ (n : Nat) (h : D), (closH n h).length = wtH n h
  | 0, h => by simp [closH, wtH]
  | n + 1, h => by
    simp only [closH, List.length_cons, closL_len (closH_len n), wtH, wtP]
    omega
theorem mem_closL {n : Nat} {p : List D} : ∀ {w pre : List D}, p ∈ closL n pre w ↔ ∃ u x v r, w = u ++ x :: v ∧ r ∈ closH n x ∧ p = pre ++ u ++ r
  | [], pre => by simp [closL]
  | y :: w, pre => by
    simp only [closL, List.mem_append, List.mem_map]
    rw [mem_closL (w := w)]
    constructor
    · rintro (⟨r, hr, rfl⟩ | ⟨u, x, v, r, rfl, hr, rfl⟩)
      · exact ⟨[], y, w, r, rfl, hr, by simp⟩
      · exact ⟨y :: u, x, v, r, rfl, hr, by simp⟩
    · rintro ⟨u, x, v, r, e, hr, rfl⟩
      cases u with
      | nil =>
        simp at e
        obtain ⟨rfl, rfl⟩ := e
        exact .inl ⟨r, hr, by simp⟩
      | cons z u =>
        simp at e
        obtain ⟨rfl, rfl⟩ := e
        exact .inr ⟨u, x, v, r, rfl, hr, by simp⟩
theorem closH_self {n : Nat} {h : D} (hn : Deep n h) : [h] ∈ closH n h := by
  cases n with
  | zero => exact hn.elim
  | succ n => simp [closH]
theorem closH_ne {n : Nat} {h : D} {r : List D} (hr : r ∈ closH n h) : r ≠ [] := by
  induction n generalizing h r with
  | zero => simp [closH] at hr
  | succ n ih =>
    simp only [closH, List.mem_cons] at hr
    rcases hr with rfl | hr
    · simp
    · obtain ⟨u, x, v, r', _, h2, rfl⟩ := mem_closL.mp hr
      simp [ih h2]
/-- a beginning of the word -/
theorem closL_pre {n : Nat} {w pre u v : List D} (hd : ∀ h ∈ w, Deep n h) (e : w = u ++ v) : pre ++ u = pre ∨ pre ++ u ∈ closL n pre w := by
  by_cases hu : u = []
  · left; simp [hu]
  · right
    obtain ⟨q, x, rfl⟩ := snoc_of hu
    exact mem_closL.mpr ⟨q, x, v, [x], by rw [e]; simp, closH_self (hd x (by rw [e]; simp)), by simp⟩
theorem closL_closed : ∀ (n : Nat) (w : List D), (∀ h ∈ w, Deep n h) → ∀ (q : List D) (h : D), q ++ [h] ∈ closL n [] w → (q = [] ∨ q ∈ closL n [] w) ∧ (q ++ splitP (fur h) = [] ∨ q ++ splitP (fur h) ∈ closL n [] w) := by
  intro n
  induction n with
  | zero =>
    intro w hd q h hp
    obtain ⟨u, x, v, r, _, hr, _⟩ := mem_closL.mp hp
    simp [closH] at hr
  | succ n ih =>
    intro w hd q h hp
    obtain ⟨u, x, v, r, rfl, hr, e⟩ := mem_closL.mp hp
    have hx : Deep (n + 1) x := hd x (by simp)
    have hs : ∀ y ∈ splitP (fur x), Deep n y := hx
    have pre : u = [] ∨ u ∈ closL (n + 1) [] (u ++ x :: v) := by
      have := closL_pre (pre := []) hd (rfl : u ++ x :: v = u ++ (x :: v))
      simpa using this
    have inner : ∀ r', r' ∈ closL n [] (splitP (fur x)) → u ++ r' ∈ closL (n + 1) [] (u ++ x :: v) := fun r' h' => mem_closL.mpr ⟨u, x, v, r', rfl, by simp [closH, h'], by simp⟩
    simp only [closH, List.mem_cons] at hr
    rcases hr with rfl | hr
    · have e' : q ++ [h] = u ++ [x] := by simpa using e
      obtain ⟨rfl, e2⟩ := List.append_inj' e' rfl
      have : h = x := by simpa using e2
      subst this
      refine ⟨pre, ?_⟩
      have := closL_pre (pre := []) hs (show splitP (fur h) = splitP (fur h) ++ [] by simp)
      rcases this with z | z
      · have z : splitP (fur h) = [] := by simpa using z
        rw [z]; simpa using pre
      · right; exact inner _ (by simpa using z)
    · have hne : r ≠ [] := by
        obtain ⟨u', x', v', r', _, h2, rfl⟩ := mem_closL.mp hr
        simp [closH_ne h2]
      obtain ⟨r', y, rfl⟩ := snoc_of hne
      have e' : q ++ [h] = (u ++ r') ++ [y] := by simpa using e
      obtain ⟨rfl, e2⟩ := List.append_inj' e' rfl
      have : h = y := by simpa using e2
      subst this
      obtain ⟨h1, h2⟩ := ih _ hs r' h hr
      constructor
      · rcases h1 with rfl | h1
        · simpa using pre
        · exact .inr (inner _ h1)
      · rcases h2 with z | h2
        · rw [List.append_assoc, z]; simpa using pre
        · rw [List.append_assoc]; exact .inr (inner _ h2)
structure WFew (nk : List (Str × D)) (C : List (List D)) (w : WSt) : Prop where
  inT : ∀ c ∈ w.todo, (c.1 = [] ∨ c.1 ∈ C) ∧ (c.2 = "done" ∨ c.2 = "error")
  inK : ∀ c ∈ w.known, c.1 ∈ C ∧ (c.2 = "done" ∨ c.2 = "error")
  nd : w.known.Nodup
  many : w.todo.length + w.ends.length ≤ 2 + w.known.length
  inE : ∀ s ∈ w.ends, s = "done" ∨ s = "error"
theorem pig {α : Type} : ∀ (l m : List α), l.Nodup → (∀ x ∈ l, x ∈ m) → l.length ≤ m.length := by
  classical
  intro l
  induction l with
  | nil => intro m _ _; simp
  | cons x l ih =>
    intro m hl hm
    have hx := hm x (by simp)
    have := ih (m.erase x) (List.nodup_cons.mp hl).2 fun y hy => by
      have : y ≠ x := fun e => (List.nodup_cons.mp hl).1 (e ▸ hy)
      exact (List.mem_erase_of_ne this).mpr (hm y (by simp [hy]))
    rw [List.length_erase_of_mem hx] at this
    have : 0 < m.length := List.length_pos_of_mem hx
    simp only [List.length_cons]
    omega
theorem WFew.small {nk : List (Str × D)} {C : List (List D)} {w : WSt} (I : WFew nk C w) : w.known.length ≤ 2 * C.length := by
  have := pig w.known (C.map (fun p => (p, ("done" : Str))) ++ C.map (fun p => (p, ("error" : Str)))) I.nd fun c hc => by
    obtain ⟨h1, h2⟩ := I.inK c hc
    rcases h2 with h2 | h2
    · exact List.mem_append_left _ (List.mem_map.mpr ⟨c.1, h1, by rw [← h2]⟩)
    · exact List.mem_append_right _ (List.mem_map.mpr ⟨c.1, h1, by rw [← h2]⟩)
  simp only [List.length_append, List.length_map] at this
  omega
theorem WFew.stop {nk : List (Str × D)} {C : List (List D)} {t : List Cfg} {k : List Cfg} {es : List Str} {s : Str} (I : WFew nk C ⟨t ++ [([], s)], k, es⟩) : WFew nk C ⟨t, k, es ++ [s]⟩ where
  inT c hc := I.inT c (by simp [hc])
  inK := I.inK
  nd := I.nd
  many := by
    have := I.many
    simp only [List.length_append, List.length_cons, List.length_nil] at this ⊢
    omega
  inE x hx := by
    rcases List.mem_append.mp hx with h | h
    · exact I.inE x h
    · have : x = s := by simpa using h
      rw [this]; exact (I.inT ([], s) (by simp)).2
theorem WFew.skip {nk : List (Str × D)} {C : List (List D)} {t : List Cfg} {k : List Cfg} {es : List Str} {c : Cfg} (I : WFew nk C ⟨t ++ [c], k, es⟩) : WFew nk C ⟨t, k, es⟩ where
  inT c hc := I.inT c (by simp [hc])
  inK := I.inK
  nd := I.nd
  many := by
    have := I.many
    simp only [List.length_append, List.length_cons, List.length_nil] at this ⊢
    omega
  inE := I.inE
theorem kids_len {nk : List (Str × D)} {c : Cfg} : (kids nk c).length ≤ 2 := by
  unfold kids kidsH
  split
  · simp
  · split <;> simp
theorem kids_C {nk : List (Str × D)} {C : List (List D)} (hC : ∀ (q : List D) (h : D), q ++ [h] ∈ C → (q = [] ∨ q ∈ C) ∧ (q ++ splitP (fur h) = [] ∨ q ++ splitP (fur h) ∈ C)) {c k : Cfg} (hc : c.1 ∈ C) (hs : c.2 = "done" ∨ c.2 = "error") (hk : k ∈ kids nk c) : (k.1 = [] ∨ k.1 ∈ C) ∧ (k.2 = "done" ∨ k.2 = "error") := by
  by_cases h0 : c.1 = []
  · have : c = ([], c.2) := by rw [← h0]
    rw [this, kids_nil] at hk
    cases hk
  · obtain ⟨q, h, e⟩ := snoc_of h0
    have : c = (q ++ [h], c.2) := by rw [← e]
    rw [this, kids_snoc] at hk
    rw [e] at hc
    obtain ⟨h1, h2⟩ := hC q h hc
    unfold kidsH at hk
    split at hk
    · simp only [List.mem_cons, List.not_mem_nil, or_false] at hk
      rcases hk with rfl | rfl
      · exact ⟨h1, .inr rfl⟩
      · refine ⟨h2, ?_⟩
        show aft _ _ _ = _ ∨ aft _ _ _ = _
        unfold aft
        split
        · exact .inl rfl
        · exact .inr rfl
    · simp only [List.mem_cons, List.not_mem_nil, or_false] at hk
      subst hk
      exact ⟨h1, hs⟩
theorem WFew.go {nk : List (Str × D)} {C : List (List D)} {t : List Cfg} {k : List Cfg} {es : List Str} {c : Cfg} (hC : ∀ (q : List D) (h : D), q ++ [h] ∈ C → (q = [] ∨ q ∈ C) ∧ (q ++ splitP (fur h) = [] ∨ q ++ splitP (fur h) ∈ C)) (I : WFew nk C ⟨t ++ [c], k, es⟩) (hc : c.1 ≠ []) (hn : c ∉ k) : WFew nk C ⟨t ++ kids nk c, k ++ [c], es⟩ where
  inT x hx := by
    rcases List.mem_append.mp hx with h | h
    · exact I.inT x (by simp [h])
    · have := I.inT c (by simp)
      exact kids_C hC (this.1.resolve_left hc) this.2 h
  inK x hx := by
    rcases List.mem_append.mp hx with h | h
    · exact I.inK x h
    · have hxc : x = c := by simpa using h
      have := I.inT c (by simp)
      rw [hxc]; exact ⟨this.1.resolve_left hc, this.2⟩
  nd := by
    refine List.nodup_append.mpr ⟨I.nd, by simp, fun a ha b hb => ?_⟩
    have : b = c := by simpa using hb
    subst this
    rintro rfl
    exact hn ha
  many := by
    have h1 := I.many
    have h2 := kids_len (nk := nk) (c := c)
    simp only [List.length_append, List.length_cons, List.length_nil] at h1 ⊢
    omega
  inE := I.inE
end DL

set_option Elab.async false
set_option linter.all false
set_option maxRecDepth 100000
set_option maxHeartbeats 4000000
namespace DL
open PySem PySem.Spec L2
open PyProof.Rows hiding St
/-! ### == of data without bools is equality -/
def noB : Nat → D → Bool
  | _ + 1, .non => true
  | _ + 1, .int _ => true
  | _ + 1, .str _ => true
  | n + 1, .tup ds => ds.all (noB n)
  | _, _ => false
def pyN : Nat → D → PyData
  | _, .non => .none
  | _, .int i => .int i
  | _, .str s => .str s
  | n + 1, .tup ds => .tuple (ds.map (pyN n))
  | _, _ => .none
theorem mapM_some {f : D → Option PyData} {g : D → PyData} : ∀ {ds : List D}, (∀ d ∈ ds, f d = some (g d)) → ds.mapM f = some (ds.map g)
  | [], _ => rfl
  | d :: ds, h => by
    rw [List.mapM_cons, h d (List.mem_cons_self ..), mapM_some fun x hx => h x (List.mem_cons_of_mem _ hx)]
    rfl
theorem toPy_noB {M : DM} : ∀ {n m : Nat} {d : D}, noB n d = true → n ≤ m → toPy M m d = some (pyN n d)
  | 0, _, d, h, _ => by simp [noB] at h
  | n + 1, m, d, h, hm => by
    obtain ⟨m, rfl⟩ : ∃ k, m = k + 1 := ⟨m - 1, by omega⟩
    cases d with
    | non => rfl
    | int i => rfl
    | str s => rfl
    | tup ds =>
      have h' : ∀ d ∈ ds, noB n d = true := List.all_eq_true.mp h
      have := mapM_some (f := toPy M m) (g := pyN n) fun d hd => toPy_noB (h' d hd) (by omega)
      show (ds.mapM (toPy M m)).map PyData.tuple = _
      rw [this]
      rfl
    | _ => simp [noB] at h
theorem eqvAll_map {n : Nat} (ih : ∀ a b, noB n a = true → noB n b = true → (PyData.eqv (pyN n a) (pyN n b) = true ↔ a = b)) : ∀ xs ys : List D, (∀ d ∈ xs, noB n d = true) → (∀ d ∈ ys, noB n d = true) → (PyData.eqvAll (xs.map (pyN n)) (ys.map (pyN n)) = true ↔ xs = ys)
  | [], [], _, _ => by simp [PyData.eqvAll]
  | [], y :: ys, _, _ => by simp [PyData.eqvAll]
  | x :: xs, [], _, _ => by simp [PyData.eqvAll]
  | x :: xs, y :: ys, h, h' => by
    simp only [List.map_cons, PyData.eqvAll, Bool.and_eq_true, List.cons.injEq]
    rw [ih x y (h x (List.mem_cons_self ..)) (h' y (List.mem_cons_self ..)), eqvAll_map ih xs ys (fun d hd => h d (List.mem_cons_of_mem _ hd)) (fun d hd => h' d (List.mem_cons_of_mem _ hd))]
theorem eqv_noB : ∀ (n : Nat) (a b : D), noB n a = true → noB n b = true → (PyData.eqv (pyN n a) (pyN n b) = true ↔ a = b)
  | 0, a, _, h, _ => by simp [noB] at h
  | n + 1, a, b, h, h' => by
    cases a <;> cases b <;> simp [noB] at h h' <;> simp only [pyN, PyData.eqv, beq_iff_eq, D.int.injEq, D.str.injEq, D.tup.injEq, reduceCtorEq, Bool.false_eq_true]
    exact eqvAll_map (eqv_noB n) _ _ h h'
theorem eqv_lists {n : Nat} {xs ys : List D} {s t : Str} (h : ∀ d ∈ xs, noB n d = true) (h' : ∀ d ∈ ys, noB n d = true) :
    PyData.eqv (.list [.list (xs.map (pyN n)), .str s]) (.list [.list (ys.map (pyN n)), .str t]) = true ↔ (xs, s) = (ys, t) := by
  simp only [PyData.eqv, PyData.eqvAll, Bool.and_true, Bool.and_eq_true, beq_iff_eq, Prod.mk.injEq]
  rw [eqvAll_map (eqv_noB n) _ _ h h']
/-! ### a comprehension, by an invariant -/
theorem lcIt_ok {n : Nat} {g : FC} {ft : FT} {fe : FE} {it : IT} {δ : DSt} (ds : List D) (J : Nat → List D → DM → Prop) (hJ : ∀ i acc M, J i acc M → it.nx i M = some ds[i]?)
    (step : ∀ i d acc M, ds[i]? = some d → J i acc M → ∃ δ1, g d δ = some δ1 ∧ ((∃ M1, ft δ1 M = .ok false M1 ∧ J (i + 1) acc M1) ∨
      ∃ M1 y M2, ft δ1 M = .ok true M1 ∧ fe δ1 M1 = .ok y M2 ∧ M2[n]? = some (.lst acc) ∧ acc.length < sizeLine ∧ J (i + 1) (acc ++ [y]) (M2.set n (.lst (acc ++ [y]))))) :
    ∀ (m i : Nat) (acc : List D) (M : DM), ds.length < m + i → i ≤ ds.length → J i acc M → ∃ acc' M', lcIt n g ft fe it δ m i M = some M' ∧ J ds.length acc' M'
  | 0, i, acc, M, hm, hi, _ => by omega
  | m + 1, i, acc, M, hm, hi, h => by
    have e := hJ i acc M h
    by_cases hl : i = ds.length
    · subst hl
      rw [List.getElem?_eq_none (Nat.le_refl _)] at e
      exact ⟨acc, M, by simp only [lcIt, e], h⟩
    · have hi' : i < ds.length := by omega
      obtain ⟨d, hd⟩ : ∃ d, ds[i]? = some d := ⟨_, List.getElem?_eq_getElem hi'⟩
      rw [hd] at e
      obtain ⟨δ1, e1, h1 | ⟨M1, y, M2, e2, e3, e4, e5, h1⟩⟩ := step i d acc M hd h
      · obtain ⟨M1, e2, h1⟩ := h1
        obtain ⟨acc', M', e3, h3⟩ := lcIt_ok ds J hJ step m (i + 1) acc M1 (by omega) (by omega) h1
        exact ⟨acc', M', by simp only [lcIt, e, e1, e2, e3], h3⟩
      · obtain ⟨acc', M', e6, h6⟩ := lcIt_ok ds J hJ step m (i + 1) _ _ (by omega) (by omega) h1
        exact ⟨acc', M', by simp only [lcIt, e, e1, e2, e3, e4, e5, if_true, e6], h6⟩
end DL

set_option Elab.async false
set_option linter.all false
set_option maxRecDepth 100000
set_option maxHeartbeats 4000000
namespace DL
open PySem PySem.Spec L2
open PyProof.Rows hiding St
structure HalfOk (nk : List (Str × D)) (h : D) : Prop where
  ex : ∃ g st a fs kd, h = mkA g st a fs ∧ nk.lookup st = some kd ∧ KindOk kd ∧ (∀ d ∈ fs, IsA d) ∧ fs.length ≤ 3
theorem whileF_sat {t : FT} {body : FS} {R : Ro → Prop} (J : Nat → DSt → DM → Prop)
    (step : ∀ n δ M, J n δ M → ∃ b M1, t δ M = .ok b M1 ∧ (b = true → (body δ M1).sat (loopQ (fun δ' M' => ∃ n', n' < n ∧ J n' δ' M') R)) ∧ (b = false → R (.nx δ M1))) :
    ∀ (f n : Nat) (δ : DSt) (M : DM), n < f → J n δ M → (whileF t body f δ M).sat R
  | 0, n, δ, M, h, _ => by omega
  | f + 1, n, δ, M, h, hJ => by
    obtain ⟨b, M1, e, h1, h2⟩ := step n δ M hJ
    cases b with
    | false =>
      have := h2 rfl
      simp only [whileF, e]
      exact this
    | true =>
      have hb := h1 rfl
      simp only [whileF, e]
      cases hr : body δ M1 with
      | nx δ2 M2 =>
        rw [hr] at hb
        obtain ⟨n', h3, h4⟩ := hb
        exact whileF_sat J step f n' δ2 M2 (by omega) h4
      | ct δ2 M2 =>
        rw [hr] at hb
        obtain ⟨n', h3, h4⟩ := hb
        exact whileF_sat J step f n' δ2 M2 (by omega) h4
      | bk δ2 M2 => rw [hr] at hb; exact hb
      | rt d M2 => rw [hr] at hb; exact hb
      | ex x δ2 M2 => rw [hr] at hb; exact hb.elim
      | bad => rw [hr] at hb; exact hb.elim
/-! ### halves of actions -/
def Hv (nk : List (Str × D)) (cs : List (Str × Int)) (n : Nat) (h : D) : Prop := ∃ g s a fs, h = mkA g s a fs ∧ (g = "done" ∨ g = "error") ∧ s ∈ nk.map (·.1) ∧ ArgOk cs a ∧ (∀ f ∈ fs, ActOk nk cs n f) ∧ fs.length ≤ 3 ∧ (g = "error" → fs = [])
theorem Hv.kids {nk : List (Str × D)} {cs : List (Str × Int)} {n : Nat} {h x : D} (H : Hv nk cs n h) (hx : x ∈ splitP (fur h)) : ∃ m, n = m + 1 ∧ Hv nk cs m x := by
  obtain ⟨g, s, a, fs, rfl, hg, hs, ha, hf, hz, he⟩ := H
  obtain ⟨f, hf', hx⟩ := List.mem_flatMap.mp hx
  cases n with
  | zero => exact (hf f hf').elim
  | succ n => exact ⟨n, rfl, act_half (hf f hf') hx⟩
theorem Hv.deep {nk : List (Str × D)} {cs : List (Str × Int)} : ∀ {n : Nat} {h : D}, Hv nk cs n h → Deep (n + 1) h
  | 0, h, H => fun x hx => by obtain ⟨m, e, _⟩ := H.kids hx; cases e
  | n + 1, h, H => fun x hx => by
    obtain ⟨m, e, h2⟩ := H.kids hx
    cases e
    exact h2.deep
theorem Hv.leaf {nk : List (Str × D)} {cs : List (Str × Int)} {n : Nat} {h : D} (H : Hv nk cs n h) : Leaf h ∧ (grd h = "done" ∨ grd h = "error") := by
  obtain ⟨g, s, a, fs, rfl, hg, hs, ha, hf, hz, he⟩ := H
  exact ⟨fun z => he z, hg⟩
theorem ArgOk.noB {cs : List (Str × Int)} {a : D} (h : ArgOk cs a) {k : Nat} (hk : 2 ≤ k) : noB k a = true := by
  obtain ⟨k, rfl⟩ : ∃ j, k = j + 2 := ⟨k - 2, by omega⟩
  rcases h.ex with rfl | ⟨n, rfl, _⟩ | ⟨w, s, _, _, rfl⟩
  · rfl
  · rfl
  · simp [DL.noB]
theorem mkA_noB {g s : Str} {a : D} {fs : List D} {k : Nat} (ha : noB (k + 1) a = true) (hf : ∀ f ∈ fs, noB k f = true) : noB (k + 2) (mkA g s a fs) = true := by
  have h2 : (fs.all (noB k)) = true := List.all_eq_true.mpr hf
  simp [noB, ha]
  exact hf
theorem ActOk.noB {nk : List (Str × D)} {cs : List (Str × Int)} : ∀ {n : Nat} {d : D}, ActOk nk cs n d → ∀ {k : Nat}, 2 * n + 1 ≤ k → noB k d = true
  | 0, d, h, _, _ => h.elim
  | n + 1, d, ⟨g, s, a, fs, e, _, _, ha, hf, hz, _⟩, k, hk => by
    obtain ⟨k, rfl⟩ : ∃ j, k = j + 2 := ⟨k - 2, by omega⟩
    rw [e]
    exact mkA_noB (ha.noB (by omega)) fun f hf' => ActOk.noB (hf f hf') (by omega)
theorem Hv.noB {nk : List (Str × D)} {cs : List (Str × Int)} {n : Nat} {h : D} (H : Hv nk cs n h) (hn : n ≤ 2) : DL.noB 9 h = true := by
  obtain ⟨g, s, a, fs, rfl, hg, hs, ha, hf, hz, he⟩ := H
  exact mkA_noB (ha.noB (by omega)) fun f hf' => (hf f hf').noB (by omega)
theorem Hv.half {nk : List (Str × D)} {cs : List (Str × Int)} {n : Nat} {h : D} (hk : KindsOk nk) (H : Hv nk cs n h) : HalfOk nk h := by
  obtain ⟨g, s, a, fs, rfl, hg, hs, ha, hf, hz, he⟩ := H
  obtain ⟨d, h1, h2⟩ := lookup_mem hs
  exact ⟨g, s, a, fs, d, rfl, h1, hk _ h2, fun d hd => (hf d hd).isA, hz⟩
def wtB : Nat → Nat
  | 0 => 0
  | n + 1 => 1 + 6 * wtB n
theorem sum_le {α : Type} {f : α → Nat} {b : Nat} : ∀ {l : List α}, (∀ x ∈ l, f x ≤ b) → (l.map f).sum ≤ l.length * b
  | [], _ => by simp
  | x :: l, h => by
    have h1 := h x (List.mem_cons_self ..)
    have h2 := sum_le (l := l) fun y hy => h y (List.mem_cons_of_mem _ hy)
    rw [List.map_cons, List.sum_cons, List.length_cons, Nat.succ_mul]
    omega
theorem splitP_len {ws : List D} : (splitP ws).length ≤ ws.length * 2 := flat_len fun x _ => halves_len
theorem Hv.wt {nk : List (Str × D)} {cs : List (Str × Int)} : ∀ {n : Nat} {h : D}, Hv nk cs n h → wtH (n + 1) h ≤ wtB (n + 1)
  | n, h, H => by
    have h1 : ∀ x ∈ splitP (fur h), wtH n x ≤ wtB n := fun x hx => by
      obtain ⟨m, e, h2⟩ := H.kids hx
      subst e
      exact h2.wt
    have h2 := sum_le h1
    have h3 := splitP_len (ws := fur h)
    have h4 : (fur h).length ≤ 3 := by obtain ⟨g, s, a, fs, rfl, hg, hs, ha, hf, hz, he⟩ := H; exact hz
    have h5 : (splitP (fur h)).length * wtB n ≤ 6 * wtB n := Nat.mul_le_mul_right _ (by omega)
    show 1 + ((splitP (fur h)).map (wtH n)).sum ≤ 1 + 6 * wtB n
    omega
  termination_by n => n
  decreasing_by omega
end DL

set_option Elab.async false
set_option linter.all false
set_option maxRecDepth 100000
set_option maxHeartbeats 4000000
namespace DL
open PySem PySem.Spec L2
open PyProof.Rows hiding St
/-! ### what a stack asks on the way out: a tree -/
inductive Tr where
  | stop
  | ask (st : Str) (a : D) (t0 t1 : Tr)
def arg : D → D
  | .tup [_, _, a, _] => a
  | _ => .non
abbrev Two (s : Str) : Prop := s = "done" ∨ s = "error"
def runH (nk : List (Str × D)) : Nat → D → (Str → Tr) → Str → Tr
  | 0, _, κ, s => κ s
  | n + 1, h, κ, s => if grd h = s then .ask (stp h) (arg h) (κ "error") (((splitP (fur h)).reverse.foldr (runH nk n) κ) (aft nk h s)) else κ s
/-- top first -/
abbrev runR (nk : List (Str × D)) (n : Nat) (r : List D) (κ : Str → Tr) : Str → Tr := r.foldr (runH nk n) κ
theorem aft_two {nk : List (Str × D)} {h : D} {s : Str} : Two (aft nk h s) := by
  unfold aft
  split
  · exact .inl rfl
  · exact .inr rfl
theorem runR_app {nk : List (Str × D)} {n : Nat} {a b : List D} {κ : Str → Tr} : runR nk n (a ++ b) κ = runR nk n a (runR nk n b κ) := by
  unfold runR
  rw [List.foldr_append]
theorem runR_ext {nk : List (Str × D)} {n : Nat} (ih : ∀ (h : D) (κ κ' : Str → Tr), (∀ s, Two s → κ s = κ' s) → ∀ s, Two s → runH nk n h κ s = runH nk n h κ' s) : ∀ (r : List D) (κ κ' : Str → Tr), (∀ s, Two s → κ s = κ' s) → ∀ s, Two s → runR nk n r κ s = runR nk n r κ' s
  | [], κ, κ', h, s, hs => h s hs
  | x :: r, κ, κ', h, s, hs => ih x _ _ (fun s hs => runR_ext ih r κ κ' h s hs) s hs
theorem runH_ext {nk : List (Str × D)} : ∀ (n : Nat) (h : D) (κ κ' : Str → Tr), (∀ s, Two s → κ s = κ' s) → ∀ s, Two s → runH nk n h κ s = runH nk n h κ' s
  | 0, h, κ, κ', e, s, hs => e s hs
  | n + 1, h, κ, κ', e, s, hs => by
    simp only [runH]
    split
    · rw [e "error" (.inr rfl)]
      congr 1
      exact runR_ext (runH_ext n) _ _ _ e _ aft_two
    · exact e s hs
theorem foldr_eq {α β : Type} {f g : α → β → β} : ∀ {l : List α} {b : β}, (∀ x ∈ l, ∀ b, f x b = g x b) → l.foldr f b = l.foldr g b
  | [], _, _ => rfl
  | x :: l, b, h => by
    rw [List.foldr_cons, List.foldr_cons, foldr_eq fun y hy => h y (List.mem_cons_of_mem _ hy)]
    exact h x (List.mem_cons_self ..) _
theorem runH_stay {nk : List (Str × D)} : ∀ {n m : Nat} {h : D}, Deep n h → n ≤ m → ∀ κ, runH nk m h κ = runH nk n h κ
  | 0, _, _, hd, _, _ => hd.elim
  | n + 1, m + 1, h, hd, hm, κ => by
    funext s
    simp only [runH]
    have : (splitP (fur h)).reverse.foldr (runH nk m) κ = (splitP (fur h)).reverse.foldr (runH nk n) κ := foldr_eq fun x hx b => runH_stay (hd x (List.mem_reverse.mp hx)) (by omega) b
    rw [this]
theorem runR_stay {nk : List (Str × D)} {n m k : Nat} {r : List D} (hd : ∀ h ∈ r, Deep n h) (h1 : n ≤ m) (h2 : n ≤ k) (κ : Str → Tr) : runR nk m r κ = runR nk k r κ :=
  foldr_eq fun x hx b => by rw [runH_stay (hd x hx) h1, runH_stay (hd x hx) h2]
theorem runR_skip {nk : List (Str × D)} {n : Nat} {κ : Str → Tr} {s : Str} : ∀ {r : List D}, (∀ h ∈ r, grd h ≠ s) → runR nk n r κ s = κ s
  | [], _ => rfl
  | x :: r, h => by
    show runH nk n x (runR nk n r κ) s = κ s
    have ih := runR_skip (nk := nk) (n := n) (κ := κ) (r := r) fun y hy => h y (List.mem_cons_of_mem _ hy)
    cases n with
    | zero => exact ih
    | succ n =>
      simp only [runH]
      rw [if_neg (h x (List.mem_cons_self ..))]
      exact ih
/-! ### what is kept runs alike -/
theorem below_cases {nk : List (Str × D)} {h : D} {sts : List Str} (hm : grd h ∈ sts) (hg : HalfG h) : (belowP nk h sts = (["done", "error"] : List Str)) ∨ (belowP nk h sts = sts ∧ grd h = "error" ∧ ending nk (stp h) = false) := by
  unfold belowP
  by_cases c : grd h = "done" ∨ ending nk (stp h) = true
  · rw [if_pos ⟨hm, c⟩]
    exact .inl rfl
  · rw [if_neg fun z => c z.2]
    refine .inr ⟨rfl, hg.resolve_left fun z => c (.inl z), ?_⟩
    cases e : ending nk (stp h) with
    | false => rfl
    | true => exact absurd (.inr e) c
theorem keep_run {nk : List (Str × D)} {n : Nat} {κ : Str → Tr} : ∀ (r : List D), (∀ h ∈ r, HalfG h ∧ Leaf h) → ∀ (sts : List Str), (∀ s ∈ sts, Two s) → ∀ s ∈ sts, runR nk n (keepR nk sts r) κ s = runR nk n r κ s
  | [], _, _, _, _, _ => rfl
  | h :: r, hr, sts, h2, s, hs => by
    obtain ⟨hg, hl⟩ := hr h (List.mem_cons_self ..)
    have ih := fun (sts : List Str) (h2 : ∀ s ∈ sts, Two s) (s : Str) (hs : s ∈ sts) => keep_run (nk := nk) (n := n) (κ := κ) r (fun x hx => hr x (List.mem_cons_of_mem _ hx)) sts h2 s hs
    have two := h2 s hs
    unfold keepR
    by_cases hm : grd h ∈ sts
    · rw [if_pos hm]
      show runH nk n h (runR nk n (keepR nk (belowP nk h sts) r) κ) s = runH nk n h (runR nk n r κ) s
      rcases below_cases (nk := nk) hm hg with e | ⟨e, e1, e2⟩
      · refine runH_ext n h _ _ (fun t ht => ih _ (by rw [e]; simp) t (by rw [e]; rcases ht with rfl | rfl <;> simp)) s two
      · rw [e]
        cases n with
        | zero => exact ih sts h2 s hs
        | succ n =>
          simp only [runH]
          by_cases he : grd h = s
          · rw [if_pos he, if_pos he]
            have herr : ("error" : Str) ∈ sts := by rw [← e1]; exact hm
            have ha : aft nk h s = "error" := by
              unfold aft
              rw [if_neg]
              rw [e2, ← he, e1]
              simp [ofString_inj]
            have hf : splitP (fur h) = [] := by rw [hl e1]; rfl
            rw [hf, ha]
            show Tr.ask _ _ (runR nk (n + 1) _ κ "error") (runR nk (n + 1) _ κ "error") = Tr.ask _ _ (runR nk (n + 1) _ κ "error") (runR nk (n + 1) _ κ "error")
            rw [ih sts h2 _ herr]
          · rw [if_neg he, if_neg he]
            exact ih sts h2 s hs
    · rw [if_neg hm, ih sts h2 s hs]
      show _ = runH nk n h (runR nk n r κ) s
      cases n with
      | zero => rfl
      | succ n =>
        simp only [runH]
        rw [if_neg fun e => hm (by rw [e]; exact hs)]
/-! ### the normal form runs alike -/
def LeafN : Nat → D → Prop
  | 0, _ => False
  | n + 1, d => Leaf d ∧ ∀ x ∈ fur d, LeafN n x
theorem LeafN.succ : ∀ {n : Nat} {d : D}, LeafN n d → LeafN (n + 1) d
  | 0, _, h => h.elim
  | n + 1, d, h => ⟨h.1, fun x hx => (h.2 x hx).succ⟩
theorem grd_setFur {h : D} {g s : Str} {a : D} {fs fs' : List D} (e : h = mkA g s a fs) : setFur h fs' = mkA g s a fs' := by
  subst e; rfl
theorem normHalf_mem {nk : List (Str × D)} {N : List D → List D} {h d : D} (hd : d ∈ normHalf nk N h) : (d ∈ keepP nk ["done"] (N (fur h)) ∧ isDn d = true) ∨ d = setFur h ((keepP nk ["done"] (N (fur h))).dropWhile isDn) := by
  unfold normHalf at hd
  rcases List.mem_append.mp hd with z | z
  · refine .inl ⟨mem_takeW z, ?_⟩
    have : ∀ l : List D, d ∈ l.takeWhile isDn → isDn d = true := by
      intro l
      induction l with
      | nil => intro z; cases z
      | cons x l ih =>
        intro z
        by_cases e : isDn x = true
        · rw [List.takeWhile_cons_of_pos e] at z
          rcases List.mem_cons.mp z with rfl | z
          · exact e
          · exact ih z
        · rw [List.takeWhile_cons_of_neg e] at z
          cases z
    exact this _ z
  · exact .inr (by simpa using z)
theorem norm_leaf {nk : List (Str × D)} {cs : List (Str × Int)} : ∀ {n m : Nat} {w : List D}, (∀ d ∈ w, ActOk nk cs n d) → n ≤ m → ∀ d ∈ normP nk m w, LeafN n d
  | 0, m, w, h, _ => by
    cases w with
    | nil => cases m <;> (intro d hd; cases hd)
    | cons x w => exact (h x (List.mem_cons_self ..)).elim
  | n + 1, m + 1, w, h, hm => by
    intro d hd
    obtain ⟨x, hx, hd⟩ := List.mem_flatMap.mp (show d ∈ (w.flatMap halvesP).flatMap (normHalf nk (normP nk m)) from hd)
    obtain ⟨y, hy, hx⟩ := List.mem_flatMap.mp hx
    obtain ⟨g, s, a, fs, rfl, hg, hs, ha, hf, hz, he⟩ := act_half (h y hy) hx
    have ih := norm_leaf (m := m) (w := fs) hf (by omega)
    have inn : ∀ x ∈ keepP nk ["done"] (normP nk m fs), LeafN n x := fun x hx => ih x (keepP_mem hx)
    rcases normHalf_mem hd with ⟨z, _⟩ | z
    · exact (inn d z).succ
    · subst z
      refine ⟨fun e => ?_, fun x hx => inn x (mem_dropW hx)⟩
      have e : g = "error" := e
      have : fs = [] := he e
      subst this
      show (keepP nk ["done"] (normP nk m [])).dropWhile isDn = []
      have : normP nk m [] = [] := by cases m <;> rfl
      rw [this]
      rfl
theorem NormA.deep {nk : List (Str × D)} {cs : List (Str × Int)} : ∀ {n : Nat} {d : D}, NormA nk cs n d → Deep n d
  | 0, _, h => h.elim
  | n + 1, d, h => fun x hx => by
    obtain ⟨g, s, a, fs, rfl, hg, hs, ha, hf, _⟩ := h
    obtain ⟨f, hf', hx⟩ := List.mem_flatMap.mp (show x ∈ fs.flatMap halvesP from hx)
    have hh := (hf f hf').half
    obtain ⟨g', s', a', fs', e⟩ := (hf f hf').isA
    have : halvesP f = [f] := by
      rw [e] at hh ⊢
      have hh : g' = "done" ∨ g' = "error" := hh
      have : g' ≠ "always" := by
        rcases hh with z | z <;> rw [z] <;> simp [ofString_inj]
      simp [halvesP, this]
    rw [this] at hx
    have : x = f := by simpa using hx
    rw [this]
    exact (hf f hf').deep
/-- a word of halves is its own split -/
theorem split_id {w : List D} (h : ∀ d ∈ w, HalfG d ∧ IsA d) : splitP w = w := by
  induction w with
  | nil => rfl
  | cons x w ih =>
    obtain ⟨hg, g, s, a, fs, e⟩ := h x (List.mem_cons_self ..)
    have : halvesP x = [x] := by
      rw [e] at hg ⊢
      have hg : g = "done" ∨ g = "error" := hg
      have : g ≠ "always" := by
        rcases hg with z | z <;> rw [z] <;> simp [ofString_inj]
      simp [halvesP, this]
    show halvesP x ++ splitP w = _
    rw [this, ih fun d hd => h d (List.mem_cons_of_mem _ hd)]
    rfl
theorem norm_run {nk : List (Str × D)} {cs : List (Str × Int)} : ∀ (n m M : Nat) (w : List D), n ≤ 3 → (∀ d ∈ w, ActOk nk cs n d) → n ≤ m → n ≤ M → ∀ κ s, Two s → runR nk M (normP nk m w).reverse κ s = runR nk M (splitP w).reverse κ s
  | 0, m, M, w, _, h, _, _ => by
    cases w with
    | nil => cases m <;> (intro κ s _; rfl)
    | cons x w => exact (h x (List.mem_cons_self ..)).elim
  | n + 1, m + 1, M + 1, w, hn, h, hm, hM => by
    -- one half
    have half : ∀ x, Hv nk cs n x → ∀ κ s, Two s → runR nk (M + 1) (normHalf nk (normP nk m) x).reverse κ s = runH nk (M + 1) x κ s := by
      intro x hx κ s two
      have dx := hx.deep
      obtain ⟨g, st, a, fs, rfl, hg, hs, ha, hf, hz, he⟩ := hx
      have nok := fun z => (norm_ok (m := m) (by omega) hf (by omega)).1 z
      have nlf := norm_leaf (m := m) hf (by omega)
      have kdeep : ∀ z ∈ keepP nk ["done"] (normP nk m fs), NormA nk cs n z := fun z hz => nok z (keepP_mem hz)
      obtain ⟨inner, hi⟩ : ∃ l, l = keepP nk ["done"] (normP nk m fs) := ⟨_, rfl⟩
      have eN : normHalf nk (normP nk m) (mkA g st a fs) = inner.takeWhile isDn ++ [mkA g st a (inner.dropWhile isDn)] := by rw [hi]; rfl
      rw [eN, List.reverse_append]
      show runH nk (M + 1) (mkA g st a (inner.dropWhile isDn)) (runR nk (M + 1) (inner.takeWhile isDn).reverse κ) s = runH nk (M + 1) (mkA g st a fs) κ s
      have lift : ∀ {t : Str}, t ≠ "done" → runR nk (M + 1) (inner.takeWhile isDn).reverse κ t = κ t := fun {t} ht => runR_skip fun z hz => by
        have : isDn z = true := by
          have hm := List.mem_reverse.mp hz
          have : ∀ l : List D, z ∈ l.takeWhile isDn → isDn z = true := by
            intro l
            induction l with
            | nil => intro z; cases z
            | cons y l ih =>
              intro q
              by_cases e : isDn y = true
              · rw [List.takeWhile_cons_of_pos e] at q
                rcases List.mem_cons.mp q with rfl | q
                · exact e
                · exact ih q
              · rw [List.takeWhile_cons_of_neg e] at q
                cases q
          exact this _ hm
        have : grd z = "done" := of_decide_eq_true this
        rw [this]
        exact Ne.symm ht
      have ne : ("error" : Str) ≠ "done" := by simp [ofString_inj]
      rcases hg with rfl | rfl
      · rcases two with rfl | rfl
        · have g1 : grd (mkA "done" st a (inner.dropWhile isDn)) = "done" := rfl
          have g2 : grd (mkA "done" st a fs) = "done" := rfl
          simp only [runH]
          rw [if_pos g1, if_pos g2, lift ne]
          have a1 : aft nk (mkA "done" st a (inner.dropWhile isDn)) "done" = "done" := by unfold aft; rw [if_pos (.inl rfl)]
          have a2 : aft nk (mkA "done" st a fs) "done" = "done" := by unfold aft; rw [if_pos (.inl rfl)]
          rw [a1, a2]
          have inH : ∀ z ∈ inner, HalfG z ∧ IsA z ∧ Deep n z ∧ Leaf z := fun z hz => by
            rw [hi] at hz
            have := kdeep z hz
            have lf := nlf z (keepP_mem hz)
            refine ⟨this.half, this.isA, this.deep, ?_⟩
            cases n with
            | zero => exact lf.elim
            | succ n => exact lf.1
          have sp : splitP (inner.dropWhile isDn) = inner.dropWhile isDn := split_id fun z hz => ⟨(inH z (mem_dropW hz)).1, (inH z (mem_dropW hz)).2.1⟩
          have e1 : fur (mkA "done" st a (inner.dropWhile isDn)) = inner.dropWhile isDn := rfl
          have e2 : fur (mkA "done" st a fs) = fs := rfl
          rw [e1, e2, sp]
          congr 1
          have t1 : runR nk M (inner.dropWhile isDn).reverse (runR nk (M + 1) (inner.takeWhile isDn).reverse κ) = runR nk M inner.reverse κ := by
            have tw : runR nk (M + 1) (inner.takeWhile isDn).reverse κ = runR nk M (inner.takeWhile isDn).reverse κ := runR_stay (n := n) (fun z hz => (inH z (mem_takeW (List.mem_reverse.mp hz))).2.2.1) (by omega) (by omega) κ
            rw [tw, ← runR_app, ← List.reverse_append, List.takeWhile_append_dropWhile]
          show runR nk M (inner.dropWhile isDn).reverse (runR nk (M + 1) (inner.takeWhile isDn).reverse κ) "done" = runR nk M (splitP fs).reverse κ "done"
          rw [t1, hi]
          have kr := keep_run (nk := nk) (n := M) (κ := κ) (normP nk m fs).reverse (fun z hz => by
            have hz := List.mem_reverse.mp hz
            refine ⟨(nok z hz).half, ?_⟩
            have lf := nlf z hz
            cases n with
            | zero => exact lf.elim
            | succ n => exact lf.1) ["done"] (fun s hs => .inl (by simpa using hs)) "done" (by simp)
          unfold keepP
          rw [List.reverse_reverse, kr]
          exact norm_run n m M fs (by omega) hf (by omega) (by omega) κ "done" (.inl rfl)
        · have g1 : grd (mkA "done" st a (inner.dropWhile isDn)) ≠ "error" := Ne.symm ne
          have g2 : grd (mkA "done" st a fs) ≠ "error" := Ne.symm ne
          simp only [runH]
          rw [if_neg g1, if_neg g2, lift ne]
      · have hfs : fs = [] := he rfl
        subst hfs
        have hin : inner = [] := by
          have : normP nk m [] = [] := by cases m <;> rfl
          rw [hi, this]
          rfl
        rw [hin]
        rfl
    intro κ s two
    have all : ∀ (l : List D), (∀ x ∈ l, Hv nk cs n x) → ∀ κ s, Two s → runR nk (M + 1) (l.flatMap (normHalf nk (normP nk m))).reverse κ s = runR nk (M + 1) l.reverse κ s := by
      intro l
      induction l with
      | nil => intro _ κ s _; rfl
      | cons x l ih =>
        intro hl κ s two
        rw [List.flatMap_cons, List.reverse_append, List.reverse_cons, runR_app, runR_app]
        rw [ih (fun y hy => hl y (List.mem_cons_of_mem _ hy)) _ s two]
        exact runR_ext (runH_ext (M + 1)) _ _ _ (fun t ht => half x (hl x (List.mem_cons_self ..)) κ t ht) s two
    refine all (splitP w) (fun x hx => ?_) κ s two
    obtain ⟨y, hy, hx⟩ := List.mem_flatMap.mp hx
    exact act_half (h y hy) hx
end DL

set_option Elab.async false
set_option linter.all false
set_option maxRecDepth 100000
set_option maxHeartbeats 4000000
namespace DL
open PySem PySem.Spec L2
open PyProof.Rows hiding St
/-! ### two live normal words that run alike are equal -/
/-- a normal half, with nothing under error -/
def NL (nk : List (Str × D)) : Nat → D → Prop
  | 0, _ => False
  | n + 1, d => ∃ g s a fs, d = mkA g s a fs ∧ (g = "done" ∨ g = "error") ∧ (∀ f ∈ fs, NL nk n f) ∧ fs.takeWhile isDn = [] ∧ keepP nk ["done"] fs = fs ∧ (g = "error" → fs = [])
theorem NL.succ {nk : List (Str × D)} : ∀ {n : Nat} {d : D}, NL nk n d → NL nk (n + 1) d
  | 0, _, h => h.elim
  | n + 1, d, ⟨g, s, a, fs, e, hg, hf, h1, h2, h3⟩ => ⟨g, s, a, fs, e, hg, fun f hf' => (hf f hf').succ, h1, h2, h3⟩
theorem NL.of {nk : List (Str × D)} {cs : List (Str × Int)} : ∀ {n : Nat} {d : D}, NormA nk cs n d → LeafN n d → NL nk n d
  | 0, _, h, _ => h.elim
  | n + 1, d, ⟨g, s, a, fs, e, hg, hs, ha, hf, h1, h2, hz⟩, l => by
    subst e
    exact ⟨g, s, a, fs, rfl, hg, fun f hf' => NL.of (hf f hf') (l.2 f hf'), h1, h2, l.1⟩
theorem NL.half {nk : List (Str × D)} : ∀ {n : Nat} {d : D}, NL nk n d → HalfG d ∧ IsA d ∧ Leaf d
  | 0, _, h => h.elim
  | n + 1, d, ⟨g, s, a, fs, e, hg, hf, h1, h2, h3⟩ => by
    subst e
    exact ⟨hg, ⟨g, s, a, fs, rfl⟩, h3⟩
theorem NL.deep {nk : List (Str × D)} : ∀ {n : Nat} {d : D}, NL nk n d → Deep n d
  | 0, _, h => h.elim
  | n + 1, d, ⟨g, s, a, fs, e, hg, hf, h1, h2, h3⟩ => by
    subst e
    intro x hx
    rw [show fur (mkA g s a fs) = fs from rfl, split_id fun d hd => ⟨(hf d hd).half.1, (hf d hd).half.2.1⟩] at hx
    exact (hf x hx).deep
/-- how many halves in all -/
def mzD : Nat → D → Nat
  | 0, _ => 0
  | n + 1, d => 1 + ((fur d).map (mzD n)).sum
def mzL (n : Nat) (l : List D) : Nat := (l.map (mzD n)).sum
theorem mzD_succ {nk : List (Str × D)} : ∀ {n : Nat} {d : D}, NL nk n d → mzD (n + 1) d = mzD n d
  | 0, _, h => h.elim
  | n + 1, d, ⟨g, s, a, fs, e, hg, hf, h1, h2, h3⟩ => by
    subst e
    show 1 + (fs.map (mzD (n + 1))).sum = 1 + (fs.map (mzD n)).sum
    rw [List.map_congr_left fun x hx => mzD_succ (hf x hx)]
theorem mzL_app {n : Nat} {a b : List D} : mzL n (a ++ b) = mzL n a + mzL n b := by
  unfold mzL
  rw [List.map_append, List.sum_append]
theorem mzL_rev {n : Nat} {a : List D} : mzL n a.reverse = mzL n a := by
  induction a with
  | nil => rfl
  | cons x a ih =>
    rw [List.reverse_cons, mzL_app, ih]
    simp [mzL]
    omega
theorem keepR_sz {nk : List (Str × D)} {n : Nat} : ∀ {sts : List Str} {r : List D}, mzL n (keepR nk sts r) ≤ mzL n r
  | _, [] => Nat.le_refl _
  | sts, x :: r => by
    rw [keepR]
    have e : ∀ l, mzL n (x :: l) = mzD n x + mzL n l := fun l => by simp [mzL]
    split
    · rw [e, e]
      have := keepR_sz (nk := nk) (n := n) (sts := belowP nk x sts) (r := r)
      omega
    · rw [e]
      have := keepR_sz (nk := nk) (n := n) (sts := sts) (r := r)
      omega
def stR (nk : List (Str × D)) (sts : List Str) (a : List D) : List Str := a.foldl (fun S h => belowP nk h S) sts
theorem below_not {nk : List (Str × D)} {h : D} {sts : List Str} (hm : grd h ∉ sts) : belowP nk h sts = sts := by
  unfold belowP
  rw [if_neg fun z => hm z.1]
theorem keepR_app {nk : List (Str × D)} : ∀ {a b : List D} {sts : List Str}, keepR nk sts (a ++ b) = keepR nk sts a ++ keepR nk (stR nk sts a) b
  | [], b, sts => rfl
  | x :: a, b, sts => by
    rw [List.cons_append, keepR, keepR]
    have e : stR nk sts (x :: a) = stR nk (belowP nk x sts) a := rfl
    rw [e]
    by_cases hm : grd x ∈ sts
    · rw [if_pos hm, if_pos hm, keepR_app, List.cons_append]
    · rw [if_neg hm, if_neg hm, below_not hm, keepR_app]
abbrev SubS (S T : List Str) : Prop := ∀ s ∈ S, s ∈ T
theorem below_sup {nk : List (Str × D)} {h : D} {sts : List Str} (h2 : ∀ s ∈ sts, Two s) : SubS sts (belowP nk h sts) := by
  intro s hs
  unfold belowP
  split
  · rcases h2 s hs with rfl | rfl <;> simp
  · exact hs
theorem below_two' {nk : List (Str × D)} {h : D} {sts : List Str} (h2 : ∀ s ∈ sts, Two s) : ∀ s ∈ belowP nk h sts, Two s := below_two h2
theorem below_mono {nk : List (Str × D)} {h : D} {S T : List Str} (hT : ∀ s ∈ T, Two s) (hs : SubS S T) : SubS (belowP nk h S) (belowP nk h T) := by
  intro s hm
  by_cases c : grd h ∈ S ∧ (grd h = "done" ∨ ending nk (stp h) = true)
  · have : belowP nk h T = (["done", "error"] : List Str) := by unfold belowP; rw [if_pos ⟨hs _ c.1, c.2⟩]
    have e : belowP nk h S = (["done", "error"] : List Str) := by unfold belowP; rw [if_pos c]
    rw [this, ← e]; exact hm
  · have e : belowP nk h S = S := by unfold belowP; rw [if_neg c]
    rw [e] at hm
    exact below_sup hT s (hs s hm)
theorem stR_mono {nk : List (Str × D)} : ∀ {a : List D} {S T : List Str}, (∀ s ∈ T, Two s) → SubS S T → SubS (stR nk S a) (stR nk T a)
  | [], _, _, _, h => h
  | x :: a, S, T, hT, h => stR_mono (a := a) (below_two' hT) (below_mono hT h)
theorem stR_two {nk : List (Str × D)} : ∀ {a : List D} {S : List Str}, (∀ s ∈ S, Two s) → ∀ s ∈ stR nk S a, Two s
  | [], _, h => h
  | x :: a, S, h => stR_two (a := a) (below_two' h)
theorem stR_sup {nk : List (Str × D)} : ∀ {a : List D} {S : List Str}, (∀ s ∈ S, Two s) → SubS S (stR nk S a)
  | [], _, _ => fun _ h => h
  | x :: a, S, h => fun s hs => stR_sup (a := a) (below_two' h) s (below_sup h s hs)
theorem keepR_mono {nk : List (Str × D)} : ∀ {r : List D} {S T : List Str}, (∀ s ∈ T, Two s) → SubS S T → (keepR nk S r).length ≤ (keepR nk T r).length
  | [], _, _, _, _ => Nat.le_refl _
  | x :: r, S, T, hT, h => by
    rw [keepR, keepR]
    by_cases h1 : grd x ∈ S
    · rw [if_pos h1, if_pos (h _ h1), List.length_cons, List.length_cons]
      have := keepR_mono (nk := nk) (r := r) (below_two' (nk := nk) (h := x) hT) (below_mono (nk := nk) (h := x) hT h)
      omega
    · rw [if_neg h1]
      by_cases h2 : grd x ∈ T
      · rw [if_pos h2, List.length_cons]
        have := keepR_mono (nk := nk) (r := r) (below_two' (nk := nk) (h := x) hT) (fun s hs => below_sup (nk := nk) (h := x) hT s (h s hs))
        omega
      · rw [if_neg h2]
        exact keepR_mono hT h
abbrev ErS : List Str := ["error"]
theorem erS_two : ∀ s ∈ ErS, Two s := fun s hs => .inr (by simpa using hs)
/-- an error half is kept where error can be pending -/
theorem keepR_err {nk : List (Str × D)} : ∀ {K : List D} {S : List Str}, (∀ s ∈ S, Two s) → ("error" : Str) ∈ S → (∃ x ∈ K, grd x = "error") → keepR nk S K ≠ []
  | [], _, _, _, h => by obtain ⟨x, hx, _⟩ := h; cases hx
  | x :: K, S, h2, hS, h => by
    rw [keepR]
    by_cases hm : grd x ∈ S
    · rw [if_pos hm]; simp
    · rw [if_neg hm]
      obtain ⟨y, hy, e⟩ := h
      rcases List.mem_cons.mp hy with rfl | hy
      · rw [e] at hm; exact absurd hS hm
      · exact keepR_err h2 hS ⟨y, hy, e⟩
theorem more_err {nk : List (Str × D)} {K u : List D} (hK : ∃ x ∈ K, grd x = "error") : keepR nk ErS (K ++ u) ≠ keepR nk ErS u := by
  intro e
  rw [keepR_app] at e
  have h1 := keepR_err (nk := nk) erS_two (by simp) hK
  have h2 := keepR_mono (nk := nk) (r := u) (S := ErS) (T := stR nk ErS K) (stR_two erS_two) (stR_sup erS_two)
  have := congrArg List.length e
  rw [List.length_append] at this
  have : 0 < (keepR nk ErS K).length := List.length_pos_iff.mpr h1
  omega
/-- error halves alone are all kept -/
theorem keepR_all {nk : List (Str × D)} : ∀ {K : List D} {S : List Str}, (∀ s ∈ S, Two s) → ("error" : Str) ∈ S → (∀ x ∈ K, grd x = "error") → keepR nk S K = K
  | [], _, _, _, _ => rfl
  | x :: K, S, h2, hS, h => by
    have e := h x (List.mem_cons_self ..)
    rw [keepR, if_pos (by rw [e]; exact hS), keepR_all (below_two' h2) (below_sup h2 _ hS) fun y hy => h y (List.mem_cons_of_mem _ hy)]
theorem both_same {nk : List (Str × D)} {u v : List D} (hu : ∀ d ∈ u, HalfG d) (hv : ∀ d ∈ v, HalfG d) (hd : keepR nk ["done"] u = keepR nk ["done"] v) (he : keepR nk ErS u = keepR nk ErS v) : u = v := by
  have key : ∀ {u v : List D}, (∀ d ∈ u, HalfG d) → (∀ d ∈ v, HalfG d) → keepR nk ["done"] u = keepR nk ["done"] v → keepR nk ErS u = keepR nk ErS v → (u.takeWhile fun d => !isDn d).length ≤ (v.takeWhile fun d => !isDn d).length → u = v := by
    intro u v hu hv hd he hle
    rw [keepR_done hu, keepR_done hv] at hd
    have tk : ∀ {l : List D}, (∀ d ∈ l, HalfG d) → ∀ x ∈ l.takeWhile (fun d => !isDn d), grd x = "error" := by
      intro l
      induction l with
      | nil => intro _ x hx; cases hx
      | cons y l ih =>
        intro hl x hx
        rw [List.takeWhile_cons] at hx
        split at hx
        · rename_i e
          rcases List.mem_cons.mp hx with rfl | hx
          · refine (hl _ (List.mem_cons_self ..)).resolve_left fun z => ?_
            simp [isDn, z] at e
          · exact ih (fun d hd => hl d (List.mem_cons_of_mem _ hd)) x hx
        · cases hx
    obtain ⟨A, hA⟩ : ∃ A, A = v.dropWhile fun d => !isDn d := ⟨_, rfl⟩
    obtain ⟨Eu, hEu⟩ : ∃ E, E = u.takeWhile fun d => !isDn d := ⟨_, rfl⟩
    obtain ⟨Ev, hEv⟩ : ∃ E, E = v.takeWhile fun d => !isDn d := ⟨_, rfl⟩
    have uE : u = Eu ++ A := by
      rw [hEu, hA, ← hd]
      exact (List.takeWhile_append_dropWhile ..).symm
    have vE : v = Ev ++ A := by
      rw [hEv, hA]
      exact (List.takeWhile_append_dropWhile ..).symm
    have eu := tk hu
    have ev := tk hv
    rw [← hEu] at eu hle
    rw [← hEv] at ev hle
    rw [uE, vE] at he
    rw [keepR_app, keepR_app, keepR_all erS_two (by simp) eu, keepR_all erS_two (by simp) ev] at he
    obtain ⟨K, hK⟩ : ∃ K, Ev = Eu ++ K := by
      have h1 := congrArg (List.take Eu.length) he
      rw [List.take_left' rfl, List.take_append_of_le_length hle] at h1
      exact ⟨Ev.drop Eu.length, by
        have := List.take_append_drop Eu.length Ev
        rw [← h1] at this
        exact this.symm⟩
    rw [hK, List.append_assoc] at he
    have he := List.append_cancel_left he
    have m := keepR_mono (nk := nk) (r := A) (S := stR nk ErS Eu) (T := stR nk ErS (Eu ++ K)) (stR_two erS_two) (by
      have : stR nk ErS (Eu ++ K) = stR nk (stR nk ErS Eu) K := by unfold stR; rw [List.foldl_append]
      rw [this]
      exact stR_sup (stR_two erS_two))
    have := congrArg List.length he
    rw [List.length_append] at this
    have : K = [] := List.length_eq_zero_iff.mp (by omega)
    rw [uE, vE, hK, this, List.append_nil]
  rcases Nat.le_total (u.takeWhile fun d => !isDn d).length (v.takeWhile fun d => !isDn d).length with h | h
  · exact key hu hv hd he h
  · exact (key hv hu hd.symm he.symm h).symm
abbrev stopK : Str → Tr := fun _ => .stop
theorem isA_eq {h k : D} (hh : IsA h) (hk : IsA k) (e1 : grd h = grd k) (e2 : stp h = stp k) (e3 : arg h = arg k) (e4 : fur h = fur k) : h = k := by
  obtain ⟨g, s, a, fs, rfl⟩ := hh
  obtain ⟨g', s', a', fs', rfl⟩ := hk
  have e1 : g = g' := e1
  have e2 : s = s' := e2
  have e3 : a = a' := e3
  have e4 : fs = fs' := e4
  rw [e1, e2, e3, e4]
theorem same_runs {nk : List (Str × D)} {m : Nat} : ∀ (N : Nat) (u v : List D) (s : Str), mzL m u + mzL m v ≤ N → (∀ d ∈ u, NL nk m d) → (∀ d ∈ v, NL nk m d) → keepR nk [s] u = u → keepR nk [s] v = v → Two s → runR nk m u stopK s = runR nk m v stopK s → u = v := by
  intro N
  induction N with
  | zero =>
    intro u v s hz hu hv _ _ _ _
    have nil : ∀ {l : List D}, (∀ d ∈ l, NL nk m d) → mzL m l ≤ 0 → l = [] := by
      intro l hl hz
      cases l with
      | nil => rfl
      | cons x l =>
        have hx := hl x (List.mem_cons_self ..)
        cases m with
        | zero => exact hx.elim
        | succ m =>
          have : mzL (m + 1) (x :: l) = mzD (m + 1) x + mzL (m + 1) l := by simp [mzL]
          have : mzD (m + 1) x = 1 + ((fur x).map (mzD m)).sum := rfl
          omega
    rw [nil hu (by omega), nil hv (by omega)]
  | succ N ih =>
    intro u v s hz hu hv ku kv two hr
    have top : ∀ {l : List D} {x : D}, keepR nk [s] (x :: l) = x :: l → grd x = s ∧ keepR nk (belowP nk x [s]) l = l := by
      intro l x e
      rw [keepR] at e
      split at e
      · rename_i hm
        exact ⟨by simpa using hm, (List.cons.inj e).2⟩
      · have := congrArg List.length e
        have := keepR_len (nk := nk) (sts := [s]) (r := l)
        simp only [List.length_cons] at *
        omega
    have askd : ∀ {l : List D} {x : D}, NL nk m x → grd x = s → runR nk m (x :: l) stopK s = .ask (stp x) (arg x) (runR nk m l stopK "error") (runR nk m ((fur x).reverse ++ l) stopK (aft nk x s)) := by
      intro l x hx e
      show runH nk m x (runR nk m l stopK) s = _
      cases m with
      | zero => exact hx.elim
      | succ m =>
        simp only [runH]
        rw [if_pos e]
        have hx2 := hx
        obtain ⟨g, st, a, fs, rfl, hg, hf, _⟩ := hx2
        have sp : splitP (fur (mkA g st a fs)) = fs := split_id fun d hd => ⟨(hf d hd).half.1, (hf d hd).half.2.1⟩
        rw [sp]
        congr 1
        have : runR nk (m + 1) (fs.reverse ++ l) stopK = runR nk (m + 1) fs.reverse (runR nk (m + 1) l stopK) := runR_app
        show runR nk m fs.reverse (runR nk (m + 1) l stopK) _ = runR nk (m + 1) (fs.reverse ++ l) stopK _
        rw [this, runR_stay (n := m) (m := m) (k := m + 1) (fun z hz => (hf z (List.mem_reverse.mp hz)).deep) (by omega) (by omega)]
    cases u with
    | nil =>
      cases v with
      | nil => rfl
      | cons k v =>
        obtain ⟨gk, _⟩ := top kv
        rw [askd (hv k (List.mem_cons_self ..)) gk] at hr
        cases hr
    | cons h u =>
      cases v with
      | nil =>
        obtain ⟨gh, _⟩ := top ku
        rw [askd (hu h (List.mem_cons_self ..)) gh] at hr
        cases hr
      | cons k v =>
        obtain ⟨gh, ku⟩ := top ku
        obtain ⟨gk, kv⟩ := top kv
        have nh := hu h (List.mem_cons_self ..)
        have nk' := hv k (List.mem_cons_self ..)
        have hu' : ∀ d ∈ u, NL nk m d := fun d hd => hu d (List.mem_cons_of_mem _ hd)
        have hv' : ∀ d ∈ v, NL nk m d := fun d hd => hv d (List.mem_cons_of_mem _ hd)
        rw [askd nh gh, askd nk' gk] at hr
        injection hr with e1 e2 e3 e4
        have zu : mzL m (h :: u) = mzD m h + mzL m u := by simp [mzL]
        have zv : mzL m (k :: v) = mzD m k + mzL m v := by simp [mzL]
        obtain ⟨m, rfl⟩ : ∃ j, m = j + 1 := by
          cases m with
          | zero => exact nh.elim
          | succ j => exact ⟨j, rfl⟩
        have full : ∀ {x : D}, NL nk (m + 1) x → (∀ d ∈ fur x, NL nk (m + 1) d) ∧ mzD (m + 1) x = 1 + mzL (m + 1) (fur x) ∧ (fur x).takeWhile isDn = [] ∧ keepP nk ["done"] (fur x) = fur x := by
          intro x hx
          obtain ⟨g, st, a, fs, rfl, hg, hf, h1, h2, h3⟩ := hx
          refine ⟨fun d hd => (hf d hd).succ, ?_, h1, h2⟩
          show 1 + (fs.map (mzD m)).sum = 1 + (fs.map (mzD (m + 1))).sum
          rw [List.map_congr_left fun x hx => (mzD_succ (hf x hx)).symm]
        obtain ⟨fh, zh, th, lh⟩ := full nh
        obtain ⟨fk, zk, tk, lk⟩ := full nk'
        have HG : ∀ {l : List D}, (∀ d ∈ l, NL nk (m + 1) d) → ∀ d ∈ l, HalfG d := fun hl d hd => (hl d hd).half.1
        have HL : ∀ {l : List D}, (∀ d ∈ l, NL nk (m + 1) d) → ∀ d ∈ l, HalfG d ∧ Leaf d := fun hl d hd => ⟨(hl d hd).half.1, (hl d hd).half.2.2⟩
        -- words that run alike from t have the same live part
        have use : ∀ {a b : List D} {t : Str}, Two t → (∀ d ∈ a, NL nk (m + 1) d) → (∀ d ∈ b, NL nk (m + 1) d) → mzL (m + 1) a + mzL (m + 1) b ≤ N → runR nk (m + 1) a stopK t = runR nk (m + 1) b stopK t → keepR nk [t] a = keepR nk [t] b := by
          intro a b t ht ha hb hz e
          have one : ∀ s ∈ ([t] : List Str), Two s := fun s hs => by
            have : s = t := by simpa using hs
            rw [this]; exact ht
          refine ih _ _ t ?_ (fun d hd => ha d (keepR_mem hd)) (fun d hd => hb d (keepR_mem hd)) keepR_idem keepR_idem ht ?_
          · have := keepR_sz (nk := nk) (n := m + 1) (sts := [t]) (r := a)
            have := keepR_sz (nk := nk) (n := m + 1) (sts := [t]) (r := b)
            omega
          · rw [keep_run a (HL ha) [t] one t (by simp), keep_run b (HL hb) [t] one t (by simp), e]
        have eE := use (t := "error") (.inr rfl) hu' hv' (by omega) e3
        have done : u = v ∧ fur h = fur k := by
          rcases two with rfl | rfl
          · have a1 : aft nk h "done" = "done" := by unfold aft; rw [if_pos (.inl rfl)]
            have a2 : aft nk k "done" = "done" := by unfold aft; rw [if_pos (.inl rfl)]
            rw [a1, a2] at e4
            have nF : ∀ {x : D} {l : List D}, (∀ d ∈ fur x, NL nk (m + 1) d) → (∀ d ∈ l, NL nk (m + 1) d) → ∀ d ∈ (fur x).reverse ++ l, NL nk (m + 1) d := fun hx hl d hd => by
              rcases List.mem_append.mp hd with z | z
              · exact hx d (List.mem_reverse.mp z)
              · exact hl d z
            have eD := use (t := "done") (.inl rfl) (nF fh hu') (nF fk hv') (by rw [mzL_app, mzL_app, mzL_rev, mzL_rev]; omega) e4
            -- the live part of what is put above
            have live : ∀ {x : D} {l : List D}, (∀ d ∈ fur x, NL nk (m + 1) d) → (∀ d ∈ l, NL nk (m + 1) d) → keepP nk ["done"] (fur x) = fur x → fur x ≠ [] → keepR nk ["done"] ((fur x).reverse ++ l) = (fur x).reverse ++ l := by
              intro x l hx hl lx ne
              have k1 : keepR nk ["done"] (fur x).reverse = (fur x).reverse := by
                have := congrArg List.reverse lx
                unfold keepP at this
                rw [List.reverse_reverse] at this
                exact this
              rw [keepR_app, k1]
              congr 1
              have hb : stR nk ["done"] (fur x).reverse = (["done", "error"] : List Str) := by
                obtain ⟨y, r, e⟩ : ∃ y r, (fur x).reverse = y :: r := by
                  cases e : (fur x).reverse with
                  | nil => exact absurd (List.reverse_eq_nil_iff.mp e) ne
                  | cons y r => exact ⟨y, r, rfl⟩
                rw [e] at k1 ⊢
                rw [keepR] at k1
                split at k1
                · rename_i hm
                  have gy : grd y = "done" := by simpa using hm
                  have b1 : belowP nk y ["done"] = (["done", "error"] : List Str) := by unfold belowP; rw [if_pos ⟨hm, .inl gy⟩]
                  show stR nk (belowP nk y ["done"]) r = _
                  rw [b1]
                  have : ∀ r : List D, stR nk ["done", "error"] r = (["done", "error"] : List Str) := by
                    intro r
                    induction r with
                    | nil => rfl
                    | cons z r ihr =>
                      show stR nk (belowP nk z ["done", "error"]) r = _
                      have : belowP nk z ["done", "error"] = (["done", "error"] : List Str) := by unfold belowP; split <;> rfl
                      rw [this, ihr]
                  exact this r
                · have := congrArg List.length k1
                  have := keepR_len (nk := nk) (sts := ["done"]) (r := r)
                  simp only [List.length_cons] at *
                  omega
              rw [hb, keepR_both (HG hl)]
            have errF : ∀ {x : D}, (∀ d ∈ fur x, NL nk (m + 1) d) → (fur x).takeWhile isDn = [] → fur x ≠ [] → ∃ y, (fur x).head? = some y ∧ grd y = "error" := by
              intro x hx tx ne
              cases e : fur x with
              | nil => exact absurd e ne
              | cons y r =>
                refine ⟨y, rfl, ?_⟩
                rw [e] at tx
                refine ((hx y (by rw [e]; exact List.mem_cons_self ..)).half.1).resolve_left fun z => ?_
                rw [List.takeWhile_cons_of_pos (by simp [isDn, z])] at tx
                cases tx
            -- one side puts more than the other: impossible
            have no : ∀ {x : D} {a b : List D}, (∀ d ∈ fur x, NL nk (m + 1) d) → (fur x).takeWhile isDn = [] → fur x ≠ [] → (∀ d ∈ b, HalfG d) → keepR nk ErS a = keepR nk ErS b → (fur x).reverse ++ a = keepR nk ["done"] b → False := by
              intro x a b hx tx ne hb he e
              obtain ⟨y, hy, gy⟩ := errF hx tx ne
              rw [keepR_done hb] at e
              have vb : b = (b.takeWhile (fun d => !isDn d) ++ (fur x).reverse) ++ a := by
                rw [List.append_assoc, e]
                exact (List.takeWhile_append_dropWhile ..).symm
              rw [vb] at he
              refine more_err (nk := nk) (K := b.takeWhile (fun d => !isDn d) ++ (fur x).reverse) (u := a) ⟨y, ?_, gy⟩ he.symm
              refine List.mem_append_right _ (List.mem_reverse.mpr ?_)
              cases e' : fur x with
              | nil => exact absurd e' ne
              | cons z r =>
                rw [e'] at hy
                cases hy
                exact List.mem_cons_self ..
            by_cases n1 : fur h = []
            · by_cases n2 : fur k = []
              · rw [n1, n2] at eD
                exact ⟨both_same (HG hu') (HG hv') eD eE, by rw [n1, n2]⟩
              · rw [n1, live fk hv' lk n2] at eD
                exact (no fk tk n2 (HG hu') eE.symm eD.symm).elim
            · by_cases n2 : fur k = []
              · rw [n2, live fh hu' lh n1] at eD
                exact (no fh th n1 (HG hv') eE eD).elim
              · rw [live fh hu' lh n1, live fk hv' lk n2] at eD
                -- both put something
                have key : ∀ {x y : D} {a b : List D}, (∀ d ∈ fur x, NL nk (m + 1) d) → (fur x).takeWhile isDn = [] → fur x ≠ [] → (fur x).reverse ++ a = (fur y).reverse ++ b → keepR nk ErS a = keepR nk ErS b → (fur y).length ≤ (fur x).length → a = b ∧ fur x = fur y := by
                  intro x y a b hx tx ne e he hl
                  obtain ⟨K, hK⟩ : ∃ K, (fur x).reverse = (fur y).reverse ++ K := by
                    have h1 := congrArg (List.take (fur y).reverse.length) e
                    rw [List.take_append_of_le_length (by rw [List.length_reverse, List.length_reverse]; exact hl), List.take_left' rfl] at h1
                    exact ⟨(fur x).reverse.drop (fur y).reverse.length, by
                      have := List.take_append_drop (fur y).reverse.length (fur x).reverse
                      rw [h1] at this
                      exact this.symm⟩
                  rw [hK, List.append_assoc] at e
                  have e := List.append_cancel_left e
                  by_cases hn : K = []
                  · rw [hn, List.append_nil] at hK
                    rw [hn, List.nil_append] at e
                    exact ⟨e, List.reverse_inj.mp hK⟩
                  · obtain ⟨z, hz, gz⟩ := errF hx tx ne
                    exfalso
                    rw [← e] at he
                    refine more_err (nk := nk) (K := K) (u := a) ⟨z, ?_, gz⟩ he.symm
                    -- the lowest of all is the last of K
                    have l1 : (fur x).reverse.getLast? = some z := by rw [List.getLast?_reverse]; exact hz
                    obtain ⟨q, w, rfl⟩ := snoc_of hn
                    rw [hK, ← List.append_assoc, List.getLast?_concat] at l1
                    cases l1
                    simp
                rcases Nat.le_total (fur k).length (fur h).length with hl | hl
                · exact key fh th n1 eD eE hl
                · obtain ⟨q1, q2⟩ := key fk tk n2 eD.symm eE.symm hl
                  exact ⟨q1.symm, q2.symm⟩
          · have l1 : fur h = [] := nh.half.2.2 gh
            have l2 : fur k = [] := nk'.half.2.2 gk
            refine ⟨?_, by rw [l1, l2]⟩
            rw [l1, l2] at e4
            have ae : aft nk h "error" = aft nk k "error" := by unfold aft; rw [e1]
            by_cases hen : ending nk (stp h) = true
            · have a1 : aft nk h "error" = "done" := by unfold aft; rw [if_pos (.inr hen)]
              rw [← ae, a1] at e4
              exact both_same (HG hu') (HG hv') (use (t := "done") (.inl rfl) hu' hv' (by omega) e4) eE
            · have b1 : ∀ {x : D}, ending nk (stp x) = ending nk (stp h) → grd x = "error" → belowP nk x ["error"] = (["error"] : List Str) := by
                intro x e g
                unfold belowP
                rw [if_neg]
                rintro ⟨_, z | z⟩
                · rw [g] at z; simp [ofString_inj] at z
                · rw [e] at z; exact hen z
              rw [b1 rfl gh] at ku
              rw [b1 (by rw [e1]) gk] at kv
              rw [← ku, ← kv]
              exact eE
        obtain ⟨d1, d2⟩ := done
        rw [d1, isA_eq nh.half.2.1 nk'.half.2.1 (gh.trans gk.symm) e1 e2 d2]
end DL

set_option Elab.async false
set_option linter.all false
set_option maxRecDepth 100000
set_option maxHeartbeats 4000000
namespace DL
open PySem PySem.Spec L2
open PyProof.Rows hiding St
def f_Book_cells : FS :=
 (sRet (eCall tupleD (aCons (eLc [1] (iV (eCall sortedD (aCons (e1 (fldD "_sizes" [0]) (eVar 0)) aNil))) (cNm 1) tYesD (eTup (aCons (eVar 1) (aCons (e2 gixD (e1 (fldD "_sizes" [0]) (eVar 0)) (eVar 1)) aNil)))) aNil)))
def g_Book_cells : List D → DM → Rs D := fnD 2 f_Book_cells
def f_cell_names : FS :=
 (sRet (eLc [1, 2] (iV (ePr 0 g_Book_cells (eVar 0))) (cTupN [1, 2]) tYesD (eVar 1)))
def g_cell_names : List D → DM → Rs D := fnD 3 f_cell_names
def f_value_of : FS :=
 (sSeq (sIf (tb (eCall isiD (aCons (eVar 0) (aCons (eC (D.ty "tuple")) aNil))))
  (sRet (e2 ixD (eVar 2) (eMt "list" indexD (eCall g_cell_names (aCons (eVar 1) aNil)) (aCons (e2 ixD (eVar 0) (eC (D.int 1))) aNil))))
  sNil)
 (sRet (eVar 0)))
def g_value_of : List D → DM → Rs D := fnD 3 f_value_of
theorem strKeys_kv : ∀ l : List (Str × D), strKeys (kvD l) = some (l.map (·.1))
  | [] => rfl
  | (s, d) :: l => by
    show (strKeys (kvD l)).map (s :: ·) = _
    rw [strKeys_kv l]
    rfl
theorem srt2_cells {cs : List (Str × Int)} (hl : cs.length ≤ 2) (ho : ∀ x y, cs = [x, y] → ¬ y.1.cps.toList < x.1.cps.toList) : srt2 (cs.map (·.1)) = some (cs.map (·.1)) := by
  match cs, hl, ho with
  | [], _, _ => rfl
  | [a], _, _ => rfl
  | [a, b], _, ho => simp only [List.map_cons, List.map_nil, srt2, ho a b rfl, if_false]
  | _ :: _ :: _ :: _, hl, _ => simp at hl
/-- what book.cells is -/
theorem cells_eq {M : DM} {b k z : Nat} {nk : List (Str × D)} {cs : List (Str × Int)} (B : BookAt M b k z nk (szD cs)) (hl : cs.length ≤ 2) (hn : (cs.map (·.1)).Nodup) (ho : ∀ x y, cs = [x, y] → ¬ y.1.cps.toList < x.1.cps.toList) :
    ∃ M', g_Book_cells [.obj b] M = .ok (.tup (cs.map cellD)) M' ∧ Kept M M' := by
  have f1 := fld_sizes B
  have nm : (szD cs).map (·.1) = cs.map (·.1) := by simp [szD]
  have s1 : sortedD [.obj z] M = .ok (.obj M.length) (M ++ [.lst ((cs.map (·.1)).map .str)]) := by
    simp only [sortedD, B.sz, strKeys_kv, nm, srt2_cells hl ho]
  have K1 : Kept M (M ++ [.lst ((cs.map (·.1)).map .str)]) := Kept.refl.app _
  have g1 : (M ++ [.lst ((cs.map (·.1)).map .str)])[M.length]? = some (.lst ((cs.map (·.1)).map .str)) := get_new
  have B1 := B.kept K1
  generalize hM1 : (M ++ [MO.lst ((cs.map (·.1)).map .str)]) = M1 at *
  have e1' : iV (eCall sortedD (aCons (e1 (fldD "_sizes" [0]) (eVar 0)) aNil)) [some (.obj b), none] M = .ok (itL M.length (((cs.map (·.1)).map D.str).length + 1)) M1 := by
    simp only [iV, eCall, aCons, aNil, e1, eVar, List.getElem?_cons_zero, bind_ok, f1, s1, iVal, g1]
  have key := lcIt_pure (n := M1.length) (g := cNm 1) (ft := tYesD) (fe := eTup (aCons (eVar 1) (aCons (e2 gixD (e1 (fldD "_sizes" [0]) (eVar 0)) (eVar 1)) aNil))) (it := itL M.length (((cs.map (·.1)).map D.str).length + 1)) (δ := [some (.obj b), none]) (M := M1) rfl
    ((cs.map (·.1)).map .str) (fun d => match d with | .str s => .tup [.str s, ((szD cs).lookup s).getD .non] | _ => .non) (by simp; omega)
    (fun acc i => by simp only [itL, get_app g1]) (fun acc i d hd => by
      rw [List.getElem?_map] at hd
      cases ei : (cs.map (·.1))[i]? with
      | none => rw [ei] at hd; cases hd
      | some s =>
        rw [ei] at hd
        cases hd
        obtain ⟨v, hv, _⟩ := lookup_mem (l := szD cs) (s := s) (by rw [nm]; exact List.mem_of_getElem? ei)
        have B2 := B1.kept (Kept.refl.app [.lst acc])
        have f2 := fld_sizes B2
        have g2 := gix_dic B2.sz hv
        refine ⟨_, rfl, rfl, ?_⟩
        simp only [eTup, aCons, aNil, e2, e1, eVar, cNm, List.set_cons_zero, List.set_cons_succ, List.getElem?_cons_zero, List.getElem?_cons_succ, bind_ok, f2, g2, hv, Option.getD_some]) (((cs.map (·.1)).map D.str).length + 1) 0 [] (Nat.zero_le _) (by omega) rfl
  have eF : ((((cs.map (·.1)).map D.str)).drop 0).map (fun d => match d with | .str s => .tup [.str s, ((szD cs).lookup s).getD .non] | _ => .non) = cs.map cellD := by
    rw [List.drop_zero, List.map_map, List.map_map]
    apply List.ext_getElem
    · simp
    · intro i h1 h2
      simp only [List.length_map] at h1
      simp only [List.getElem_map, Function.comp]
      have : (szD cs).lookup cs[i].1 = some (.int cs[i].2) := ind_lookup (i := i) (by rw [nm]; exact hn) (by rw [List.getElem?_map, List.getElem?_eq_getElem h1]; rfl)
      rw [this]
      rfl
  rw [eF, List.nil_append] at key
  refine ⟨M1 ++ [.lst (cs.map cellD)], ?_, K1.app _⟩
  have lc : eLc [1] (iV (eCall sortedD (aCons (e1 (fldD "_sizes" [0]) (eVar 0)) aNil))) (cNm 1) tYesD (eTup (aCons (eVar 1) (aCons (e2 gixD (e1 (fldD "_sizes" [0]) (eVar 0)) (eVar 1)) aNil))) [some (.obj b), none] M = .ok (.obj M1.length) (M1 ++ [.lst (cs.map cellD)]) := by
    unfold eLc
    rw [e1']
    simp only [bind_ok]
    have fu : (itL M.length (((cs.map (·.1)).map D.str).length + 1)).fu = ((cs.map (·.1)).map D.str).length + 1 := rfl
    have w : wipeD [some (D.obj b), none] [1] = [some (.obj b), none] := rfl
    rw [fu, w, key]
  have t1 : tupleD [.obj M1.length] (M1 ++ [.lst (cs.map cellD)]) = .ok (.tup (cs.map cellD)) (M1 ++ [.lst (cs.map cellD)]) := by simp only [tupleD, itemsD, get_new]
  show (sRet (eCall tupleD (aCons _ aNil)) [some (.obj b), none] M).fin = _
  simp only [sRet, eCall, aCons, aNil, lc, bind_ok, t1, ro_ok, fin_rt]
theorem cell_names_eq {M : DM} {b k z : Nat} {nk : List (Str × D)} {cs : List (Str × Int)} (B : BookAt M b k z nk (szD cs)) (hl : cs.length ≤ 2) (hn : (cs.map (·.1)).Nodup) (ho : ∀ x y, cs = [x, y] → ¬ y.1.cps.toList < x.1.cps.toList) :
    ∃ M' n, g_cell_names [.obj b] M = .ok (.obj n) M' ∧ M'[n]? = some (.lst ((cs.map (·.1)).map .str)) ∧ Kept M M' := by
  obtain ⟨M1, c1, K1⟩ := cells_eq B hl hn ho
  have hB := B.at_
  have e1' : iV (ePr 0 g_Book_cells (eVar 0)) [some (.obj b), none, none] M = .ok (itS (cs.map cellD)) M1 := by
    simp only [iV, ePr, eVar, List.getElem?_cons_zero, bind_ok, hB, if_true, c1, iVal]
  have key := lcIt_pure (n := M1.length) (g := cTupN [1, 2]) (ft := tYesD) (fe := eVar 1) (it := itS (cs.map cellD)) (δ := [some (.obj b), none, none]) (M := M1) rfl
    (cs.map cellD) (fun d => match d with | .tup (x :: _) => x | _ => .non) (by simp; omega) (fun acc i => rfl) (fun acc i d hd => by
      rw [List.getElem?_map] at hd
      cases ei : cs[i]? with
      | none => rw [ei] at hd; cases hd
      | some q =>
        rw [ei] at hd
        cases hd
        exact ⟨_, rfl, rfl, rfl⟩) ((cs.map cellD).length + 1) 0 [] (Nat.zero_le _) (by omega) rfl
  refine ⟨M1 ++ [.lst ((cs.map (·.1)).map .str)], M1.length, ?_, get_new, K1.app _⟩
  have eF : ((cs.map cellD).drop 0).map (fun d => match d with | .tup (x :: _) => x | _ => .non) = (cs.map (·.1)).map .str := by
    rw [List.drop_zero, List.map_map, List.map_map]
    rfl
  rw [eF, List.nil_append] at key
  show (sRet (eLc _ _ _ _ _) [some (.obj b), none, none] M).fin = _
  unfold sRet eLc
  rw [e1']
  have fu : (itS (cs.map cellD)).fu = (cs.map cellD).length + 1 := rfl
  have w : wipeD [some (D.obj b), none, none] [1, 2] = [some (.obj b), none, none] := rfl
  simp only [bind_ok]
  rw [fu, w, key]
  rfl
end DL

set_option Elab.async false
set_option linter.all false
set_option maxRecDepth 100000
set_option maxHeartbeats 4000000
namespace DL
open PySem PySem.Spec L2
open PyProof.Rows hiding St
def f_law_value : FS :=
 (sSeq (sIf (tb (eCall isiD (aCons (eVar 0) (aCons (eC (D.ty "tuple")) aNil))))
  (sForR (eCall lenD (aCons (eVar 1) aNil)) (gNm 3)
  (sIf (tb (e2 eqD (e2 ixD (e2 ixD (eVar 1) (eVar 3)) (eC (D.int 0))) (e2 ixD (eVar 0) (eC (D.int 1)))))
  (sRet (e2 ixD (eVar 2) (eVar 3)))
  sNil))
  sNil)
 (sRet (eVar 0)))
def g_law_value : List D → DM → Rs D := fnD 4 f_law_value
local macro_rules | `(tactic| walk_at "dx") => `(tactic| try simp (disch := first | decide | assumption | omega) only [sPut, sOset, sFldD, eMeth, eMake, ePr, eMt, eCh, sAug, oN, oS, eSl, eDic0, eCv, sSeq, sIf, sRet, sRetN, sNil, sSet, sExpr, sAsg, gTupN, gNms, gNm, tb, tNotF, tAndF, tOrF, eNot, eAnd, eOr, eIf, eTup, eLst, aCons, aNil, eCall, e1, e2, eVar, eC, negD, bind_ok, ro_ok, seq_nx, seq_rt, seq_ct, seq_bk, fin_rt, fin_nx, sat_ok, sat_bind, sat_fin, sat_seq, sat_ro, rsat_nx, rsat_rt, rsat_ct, rsat_bk, seqQ_nx, seqQ_rt, seqQ_ct, seqQ_bk, finQ_nx, finQ_rt, loopQ_nx, loopQ_ct, loopQ_bk, loopQ_rt, sSub, ixo0, ixo1, ixo2, ixo3, ixo4, puts1, puts2, puts3, puts4, List.map_cons, List.map_nil, List.length_cons, List.length_nil, Nat.reduceAdd, Nat.reduceSub, List.replicate_succ, List.replicate_zero, List.nil_append, List.cons_append, List.getElem?_cons_zero, List.getElem?_cons_succ, List.set_cons_zero, List.set_cons_succ, ix0, ix1, ix2, ix3, ix4, eq_ss, eq_ii, eq_bb, ne_ss, ne_ii, add_ii, sub_ii, mul_ii, mod_ii, fdiv_ii, ord_ii, isN_, isNonD, int_i, if_true, if_false, Bool.false_eq_true, Bool.true_eq_false, Bool.not_true, Bool.not_false, decide_eq_true_eq, Bool.and_true, Bool.true_and, Bool.and_false, Bool.false_and, Bool.or_true, Bool.or_false, Bool.true_or, Bool.false_or, ofString_inj, String.reduceEq, decide_true, decide_false, Int.reduceLT, Int.reduceLE, Int.reduceEq, Int.reduceNeg, Int.reduceSub, Int.reduceAdd, Int.reducePow, Int.reduceMul, true_or, or_true, false_or, or_false, true_and, and_true, false_and, and_false, not_true_eq_false, not_false_eq_true, *])
theorem findS_at {s : Str} : ∀ {l : List Str}, s ∈ l → ∃ j, findS (l.map .str) s = some j ∧ l[j]? = some s ∧ ∀ i, i < j → l[i]? ≠ some s
  | [], h => nomatch h
  | a :: l, h => by
    by_cases e : a = s
    · exact ⟨0, by simp [findS, e], by simp [e], fun i hi => absurd hi (Nat.not_lt_zero _)⟩
    · rcases List.mem_cons.mp h with z | z
      · exact absurd z.symm e
      · obtain ⟨j, h1, h2, h3⟩ := findS_at z
        refine ⟨j + 1, by simp [findS, e, h1], by simpa using h2, fun i hi => ?_⟩
        cases i with
        | zero => simpa using e
        | succ i => simpa using h3 i (by omega)
theorem cells_eqG {M : DM} {b k z : Nat} {nk : List (Str × D)} {cs cs' : List (Str × Int)} (B : BookAt M b k z nk (szD cs')) (hS : srt2 (cs'.map (·.1)) = some (cs.map (·.1))) (hl : cs.length ≤ 2) (hL : ∀ q ∈ cs, (szD cs').lookup q.1 = some (.int q.2)) :
    ∃ M', g_Book_cells [.obj b] M = .ok (.tup (cs.map cellD)) M' ∧ Kept M M' := by
  have f1 := fld_sizes B
  have nm : (szD cs').map (·.1) = cs'.map (·.1) := by simp [szD]
  have s1 : sortedD [.obj z] M = .ok (.obj M.length) (M ++ [.lst ((cs.map (·.1)).map .str)]) := by
    simp only [sortedD, B.sz, strKeys_kv, nm, hS]
  have K1 : Kept M (M ++ [.lst ((cs.map (·.1)).map .str)]) := Kept.refl.app _
  have g1 : (M ++ [.lst ((cs.map (·.1)).map .str)])[M.length]? = some (.lst ((cs.map (·.1)).map .str)) := get_new
  have B1 := B.kept K1
  generalize hM1 : (M ++ [MO.lst ((cs.map (·.1)).map .str)]) = M1 at *
  have e1' : iV (eCall sortedD (aCons (e1 (fldD "_sizes" [0]) (eVar 0)) aNil)) [some (.obj b), none] M = .ok (itL M.length (((cs.map (·.1)).map D.str).length + 1)) M1 := by
    simp only [iV, eCall, aCons, aNil, e1, eVar, List.getElem?_cons_zero, bind_ok, f1, s1, iVal, g1]
  have key := lcIt_pure (n := M1.length) (g := cNm 1) (ft := tYesD) (fe := eTup (aCons (eVar 1) (aCons (e2 gixD (e1 (fldD "_sizes" [0]) (eVar 0)) (eVar 1)) aNil))) (it := itL M.length (((cs.map (·.1)).map D.str).length + 1)) (δ := [some (.obj b), none]) (M := M1) rfl
    ((cs.map (·.1)).map .str) (fun d => match d with | .str s => .tup [.str s, ((szD cs').lookup s).getD .non] | _ => .non) (by simp; omega)
    (fun acc i => by simp only [itL, get_app g1]) (fun acc i d hd => by
      rw [List.getElem?_map] at hd
      cases ei : (cs.map (·.1))[i]? with
      | none => rw [ei] at hd; cases hd
      | some s =>
        rw [ei] at hd
        cases hd
        obtain ⟨v, hv⟩ : ∃ v, (szD cs').lookup s = some v := by
          obtain ⟨q, hq, rfl⟩ := List.mem_map.mp (List.mem_of_getElem? ei)
          exact ⟨_, hL q hq⟩
        have B2 := B1.kept (Kept.refl.app [.lst acc])
        have f2 := fld_sizes B2
        have g2 := gix_dic B2.sz hv
        refine ⟨_, rfl, rfl, ?_⟩
        simp only [eTup, aCons, aNil, e2, e1, eVar, cNm, List.set_cons_zero, List.set_cons_succ, List.getElem?_cons_zero, List.getElem?_cons_succ, bind_ok, f2, g2, hv, Option.getD_some]) (((cs.map (·.1)).map D.str).length + 1) 0 [] (Nat.zero_le _) (by omega) rfl
  have eF : ((((cs.map (·.1)).map D.str)).drop 0).map (fun d => match d with | .str s => .tup [.str s, ((szD cs').lookup s).getD .non] | _ => .non) = cs.map cellD := by
    rw [List.drop_zero, List.map_map, List.map_map]
    apply List.ext_getElem
    · simp
    · intro i h1 h2
      simp only [List.length_map] at h1
      simp only [List.getElem_map, Function.comp]
      have : (szD cs').lookup cs[i].1 = some (.int cs[i].2) := hL _ (List.getElem_mem h1)
      rw [this]
      rfl
  rw [eF, List.nil_append] at key
  refine ⟨M1 ++ [.lst (cs.map cellD)], ?_, K1.app _⟩
  have lc : eLc [1] (iV (eCall sortedD (aCons (e1 (fldD "_sizes" [0]) (eVar 0)) aNil))) (cNm 1) tYesD (eTup (aCons (eVar 1) (aCons (e2 gixD (e1 (fldD "_sizes" [0]) (eVar 0)) (eVar 1)) aNil))) [some (.obj b), none] M = .ok (.obj M1.length) (M1 ++ [.lst (cs.map cellD)]) := by
    unfold eLc
    rw [e1']
    simp only [bind_ok]
    have fu : (itL M.length (((cs.map (·.1)).map D.str).length + 1)).fu = ((cs.map (·.1)).map D.str).length + 1 := rfl
    have w : wipeD [some (D.obj b), none] [1] = [some (.obj b), none] := rfl
    rw [fu, w, key]
  have t1 : tupleD [.obj M1.length] (M1 ++ [.lst (cs.map cellD)]) = .ok (.tup (cs.map cellD)) (M1 ++ [.lst (cs.map cellD)]) := by simp only [tupleD, itemsD, get_new]
  show (sRet (eCall tupleD (aCons _ aNil)) [some (.obj b), none] M).fin = _
  simp only [sRet, eCall, aCons, aNil, lc, bind_ok, t1, ro_ok, fin_rt]
theorem cell_names_eqG {M M1 : DM} {b : Nat} {fs : List (Str × D)} {cs : List (Str × Int)} (hB : M[b]? = some (.ins 0 fs)) (hl : cs.length ≤ 2) (c1 : g_Book_cells [.obj b] M = .ok (.tup (cs.map cellD)) M1) (K1 : Kept M M1) :
    ∃ M' n, g_cell_names [.obj b] M = .ok (.obj n) M' ∧ M'[n]? = some (.lst ((cs.map (·.1)).map .str)) ∧ Kept M M' := by
  have e1' : iV (ePr 0 g_Book_cells (eVar 0)) [some (.obj b), none, none] M = .ok (itS (cs.map cellD)) M1 := by
    simp only [iV, ePr, eVar, List.getElem?_cons_zero, bind_ok, hB, if_true, c1, iVal]
  have key := lcIt_pure (n := M1.length) (g := cTupN [1, 2]) (ft := tYesD) (fe := eVar 1) (it := itS (cs.map cellD)) (δ := [some (.obj b), none, none]) (M := M1) rfl
    (cs.map cellD) (fun d => match d with | .tup (x :: _) => x | _ => .non) (by simp; omega) (fun acc i => rfl) (fun acc i d hd => by
      rw [List.getElem?_map] at hd
      cases ei : cs[i]? with
      | none => rw [ei] at hd; cases hd
      | some q =>
        rw [ei] at hd
        cases hd
        exact ⟨_, rfl, rfl, rfl⟩) ((cs.map cellD).length + 1) 0 [] (Nat.zero_le _) (by omega) rfl
  refine ⟨M1 ++ [.lst ((cs.map (·.1)).map .str)], M1.length, ?_, get_new, K1.app _⟩
  have eF : ((cs.map cellD).drop 0).map (fun d => match d with | .tup (x :: _) => x | _ => .non) = (cs.map (·.1)).map .str := by
    rw [List.drop_zero, List.map_map, List.map_map]
    rfl
  rw [eF, List.nil_append] at key
  show (sRet (eLc _ _ _ _ _) [some (.obj b), none, none] M).fin = _
  unfold sRet eLc
  rw [e1']
  have fu : (itS (cs.map cellD)).fu = (cs.map cellD).length + 1 := rfl
  have w : wipeD [some (D.obj b), none, none] [1, 2] = [some (.obj b), none, none] := rfl
  simp only [bind_ok]
  rw [fu, w, key]
  rfl
/-- an argument read now -/
theorem value_of_eqG {M M0 : DM} {b : Nat} {bf : List (Str × D)} {cs : List (Str × Int)} {w s : Str} {vs : List D} {j : Nat} {v : D} (hB : M[b]? = some (.ins 0 bf)) (hl : cs.length ≤ 2) (cc : g_Book_cells [.obj b] M = .ok (.tup (cs.map cellD)) M0) (KK : Kept M M0)
    (hj : findS ((cs.map (·.1)).map .str) s = some j) (hv : vs[j]? = some v) : ∃ M', g_value_of [.tup [.str w, .str s], .obj b, .tup vs] M = .ok v M' ∧ Kept M M' := by
  obtain ⟨M1, n, c1, c2, K1⟩ := cell_names_eqG hB hl cc KK
  have t1 := ty_lst c2
  have hall : (((cs.map (·.1)).map D.str).all fun d => match d with | .str _ => true | _ => false) = true := by rw [List.all_map]; exact List.all_eq_true.mpr fun x _ => rfl
  have i1 : indexD (.obj n) [.str s] M1 = .ok (.int j) M1 := by
    simp only [indexD, c2, hj]
    exact if_pos hall
  have is : ∀ M : DM, isiD [.tup [.str w, .str s], .ty "tuple"] M = .ok (.bl true) M := fun M => isi_eq rfl isi_tab1.2.2.2.1
  have ix := ixn (M := M1) hv
  refine ⟨M1, ?_, K1⟩
  unfold g_value_of f_value_of fnD
  clear hB cc KK hj hv hall
  walk_at "dx"
theorem law_value_sat {M : DM} {p : Nat} {cs : List (Str × Int)} {w s : Str} {vs : List D} {j : Nat} {v : D} {Q : D → DM → Prop} (hp : M[p]? = some (.lst (cs.map cellD))) (hl : cs.length ≤ 2) (h1 : (cs.map (·.1))[j]? = some s) (h2 : ∀ i, i < j → (cs.map (·.1))[i]? ≠ some s)
    (hv : vs[j]? = some v) (q : Q v M) : (g_law_value [.tup [.str w, .str s], .obj p, .tup vs] M).sat Q := by
  have is : ∀ M : DM, isiD [.tup [.str w, .str s], .ty "tuple"] M = .ok (.bl true) M := fun M => isi_eq rfl isi_tab1.2.2.2.1
  have ix := ixn (M := M) hv
  have ll : lenD [.obj p] M = .ok (.int cs.length) M := by rw [len_o hp, List.length_map]
  have hjl : j < cs.length := by have := (List.getElem?_eq_some_iff.mp h1).1; rw [List.length_map] at this; exact this
  unfold g_law_value f_law_value fnD
  rw [sat_fin, show (sSeq (sIf (tb (eCall isiD (aCons (eVar 0) (aCons (eC (D.ty "tuple")) aNil)))) _ _) (sRet (eVar 0))) = sSeq (sIf (tb (eCall isiD (aCons (eVar 0) (aCons (eC (D.ty "tuple")) aNil)))) _ _) (sRet (eVar 0)) from rfl]
  simp only [sSeq, sat_seq, sIf, tb, eCall, aCons, aNil, eVar, eC, List.map_cons, List.map_nil, List.length_cons, List.length_nil, Nat.reduceAdd, Nat.reduceSub, List.replicate_succ, List.replicate_zero, List.cons_append, List.nil_append, List.getElem?_cons_zero, List.getElem?_cons_succ, bind_ok, is, ro_ok, if_true]
  refine sforR_sat (n := cs.length) (M' := M) (by simp only [eCall, aCons, aNil, eVar, List.getElem?_cons_zero, List.getElem?_cons_succ, bind_ok, ll]) (range_ok (by omega)) (fun i δ M' => M' = M ∧ i ≤ j ∧ ∃ o, δ = [some (.tup [.str w, .str s]), some (.obj p), some (.tup vs), o]) ⟨rfl, Nat.zero_le _, none, rfl⟩ ?_ ?_
  · rintro i δ M1 hi ⟨rfl, hij, o, rfl⟩
    refine ⟨_, _, rfl, ?_⟩
    have hi2 : i < cs.length := by omega
    have i1 : ixD (.obj p) (.int i) M1 = .ok (cellD cs[i]) M1 := ixo hp (by rw [List.getElem?_map, List.getElem?_eq_getElem hi2]; rfl)
    have ei : (cs.map (·.1))[i]? = some cs[i].1 := by rw [List.getElem?_map, List.getElem?_eq_getElem hi2]; rfl
    by_cases c : cs[i].1 = s
    · have e : i = j := by
        rcases Nat.lt_or_ge i j with z | z
        · exact absurd (ei.trans (by rw [c])) (h2 i z)
        · omega
      subst e
      simp only [sIf, sRet, tb, e2, eVar, eC, gNm, List.set_cons_zero, List.set_cons_succ, List.getElem?_cons_zero, List.getElem?_cons_succ, bind_ok, i1, ix0, ix1, eq_ss, c, decide_true, if_true, ro_ok, ix, rsat_rt, loopQ_rt, seqQ_rt, finQ_rt]
      exact q
    · have hne : i ≠ j := fun e => c (by
        rw [← e, ei] at h1
        exact Option.some.inj h1)
      simp only [sIf, sNil, tb, e2, eVar, eC, gNm, List.set_cons_zero, List.set_cons_succ, List.getElem?_cons_zero, List.getElem?_cons_succ, bind_ok, i1, ix0, ix1, eq_ss, c, decide_false, Bool.false_eq_true, if_false, ro_ok, rsat_nx, loopQ_nx]
      exact ⟨trivial, by omega, _, rfl⟩
  · rintro δ M1 ⟨rfl, hij, o, rfl⟩
    omega
theorem isi_tab4 : isiTab "NoneType" "tuple" = some false ∧ isiTab "int" "tuple" = some false := by decide +kernel
/-- a book whose cells are told in order -/
structure CellsB (M : DM) (b : Nat) (nk : List (Str × D)) (cs : List (Str × Int)) : Prop where
  ex : ∃ k z cs', BookAt M b k z nk (szD cs') ∧ srt2 (cs'.map (·.1)) = some (cs.map (·.1)) ∧ ∀ q ∈ cs, (szD cs').lookup q.1 = some (.int q.2)
theorem CellsB.kept {M M1 : DM} {b : Nat} {nk : List (Str × D)} {cs : List (Str × Int)} (B : CellsB M b nk cs) (a : Kept M M1) : CellsB M1 b nk cs := by
  obtain ⟨k, z, cs', h, h1, h2⟩ := B.ex
  exact ⟨k, z, cs', h.kept a, h1, h2⟩
theorem CellsB.knows {M : DM} {b : Nat} {nk : List (Str × D)} {cs : List (Str × Int)} (B : CellsB M b nk cs) : KnowsB M b nk := by
  obtain ⟨k, z, cs', h, _⟩ := B.ex
  exact ⟨k, z, _, h⟩
/-- the value of an argument -/
def valP (cs : List (Str × Int)) (vs : List D) (a : D) : D := match a with
  | .tup [.str _, .str s] => match findS ((cs.map (·.1)).map .str) s with
    | some j => vs[j]?.getD .non
    | none => .non
  | a => a
structure StoreOk (cs : List (Str × Int)) (vs : List D) : Prop where
  len : vs.length = cs.length
  ok : ∀ v ∈ vs, ∃ i : Int, v = .int i ∧ 0 ≤ i ∧ i < 1000
theorem val_cell {cs : List (Str × Int)} {vs : List D} {w s : Str} (hv : StoreOk cs vs) (hs : s ∈ cs.map (·.1)) : ∃ (j : Nat) (i : Int), findS ((cs.map (·.1)).map .str) s = some j ∧ (cs.map (·.1))[j]? = some s ∧ (∀ i, i < j → (cs.map (·.1))[i]? ≠ some s) ∧ vs[j]? = some (.int i) ∧ valP cs vs (.tup [.str w, .str s]) = .int i ∧ 0 ≤ i ∧ i < 1000 := by
  obtain ⟨j, h1, h2, h3⟩ := findS_at hs
  have hj : j < vs.length := by
    have := (List.getElem?_eq_some_iff.mp h2).1
    rw [List.length_map] at this
    rw [hv.len]; exact this
  obtain ⟨i, e, h4, h5⟩ := hv.ok vs[j] (List.getElem_mem hj)
  have e2 : vs[j]? = some (.int i) := by rw [List.getElem?_eq_getElem hj, e]
  exact ⟨j, i, h1, h2, h3, e2, by simp only [valP, h1, e2, Option.getD_some], h4, h5⟩
theorem valP_ok {cs : List (Str × Int)} {vs : List D} {a : D} (ha : ArgOk cs a) (hv : StoreOk cs vs) : ArgOk [] (valP cs vs a) := by
  rcases ha.ex with rfl | ⟨n, rfl, h⟩ | ⟨w, s, _, hs, rfl⟩
  · exact ⟨.inl rfl⟩
  · exact ⟨.inr (.inl ⟨n, rfl, h⟩)⟩
  · obtain ⟨j, i, _, _, _, _, e, h1, h2⟩ := val_cell (w := w) hv hs
    rw [e]
    exact ⟨.inr (.inl ⟨i, rfl, h1, h2⟩)⟩
theorem value_of_sat {M : DM} {b : Nat} {nk : List (Str × D)} {cs : List (Str × Int)} {vs : List D} {a : D} {Q : D → DM → Prop} (B : CellsB M b nk cs) (hl : cs.length ≤ 2) (hv : StoreOk cs vs) (ha : ArgOk cs a) (q : ∀ M', Kept M M' → Q (valP cs vs a) M') : (g_value_of [a, .obj b, .tup vs] M).sat Q := by
  rcases ha.ex with rfl | ⟨n, rfl, h⟩ | ⟨w, s, _, hs, rfl⟩
  · have is : ∀ M : DM, isiD [.non, .ty "tuple"] M = .ok (.bl false) M := fun M => isi_eq rfl isi_tab4.1
    have := q M .refl
    unfold g_value_of f_value_of fnD
    clear q
    walk_at "dx"
    exact this
  · have is : ∀ M : DM, isiD [.int n, .ty "tuple"] M = .ok (.bl false) M := fun M => isi_eq rfl isi_tab4.2
    have := q M .refl
    unfold g_value_of f_value_of fnD
    clear q
    walk_at "dx"
    exact this
  · obtain ⟨j, i, h1, _, _, h2, e, _⟩ := val_cell (w := w) hv hs
    obtain ⟨k, z, cs', hB, hS, hL⟩ := B.ex
    obtain ⟨M1, c1, K1⟩ := cells_eqG hB hS hl hL
    obtain ⟨M2, e2, K2⟩ := value_of_eqG (w := w) hB.at_ hl c1 K1 h1 h2
    rw [e2]
    have := q M2 K2
    rw [e] at this
    exact this
theorem law_val_sat {M : DM} {p : Nat} {cs : List (Str × Int)} {vs : List D} {a : D} {Q : D → DM → Prop} (hp : M[p]? = some (.lst (cs.map cellD))) (hl : cs.length ≤ 2) (hv : StoreOk cs vs) (ha : ArgOk cs a) (q : Q (valP cs vs a) M) : (g_law_value [a, .obj p, .tup vs] M).sat Q := by
  rcases ha.ex with rfl | ⟨n, rfl, h⟩ | ⟨w, s, _, hs, rfl⟩
  · have is : ∀ M : DM, isiD [.non, .ty "tuple"] M = .ok (.bl false) M := fun M => isi_eq rfl isi_tab4.1
    unfold g_law_value f_law_value fnD
    walk_at "dx"
    exact q
  · have is : ∀ M : DM, isiD [.int n, .ty "tuple"] M = .ok (.bl false) M := fun M => isi_eq rfl isi_tab4.2
    unfold g_law_value f_law_value fnD
    walk_at "dx"
    exact q
  · obtain ⟨j, i, h1, h3, h4, h2, e, _⟩ := val_cell (w := w) hv hs
    rw [e] at q
    exact law_value_sat hp hl h3 h4 h2 q
end DL

set_option Elab.async false
set_option linter.all false
set_option maxRecDepth 100000
set_option maxHeartbeats 4000000
namespace DL
open PySem PySem.Spec L2
open PyProof.Rows hiding St
def f_law_actionB (G : List D → DM → Rs D) : FS :=
 (sSeq (sSet 3 (e2 ixD (eLst (aCons (eC (D.str "done")) (aCons (eC (D.str "error")) (aCons (eC (D.str "always")) aNil)))) (eCall g_law_draw (aCons (eVar 0) (aCons (eC (D.int 3)) aNil)))))
 (sSeq (sSet 4 (e2 ixD (e2 ixD (eVar 1) (eC (D.int 0))) (eCall g_law_draw (aCons (eVar 0) (aCons (eCall lenD (aCons (e2 ixD (eVar 1) (eC (D.int 0))) aNil)) aNil)))))
 (sSeq (sSet 5 (eCall g_law_argument (aCons (eVar 0) (aCons (eVar 1) (aCons (eC (D.bl true)) aNil)))))
 (sSeq (sSet 6 (eTup aNil))
 (sSeq (sIf (tAndF (tb (e2 neD (eVar 3) (eC (D.str "error")))) (tAndF (tb (e2 ltD (eVar 2) (eC (D.int 2)))) (tb (e2 eqD (eCall g_law_draw (aCons (eVar 0) (aCons (eC (D.int 3)) aNil))) (eC (D.int 2))))))
  (sForR (e2 addD (eC (D.int 1)) (eCall g_law_draw (aCons (eVar 0) (aCons (eC (D.int 3)) aNil)))) (gNm 7)
  (sSet 6 (e2 addD (eVar 6) (eTup (aCons (eCall G (aCons (eVar 0) (aCons (eVar 1) (aCons (e2 addD (eVar 2) (eC (D.int 1))) aNil)))) aNil)))))
  sNil)
 (sRet (eTup (aCons (eVar 3) (aCons (eVar 4) (aCons (eVar 5) (aCons (eVar 6) aNil)))))))))))
def g_law_actionB : Nat → List D → DM → Rs D
  | 0 => fun _ _ => .bad
  | n + 1 => fnD 8 (f_law_actionB (g_law_actionB n))
def f_law_richB : FS :=
 (sSeq (sIf (tb (e2 eqD (eCall g_law_draw (aCons (eVar 0) (aCons (eC (D.int 2)) aNil))) (eC (D.int 0))))
  (sRet (eCall (g_law_actionB 4) (aCons (eVar 0) (aCons (eVar 1) (aCons (eC (D.int 0)) aNil)))))
  sNil)
 (sSeq (sSet 2 (eTup aNil))
 (sSeq (sForR (e2 addD (eC (D.int 1)) (eCall g_law_draw (aCons (eVar 0) (aCons (eC (D.int 3)) aNil)))) (gNm 3)
  (sSet 2 (e2 addD (eVar 2) (eTup (aCons (eCall (g_law_actionB 4) (aCons (eVar 0) (aCons (eVar 1) (aCons (eC (D.int 1)) aNil)))) aNil)))))
 (sSeq (sSet 4 (e2 ixD (e2 ixD (eVar 1) (eC (D.int 0))) (eCall g_law_draw (aCons (eVar 0) (aCons (eCall lenD (aCons (e2 ixD (eVar 1) (eC (D.int 0))) aNil)) aNil)))))
 (sRet (eTup (aCons (e2 ixD (eLst (aCons (eC (D.str "done")) (aCons (eC (D.str "always")) aNil))) (eCall g_law_draw (aCons (eVar 0) (aCons (eC (D.int 2)) aNil)))) (aCons (eVar 4) (aCons (eCall g_law_argument (aCons (eVar 0) (aCons (eVar 1) (aCons (eC (D.bl true)) aNil)))) (aCons (eVar 2) aNil))))))))))
def g_law_richB : List D → DM → Rs D := fnD 5 f_law_richB
local macro_rules | `(tactic| walk_at "dx") => `(tactic| try simp (disch := first | decide | assumption | omega) only [sPut, sOset, sFldD, eMeth, eMake, ePr, eMt, eCh, sAug, oN, oS, eSl, eDic0, eCv, sSeq, sIf, sRet, sRetN, sNil, sSet, sExpr, sAsg, gTupN, gNms, gNm, tb, tNotF, tAndF, tOrF, eNot, eAnd, eOr, eIf, eTup, eLst, aCons, aNil, eCall, e1, e2, eVar, eC, negD, bind_ok, ro_ok, seq_nx, seq_rt, seq_ct, seq_bk, fin_rt, fin_nx, sat_ok, sat_bind, sat_fin, sat_seq, sat_ro, rsat_nx, rsat_rt, rsat_ct, rsat_bk, seqQ_nx, seqQ_rt, seqQ_ct, seqQ_bk, finQ_nx, finQ_rt, loopQ_nx, loopQ_ct, loopQ_bk, loopQ_rt, sSub, ixo0, ixo1, ixo2, ixo3, ixo4, puts1, puts2, puts3, puts4, List.map_cons, List.map_nil, List.length_cons, List.length_nil, Nat.reduceAdd, Nat.reduceSub, List.replicate_succ, List.replicate_zero, List.nil_append, List.cons_append, List.getElem?_cons_zero, List.getElem?_cons_succ, List.set_cons_zero, List.set_cons_succ, ix0, ix1, ix2, ix3, ix4, eq_ss, eq_ii, eq_bb, ne_ss, ne_ii, add_ii, sub_ii, mul_ii, mod_ii, fdiv_ii, ord_ii, isN_, isNonD, int_i, if_true, if_false, Bool.false_eq_true, Bool.true_eq_false, Bool.not_true, Bool.not_false, decide_eq_true_eq, Bool.and_true, Bool.true_and, Bool.and_false, Bool.false_and, Bool.or_true, Bool.or_false, Bool.true_or, Bool.false_or, ofString_inj, String.reduceEq, decide_true, decide_false, Int.reduceLT, Int.reduceLE, Int.reduceEq, Int.reduceNeg, Int.reduceSub, Int.reduceAdd, Int.reducePow, Int.reduceMul, true_or, or_true, false_or, or_false, true_and, and_true, false_and, and_false, not_true_eq_false, not_false_eq_true, *])
theorem law_actionB_sat {l : Nat} {nk : List (Str × D)} {cs : List (Str × Int)} {n m : Nat} (O : LoreOk nk cs n m) (hn : n ≤ 12) (hm : m ≤ 2) : ∀ (t fuel : Nat) {M : DM} {dep : Int} {Q : D → DM → Prop}, t ≤ 2 → t + 1 ≤ fuel → dep = 2 - (t : Int) → PoolAt M → LoreAt M l nk cs →
    (∀ d M', ActOk nk cs (t + 1) d → Grew M M' → Q d M') → (g_law_actionB fuel [.obj 1, .obj l, .int dep] M).sat Q := by
  intro t
  induction t with
  | zero =>
    intro fuel M dep Q _ hf hdep P L q
    obtain ⟨f, rfl⟩ : ∃ f, fuel = f + 1 := ⟨fuel - 1, by omega⟩
    show Rs.sat (fnD 8 (f_law_actionB (g_law_actionB f)) [.obj 1, .obj l, .int dep] M) Q
    have G0 : Grew M (M ++ [.lst [.str "done", .str "error", .str "always"]]) := (Grew.refl P).app _
    have gn : (M ++ [.lst [.str "done", .str "error", .str "always"]])[M.length]? = some (.lst [.str "done", .str "error", .str "always"]) := get_new
    have two := P.two
    have nlen := O.len
    unfold f_law_actionB fnD
    generalize g_law_actionB f = G at *
    have hd : ¬ dep < 2 := by omega
    clear hdep
    walk_at "dx"
    generalize (M ++ [.lst [.str "done", .str "error", .str "always"]]) = M0 at *
    refine law_draw_sat G0.pool (by decide) fun r M1 h1 h2 D1 => ?_
    obtain ⟨g, hg, hi⟩ : ∃ g, GuardOk g ∧ ixD (.obj M.length) (.int r) M1 = .ok (.str g) M1 := by
      have gn1 := (D1.get (by omega)).trans gn
      have : r = 0 ∨ r = 1 ∨ r = 2 := by omega
      rcases this with rfl | rfl | rfl
      · exact ⟨_, .inl rfl, ixo (k := 0) gn1 rfl⟩
      · exact ⟨_, .inr (.inl rfl), ixo (k := 1) gn1 rfl⟩
      · exact ⟨_, .inr (.inr rfl), ixo (k := 2) gn1 rfl⟩
    have G1 := G0.trans D1.grew
    obtain ⟨la, i0, l0, hla, gla⟩ := step_draw (L.grew G1) O
    have npos := O.pos
    clear G0 gn D1 h1 h2
    walk_at "dx"
    refine law_draw_sat G1.pool (by omega) fun k M2 h3 h4 D2 => ?_
    obtain ⟨s, i3, hs⟩ := step_ix ((D2.get (by omega)).trans gla) h3 h4
    have G2 := G1.trans D2.grew
    walk_at "dx"
    refine law_argument_sat G2.pool (L.grew G2) O hm fun a M3 ha D3 => ?_
    have fin := q (mkA g s a []) M3 ⟨g, s, a, [], rfl, hg, hs, ha, by simp, by simp, fun _ => rfl⟩ (G2.trans D3.grew)
    clear q
    by_cases he : g = ("error" : Str)
    · rw [he] at fin
      walk_at "dx"
    · walk_at "dx"
  | succ t ih =>
    intro fuel M dep Q ht hf hdep P L q
    obtain ⟨f, rfl⟩ : ∃ f, fuel = f + 1 := ⟨fuel - 1, by omega⟩
    show Rs.sat (fnD 8 (f_law_actionB (g_law_actionB f)) [.obj 1, .obj l, .int dep] M) Q
    have G0 : Grew M (M ++ [.lst [.str "done", .str "error", .str "always"]]) := (Grew.refl P).app _
    have gn : (M ++ [.lst [.str "done", .str "error", .str "always"]])[M.length]? = some (.lst [.str "done", .str "error", .str "always"]) := get_new
    have two := P.two
    have nlen := O.len
    unfold f_law_actionB fnD
    have ihf := fun {M : DM} {Q : D → DM → Prop} => ih f (M := M) (dep := dep + 1) (Q := Q) (by omega) (by omega) (by omega)
    clear ih
    generalize g_law_actionB f = G at *
    have hd : dep < 2 := by omega
    have hd0 : 0 ≤ dep := by omega
    clear hdep ht hf
    walk_at "dx"
    generalize (M ++ [.lst [.str "done", .str "error", .str "always"]]) = M0 at *
    refine law_draw_sat G0.pool (by decide) fun r M1 h1 h2 D1 => ?_
    obtain ⟨g, hg, hi⟩ : ∃ g, GuardOk g ∧ ixD (.obj M.length) (.int r) M1 = .ok (.str g) M1 := by
      have gn1 := (D1.get (by omega)).trans gn
      have : r = 0 ∨ r = 1 ∨ r = 2 := by omega
      rcases this with rfl | rfl | rfl
      · exact ⟨_, .inl rfl, ixo (k := 0) gn1 rfl⟩
      · exact ⟨_, .inr (.inl rfl), ixo (k := 1) gn1 rfl⟩
      · exact ⟨_, .inr (.inr rfl), ixo (k := 2) gn1 rfl⟩
    have G1 := G0.trans D1.grew
    obtain ⟨la, i0, l0, hla, gla⟩ := step_draw (L.grew G1) O
    have npos := O.pos
    clear G0 gn D1 h1 h2
    walk_at "dx"
    refine law_draw_sat G1.pool (by omega) fun k M2 h3 h4 D2 => ?_
    obtain ⟨s, i3, hs⟩ := step_ix ((D2.get (by omega)).trans gla) h3 h4
    have G2 := G1.trans D2.grew
    walk_at "dx"
    refine law_argument_sat G2.pool (L.grew G2) O hm fun a M3 ha D3 => ?_
    have G3 := G2.trans D3.grew
    have fin := fun fs M4 (hf : ∀ f ∈ fs, ActOk nk cs (t + 1) f) (hz : fs.length ≤ 3) (hge : g = "error" → fs = []) (G4 : Grew M M4) => q (mkA g s a fs) M4 ⟨g, s, a, fs, rfl, hg, hs, ha, hf, hz, hge⟩ G4
    have fin0 := fin [] M3 (by simp) (by simp) (fun _ => rfl) G3
    clear q i0 l0 gla i3 hi hg hs ha
    by_cases he : g = ("error" : Str)
    · clear fin
      rw [he] at fin0
      walk_at "dx"
    · walk_at "dx"
      refine law_draw_sat G3.pool (by decide) fun r2 M4 h5 h6 D4 => ?_
      have G4 := G3.trans D4.grew
      by_cases h7 : r2 = 2
      · clear fin0
        walk_at "dx"
        refine sforR_of ?_
        walk_at "dx"
        refine law_draw_sat G4.pool (by omega) fun r3 M5 h8 h9 D5 => ?_
        have G5 := G4.trans D5.grew
        walk_at "dx"
        refine ⟨1 + r3, rfl, ?_⟩
        refine acts_loop (Pd := ActOk nk cs (t + 1)) (base := fun o w => [some (.obj 1), some (.obj l), some (.int dep), some (.str g), some (.str s), some a, some (.tup w), o]) G5.pool (by omega) (fun _ _ _ => rfl) (fun _ _ => rfl) (fun _ _ _ => rfl) ?_ ?_ none
        · intro o w M6 G6
          simp only [eCall, aCons, aNil, eVar, e2, eC, List.getElem?_cons_zero, List.getElem?_cons_succ, bind_ok, add_ii]
          exact ihf G6.pool (L.grew (G5.trans G6)) fun d M7 hd G7 => ⟨hd, G6.trans G7⟩
        · intro o w M6 hw hl G6
          have fin1 := fin w M6 hw (by omega) (fun z => absurd z he) (G5.trans G6)
          clear fin
          walk_at "dx"
      · have fin1 := fin [] M4 (by simp) (by simp) (fun _ => rfl) G4
        clear fin fin0
        walk_at "dx"
theorem law_richB_sat {M : DM} {l : Nat} {nk : List (Str × D)} {cs : List (Str × Int)} {n m : Nat} {Q : D → DM → Prop} (O : LoreOk nk cs n m) (hn : n ≤ 12) (hm : m ≤ 2) (P : PoolAt M) (L : LoreAt M l nk cs)
    (q : ∀ d M', ActOk nk cs 3 d → Grew M M' → Q d M') : (g_law_richB [.obj 1, .obj l] M).sat Q := by
  unfold g_law_richB f_law_richB fnD
  walk_at "dx"
  refine law_draw_sat P (by decide) fun r M1 h1 h2 D1 => ?_
  have G1 := D1.grew
  by_cases c : r = 0
  · walk_at "dx"
    exact law_actionB_sat O hn hm 2 4 (by omega) (by omega) (by omega) G1.pool (L.grew G1) fun d M2 hd G2 => q d M2 hd (G1.trans G2)
  · walk_at "dx"
    refine sforR_of ?_
    walk_at "dx"
    refine law_draw_sat G1.pool (by decide) fun r2 M2 h3 h4 D2 => ?_
    have G2 := G1.trans D2.grew
    walk_at "dx"
    refine ⟨1 + r2, rfl, ?_⟩
    refine acts_loop (Pd := ActOk nk cs 2) (base := fun o w => [some (.obj 1), some (.obj l), some (.tup w), o, none]) G2.pool (by omega) (fun _ _ _ => rfl) (fun _ _ => rfl) (fun _ _ _ => rfl) ?_ ?_ none
    · intro o w M6 G6
      simp only [eCall, aCons, aNil, eVar, e2, eC, List.getElem?_cons_zero, List.getElem?_cons_succ, bind_ok]
      exact law_actionB_sat O hn hm 1 4 (by omega) (by omega) (by omega) G6.pool (L.grew (G2.trans G6)) fun d M7 hd G7 => ⟨hd, G6.trans G7⟩
    · intro o w M3 hw hl G3
      have G3' := G2.trans G3
      obtain ⟨la, i0, l0, hla, gla⟩ := step_draw (L.grew G3') O
      have npos := O.pos
      have nlen := O.len
      walk_at "dx"
      refine law_draw_sat G3'.pool (by omega) fun k M4 h5 h6 D4 => ?_
      obtain ⟨s, i3, hs⟩ := step_ix ((D4.get (by omega)).trans gla) h5 h6
      have G4 := G3'.trans D4.grew
      walk_at "dx"
      have gn : (M4 ++ [.lst [.str "done", .str "always"]])[M4.length]? = some (.lst [.str "done", .str "always"]) := get_new
      have G5 := G4.app [.lst [.str "done", .str "always"]]
      have two := G4.pool.two
      generalize (M4 ++ [.lst [.str "done", .str "always"]]) = M5 at *
      refine law_draw_sat G5.pool (by decide) fun r3 M6 h7 h8 D6 => ?_
      obtain ⟨g, hg, hi, hge⟩ : ∃ g, GuardOk g ∧ ixD (.obj M4.length) (.int r3) M6 = .ok (.str g) M6 ∧ g ≠ ("error" : Str) := by
        have gn1 := (D6.get (by omega)).trans gn
        have : r3 = 0 ∨ r3 = 1 := by omega
        rcases this with rfl | rfl
        · exact ⟨_, .inl rfl, ixo (k := 0) gn1 rfl, by decide +kernel⟩
        · exact ⟨_, .inr (.inr rfl), ixo (k := 1) gn1 rfl, by decide +kernel⟩
      have G6 := G5.trans D6.grew
      walk_at "dx"
      refine law_argument_sat G6.pool (L.grew G6) O hm fun a M7 ha D7 => ?_
      exact q _ _ ⟨g, s, a, w, rfl, hg, hs, ha, hw, by omega, fun z => absurd z hge⟩ (G6.trans D7.grew)
end DL

set_option Elab.async false
set_option linter.all false
set_option maxRecDepth 100000
set_option maxHeartbeats 4000000
namespace DL
open PySem PySem.Spec L2
open PyProof.Rows hiding St
def f_law_bookT : FS :=
 (sSeq (sSet 2 (eMake 0 g_Book_init [(D.cl 1000), (D.cl 1001)] aNil))
 (sSeq (sFor (fun _ _ => 0) (e2 ixD (eVar 0) (eC (D.int 0))) (gNm 3)
  (sOset 0 g_Book_setitem (e2 gixD (e2 ixD (eVar 0) (eC (D.int 1))) (eVar 3)) (eVar 2) (eVar 3)))
 (sSeq (sSet 4 (e2 ixD (eVar 0) (eC (D.int 2))))
 (sSeq (sIf (tb (eVar 1))
  (sSet 4 (eLc [6] (iR (eCall lenD (aCons (e2 ixD (eVar 0) (eC (D.int 2))) aNil))) (cNm 6) tYesD (e2 ixD (e2 ixD (eVar 0) (eC (D.int 2))) (e2 subD (e2 subD (eCall lenD (aCons (e2 ixD (eVar 0) (eC (D.int 2))) aNil)) (eC (D.int 1))) (eVar 6)))))
  sNil)
 (sSeq (sFor (fun _ _ => 0) (eVar 4) (gNm 5)
  (sExpr (eMeth "add_cell" [(0, g_Book_add_cell)] (eVar 2) (aCons (e2 ixD (eVar 5) (eC (D.int 0))) (aCons (e2 ixD (eVar 5) (eC (D.int 1))) aNil)))))
 (sRet (eVar 2)))))))
def g_law_bookT : List D → DM → Rs D := fnD 7 f_law_bookT
local macro_rules | `(tactic| walk_at "dx") => `(tactic| try simp (disch := first | decide | assumption | omega) only [sPut, sOset, sFldD, eMeth, eMake, ePr, eMt, eCh, sAug, oN, oS, eSl, eDic0, eCv, sSeq, sIf, sRet, sRetN, sNil, sSet, sExpr, sAsg, gTupN, gNms, gNm, tb, tNotF, tAndF, tOrF, eNot, eAnd, eOr, eIf, eTup, eLst, aCons, aNil, eCall, e1, e2, eVar, eC, negD, bind_ok, ro_ok, seq_nx, seq_rt, seq_ct, seq_bk, fin_rt, fin_nx, sat_ok, sat_bind, sat_fin, sat_seq, sat_ro, rsat_nx, rsat_rt, rsat_ct, rsat_bk, seqQ_nx, seqQ_rt, seqQ_ct, seqQ_bk, finQ_nx, finQ_rt, loopQ_nx, loopQ_ct, loopQ_bk, loopQ_rt, sSub, ixo0, ixo1, ixo2, ixo3, ixo4, puts1, puts2, puts3, puts4, List.map_cons, List.map_nil, List.length_cons, List.length_nil, Nat.reduceAdd, Nat.reduceSub, List.replicate_succ, List.replicate_zero, List.nil_append, List.cons_append, List.getElem?_cons_zero, List.getElem?_cons_succ, List.set_cons_zero, List.set_cons_succ, ix0, ix1, ix2, ix3, ix4, eq_ss, eq_ii, eq_bb, ne_ss, ne_ii, add_ii, sub_ii, mul_ii, mod_ii, fdiv_ii, ord_ii, isN_, isNonD, int_i, if_true, if_false, Bool.false_eq_true, Bool.true_eq_false, Bool.not_true, Bool.not_false, decide_eq_true_eq, Bool.and_true, Bool.true_and, Bool.and_false, Bool.false_and, Bool.or_true, Bool.or_false, Bool.true_or, Bool.false_or, ofString_inj, String.reduceEq, decide_true, decide_false, Int.reduceLT, Int.reduceLE, Int.reduceEq, Int.reduceNeg, Int.reduceSub, Int.reduceAdd, Int.reducePow, Int.reduceMul, true_or, or_true, false_or, or_false, true_and, and_true, false_and, and_false, not_true_eq_false, not_false_eq_true, *])
/-- the cells are set in the order cs' -/
theorem pairs_sat {M0 M1 : DM} {np b k z : Nat} {nk : List (Str × D)} {cs : List (Str × Int)} {x0 x1 x3 x5 x6 : Option D} {R : Ro → Prop} (B : BookAt M1 b k z nk []) (hp : M1[np]? = some (.lst (cs.map cellD))) (ok : ∀ q ∈ cs, NameOk q.1 ∧ (q.2 = 2 ∨ q.2 = 3)) (nd : (cs.map (·.1)).Nodup) (hl : cs.length ≤ 2) (hn : np ≠ z) (bz : b ≠ z) (kz : k ≠ z) (z0 : M0.length ≤ z) (K : Kept M0 M1)
    (fin : ∀ o M2, BookAt M2 b k z nk (szD cs) → Kept M0 M2 → R (.nx [x0, x1, some (.obj b), x3, some (.obj np), o, x6] M2)) :
    (sFor (fun _ _ => 0) (eVar 4) (gNm 5)
  (sExpr (eMeth "add_cell" [(0, g_Book_add_cell)] (eVar 2) (aCons (e2 ixD (eVar 5) (eC (D.int 0))) (aCons (e2 ixD (eVar 5) (eC (D.int 1))) aNil)))) [x0, x1, some (.obj b), x3, some (.obj np), x5, x6] M1).sat R := by
  refine sforO_sat (cs.map cellD) (M' := M1) (n := np) (by simp only [eVar, List.getElem?_cons_zero, List.getElem?_cons_succ])
      (fun i δ M' => BookAt M' b k z nk (szD (cs.take i)) ∧ M'[np]? = some (.lst (cs.map cellD)) ∧ Kept M0 M' ∧ ∃ o, δ = [x0, x1, some (.obj b), x3, some (.obj np), o, x6]) (fun i δ M' h => h.2.1) ⟨by rw [List.take_zero]; exact B, hp, K, x5, rfl⟩ ?_ ?_
  · rintro i d δ M2 hd ⟨B, hp, K, o, rfl⟩
    rw [List.getElem?_map] at hd
    cases e : cs[i]? with
    | none => rw [e] at hd; cases hd
    | some p =>
      obtain ⟨s, w⟩ := p
      rw [e] at hd
      cases hd
      refine ⟨_, _, rfl, ?_⟩
      have ok := ok (s, w) (List.mem_of_getElem? e)
      have hi := (List.getElem?_eq_some_iff.mp e).1
      have s1 := add_cell_eq B ok.1 ok.2 (lookup_none (by rw [List.map_map]; exact not_in_take nd e)) (by rw [List.length_map, List.length_take]; omega)
      have hB := B.at_
      have eT : szD (cs.take i) ++ [(s, D.int w)] = szD (cs.take (i + 1)) := by rw [← take_snoc e, szD, szD, List.map_append]; rfl
      rw [eT] at s1
      have B2 : BookAt (M2.set z (.dic (kvD (szD (cs.take (i + 1)))))) b k z nk (szD (cs.take (i + 1))) := ⟨get_set B.at_ bz, get_set B.kn kz, get_self B.sz, kz⟩
      have K2 := K.set (i := z) z0 (.dic (kvD (szD (cs.take (i + 1)))))
      have hp2 : (M2.set z (.dic (kvD (szD (cs.take (i + 1))))))[np]? = some (.lst (cs.map cellD)) := get_set hp hn
      have tl : List.lookup 0 ([(0, g_Book_add_cell)] : MTab) = some g_Book_add_cell := rfl
      have fl : List.lookup ("add_cell" : Str) ([("_kinds", D.obj k), ("_sizes", D.obj z)] : List (Str × D)) = none := rfl
      clear B ok hp K eT
      simp only [gNm, sExpr, eMeth, eVar, aCons, aNil, e2, eC, List.set_cons_zero, List.set_cons_succ, List.getElem?_cons_zero, List.getElem?_cons_succ, bind_ok, hB, tl, fl, ix0, ix1, s1, ro_ok, rsat_nx, loopQ_nx]
      exact ⟨B2, hp2, K2, _, rfl⟩
  · rintro δ M2 ⟨B, hp, K, o, rfl⟩
    rw [List.length_map, List.take_length] at B
    exact fin o M2 B K
theorem nodup_rev {α : Type} {l : List α} (h : l.Nodup) : l.reverse.Nodup := by
  unfold List.Nodup at *
  rw [List.pairwise_reverse]
  exact h.imp fun h => Ne.symm h
theorem turned_ok {cs : List (Str × Int)} (hl : cs.length ≤ 2) (nd : (cs.map (·.1)).Nodup) (ho : ∀ x y, cs = [x, y] → ¬ y.1.cps.toList < x.1.cps.toList) : srt2 (cs.reverse.map (·.1)) = some (cs.map (·.1)) := by
  match cs, hl, nd, ho with
  | [], _, _, _ => rfl
  | [a], _, _, _ => rfl
  | [a, b], _, nd, ho =>
    have h1 := ho a b rfl
    have ne : a.1 ≠ b.1 := by
      intro e
      simp [e] at nd
    have lt : a.1.cps.toList < b.1.cps.toList := by
      by_cases h : a.1.cps.toList < b.1.cps.toList
      · exact h
      · exact absurd (str_ext (List.le_antisymm (List.not_lt.mp h1) (List.not_lt.mp h))) ne
    simp only [List.reverse_cons, List.reverse_nil, List.nil_append, List.cons_append, List.map_cons, List.map_nil, srt2, lt, if_true]
  | _ :: _ :: _ :: _, hl, _, _ => simp at hl
theorem sz_lookup {cs cs' : List (Str × Int)} (nd : (cs'.map (·.1)).Nodup) (hm : ∀ q ∈ cs, q ∈ cs') : ∀ q ∈ cs, (szD cs').lookup q.1 = some (.int q.2) := by
  intro q hq
  obtain ⟨i, hi⟩ := List.mem_iff_getElem?.mp (hm q hq)
  exact ind_lookup (i := i) (by rw [show (szD cs').map (·.1) = cs'.map (·.1) by simp [szD]]; exact nd) (by rw [List.getElem?_map, hi]; rfl)
theorem law_bookT_sat {M : DM} {l : Nat} {nk : List (Str × D)} {cs : List (Str × Int)} {n m : Nat} {t : Bool} {Q : D → DM → Prop} (L : LoreAt M l nk cs) (O : LoreOk nk cs n m) (hn : n ≤ 12) (hm : m ≤ 2)
    (q : ∀ b M', CellsB M' b nk cs → Kept M M' → Q (.obj b) M') : (g_law_bookT [.obj l, .bl t] M).sat Q := by
  obtain ⟨la, lb, lp, g0, g1, g2, g3, g4⟩ := L.ex
  have nlen := O.len
  have clen := O.clen
  unfold g_law_bookT f_law_bookT fnD
  have hb : (M ++ [MO.ins 0 []])[M.length]? = some (.ins 0 []) := get_new
  have i1 := book_init_eq hb
  have eL : (M ++ [MO.ins 0 []]).length = M.length + 1 := by rw [List.length_append]; rfl
  have eS : (M ++ [MO.ins 0 []]).set M.length (.ins 0 [("_kinds", .obj (M ++ [MO.ins 0 []]).length)]) = M ++ [.ins 0 [("_kinds", .obj (M.length + 1))]] := by
    rw [List.set_append_right _ _ (Nat.le_refl _), eL]
    simp
  rw [eS, eL] at i1
  have eT : ((M ++ [MO.ins 0 [("_kinds", .obj (M.length + 1))]] ++ [MO.dic []]) ++ [MO.dic []]).set M.length (.ins 0 [("_kinds", .obj (M.length + 1)), ("_sizes", .obj (M.length + 1 + 1))]) = M ++ [.ins 0 [("_kinds", .obj (M.length + 1)), ("_sizes", .obj (M.length + 2))], .dic [], .dic []] := by
    rw [List.append_assoc, List.append_assoc, List.set_append_right _ _ (Nat.le_refl _)]
    simp
  rw [eT] at i1
  have B0 : BookAt (M ++ [.ins 0 [("_kinds", .obj (M.length + 1)), ("_sizes", .obj (M.length + 2))], .dic [], .dic []]) M.length (M.length + 1) (M.length + 2) [] [] := by
    refine ⟨?_, ?_, ?_, by omega⟩
    · rw [List.getElem?_append_right (Nat.le_refl _), Nat.sub_self]; rfl
    · rw [List.getElem?_append_right (by omega), show M.length + 1 - M.length = 1 by omega]; rfl
    · rw [List.getElem?_append_right (by omega), show M.length + 2 - M.length = 2 by omega]; rfl
  have K0 : Kept M (M ++ [.ins 0 [("_kinds", .obj (M.length + 1)), ("_sizes", .obj (M.length + 2))], .dic [], .dic []]) := Kept.refl.app _
  walk_at "dx"
  clear i1 eT eS eL hb
  generalize (M ++ [.ins 0 [("_kinds", .obj (M.length + 1)), ("_sizes", .obj (M.length + 2))], .dic [], .dic []]) = M0 at *
  have r0 := K0.at_ g1
  have a0 : ixD (.obj l) (.int 0) M0 = .ok (.obj la) M0 := ixo (k := 0) r0 rfl
  refine sforO_sat (nk.map fun q => .str q.1) (M' := M0) (n := la) (by simp only [e2, eVar, eC, List.getElem?_cons_zero, bind_ok]; exact a0)
    (fun i δ M' => BookAt M' M.length (M.length + 1) (M.length + 2) (nk.take i) [] ∧ Kept M M' ∧ ∃ o, δ = [some (.obj l), some (.bl t), some (.obj M.length), o, none, none, none]) (fun i δ M' h => h.2.1.at_ g2) ⟨by rw [List.take_zero]; exact B0, K0, none, rfl⟩ ?_ ?_
  · rintro i d δ M1 hd ⟨B, K, o, rfl⟩
    rw [List.getElem?_map] at hd
    cases e : nk[i]? with
    | none => rw [e] at hd; cases hd
    | some p =>
      obtain ⟨s, d'⟩ := p
      rw [e] at hd
      cases hd
      refine ⟨_, _, rfl, ?_⟩
      have ok := O.ok (s, d') (List.mem_of_getElem? e)
      have a1 : ixD (.obj l) (.int 1) M1 = .ok (.obj lb) M1 := ixo (k := 1) (K.at_ g1) rfl
      have a2 := gix_dic (K.at_ g3) (ind_lookup O.nd e)
      have hi := (List.getElem?_eq_some_iff.mp e).1
      have s1 := setitem_eq B ok.1 ok.2 (lookup_none (not_in_take O.nd e)) (by rw [List.length_take]; omega)
      have hB := B.at_
      rw [take_snoc e] at s1
      have B2 : BookAt (M1.set (M.length + 1) (.dic (kvD (nk.take (i + 1))))) M.length (M.length + 1) (M.length + 2) (nk.take (i + 1)) [] := ⟨get_set B.at_ (by omega), get_self B.kn, get_set B.sz (by omega), by omega⟩
      have K2 := K.set (i := M.length + 1) (by omega) (.dic (kvD (nk.take (i + 1))))
      clear B ok
      walk_at "dx"
      first | exact ⟨B2, K2, _, rfl⟩ | exact ⟨_, rfl⟩
  · rintro δ M1 ⟨B, K, o, rfl⟩
    rw [List.length_map, List.take_length] at B
    walk_at "dx"
    have a0 : ixD (.obj l) (.int 2) M1 = .ok (.obj lp) M1 := ixo (k := 2) (K.at_ g1) rfl
    have g4' := K.at_ g4
    have lpl := lt_of_get g4
    have zl := lt_of_get B.sz
    walk_at "dx"
    cases t with
    | false =>
      walk_at "dx"
      refine pairs_sat (cs := cs) B g4' O.cok O.cnd (by omega) (by omega) (by omega) B.kz (by omega) K fun o' M2 B2 K2 => ?_
      have fin := q M.length M2 ⟨_, _, cs, B2, srt2_cells (by omega) O.ord, sz_lookup O.cnd fun q hq => hq⟩ K2
      walk_at "dx"
    | true =>
      have ll : lenD [.obj lp] M1 = .ok (.int cs.length) M1 := by rw [len_o g4', List.length_map]
      have rk : rngOk (cs.length : Int) = true := range_ok (by omega)
      have e1' : iR (eCall lenD (aCons (e2 ixD (eVar 0) (eC (D.int 2))) aNil)) [some (.obj l), some (.bl true), some (.obj M.length), o, some (.obj lp), none, none] M1 = .ok (itS ((List.range cs.length).map fun i => .int (Int.ofNat i))) M1 := by
        simp only [iR, eCall, aCons, aNil, e2, eVar, eC, List.getElem?_cons_zero, List.getElem?_cons_succ, bind_ok, a0, ll, iRng, rk, if_true, Int.toNat_natCast]
      have key := lcIt_pure (n := M1.length) (g := cNm 6) (ft := tYesD) (fe := e2 ixD (e2 ixD (eVar 0) (eC (D.int 2))) (e2 subD (e2 subD (eCall lenD (aCons (e2 ixD (eVar 0) (eC (D.int 2))) aNil)) (eC (D.int 1))) (eVar 6))) (it := itS ((List.range cs.length).map fun i => .int (Int.ofNat i)))
        (δ := [some (.obj l), some (.bl true), some (.obj M.length), o, some (.obj lp), none, none]) (M := M1) rfl ((List.range cs.length).map fun i => .int (Int.ofNat i)) (fun d => match d with | .int i => ((cs.map cellD)[cs.length - 1 - i.toNat]?).getD .non | _ => .non) (by simp; omega) (fun acc i => rfl) (fun acc i d hd => by
          rw [List.getElem?_map] at hd
          cases ei : (List.range cs.length)[i]? with
          | none => rw [ei] at hd; cases hd
          | some j =>
            rw [ei] at hd
            cases hd
            have hj : j < cs.length := List.mem_range.mp (List.mem_of_getElem? ei)
            have g5 : (M1 ++ [.lst acc])[lp]? = some (.lst (cs.map cellD)) := get_app g4'
            have a5 : ixD (.obj l) (.int 2) (M1 ++ [.lst acc]) = .ok (.obj lp) (M1 ++ [.lst acc]) := ixo (k := 2) (get_app (K.at_ g1)) rfl
            have l5 : lenD [.obj lp] (M1 ++ [.lst acc]) = .ok (.int cs.length) (M1 ++ [.lst acc]) := by rw [len_o g5, List.length_map]
            obtain ⟨c, hc⟩ : ∃ c, cs[cs.length - 1 - j]? = some c := ⟨_, List.getElem?_eq_getElem (by omega)⟩
            have hc' : (cs.map cellD)[cs.length - 1 - j]? = some (cellD c) := by rw [List.getElem?_map, hc]; rfl
            have x5 : ixD (.obj lp) (.int ((cs.length : Int) - 1 - (j : Int))) (M1 ++ [.lst acc]) = .ok (cellD c) (M1 ++ [.lst acc]) := by
              have : ((cs.length : Int) - 1 - (j : Int)) = ((cs.length - 1 - j : Nat) : Int) := by omega
              rw [this]
              exact ixo g5 hc'
            refine ⟨_, rfl, rfl, ?_⟩
            simp only [e2, eCall, aCons, aNil, eVar, eC, List.set_cons_zero, List.set_cons_succ, List.getElem?_cons_zero, List.getElem?_cons_succ, bind_ok, a5, l5, sub_ii, x5, Int.toNat_natCast, Int.ofNat_eq_natCast, hc', Option.getD_some]) (((List.range cs.length).map fun i => D.int (Int.ofNat i)).length + 1) 0 [] (Nat.zero_le _) (by omega) rfl
      have eF : (((List.range cs.length).map fun i => D.int (Int.ofNat i)).drop 0).map (fun d => match d with | .int i => ((cs.map cellD)[cs.length - 1 - i.toNat]?).getD .non | _ => .non) = cs.reverse.map cellD := by
        rw [List.drop_zero, List.map_map]
        apply List.ext_getElem
        · simp
        · intro i h1 h2
          simp only [List.length_map, List.length_range] at h1
          simp only [List.getElem_map, Function.comp, List.getElem_range, List.getElem_reverse, Int.toNat_natCast, Int.ofNat_eq_natCast]
          rw [List.getElem?_map, List.getElem?_eq_getElem (by omega)]
          rfl
      rw [eF, List.nil_append] at key
      have lc : eLc [6] (iR (eCall lenD (aCons (e2 ixD (eVar 0) (eC (D.int 2))) aNil))) (cNm 6) tYesD (e2 ixD (e2 ixD (eVar 0) (eC (D.int 2))) (e2 subD (e2 subD (eCall lenD (aCons (e2 ixD (eVar 0) (eC (D.int 2))) aNil)) (eC (D.int 1))) (eVar 6))) [some (.obj l), some (.bl true), some (.obj M.length), o, some (.obj lp), none, none] M1 = .ok (.obj M1.length) (M1 ++ [.lst (cs.reverse.map cellD)]) := by
        unfold eLc
        rw [e1']
        have fu : (itS ((List.range cs.length).map fun i => D.int (Int.ofNat i))).fu = ((List.range cs.length).map fun i => D.int (Int.ofNat i)).length + 1 := rfl
        have w : wipeD [some (.obj l), some (.bl true), some (.obj M.length), o, some (.obj lp), none, none] [6] = [some (.obj l), some (.bl true), some (.obj M.length), o, some (.obj lp), none, none] := rfl
        simp only [bind_ok]
        rw [fu, w, key]
      have B3 := B.kept (Kept.refl.app [.lst (cs.reverse.map cellD)])
      have K3 := K.app [.lst (cs.reverse.map cellD)]
      have g3 : (M1 ++ [.lst (cs.reverse.map cellD)])[M1.length]? = some (.lst (cs.reverse.map cellD)) := get_new
      walk_at "dx"
      generalize (M1 ++ [.lst (cs.reverse.map cellD)]) = M3 at *
      refine pairs_sat (cs := cs.reverse) B3 g3 (fun q hq => O.cok q (List.mem_reverse.mp hq)) (by rw [List.map_reverse]; exact nodup_rev O.cnd) (by rw [List.length_reverse]; omega) (by omega) (by omega) B.kz (by omega) K3 fun o' M2 B2 K2 => ?_
      have fin := q M.length M2 ⟨_, _, cs.reverse, B2, turned_ok (by omega) O.cnd O.ord, sz_lookup (by rw [List.map_reverse]; exact nodup_rev O.cnd) fun q hq => List.mem_reverse.mpr hq⟩ K2
      walk_at "dx"
end DL

set_option Elab.async false
set_option linter.all false
set_option maxRecDepth 100000
set_option maxHeartbeats 4000000
namespace DL
open PySem PySem.Spec L2
open PyProof.Rows hiding St
def topS (i : Nat) : Stmt := PySem.Challenge.pw_struckbodies_k33_whole_agendas_part.main.body.getD i (.Pass ⟨0, 0, 0, 0⟩)
def mthS (i j : Nat) : Stmt := (clsB (topS i)).getD j (.Pass ⟨0, 0, 0, 0⟩)
structure Txt (c : Ctx) : Prop where
  GC_Book : Glob c "Book" (.cl 0)
  cv_Book_CELLS : CVAt c 0 "CELLS" (D.int 2)
  cv_Book_STEPS : CVAt c 0 "STEPS" (D.int 12)
  fl__kinds : FldAt c "_kinds" [0]
  fl__sizes : FldAt c "_sizes" [0]
  G_BOTH : Glob c "BOTH" (D.tup [(D.str "done"), (D.str "error")])
  G_DIGITS : Glob c "DIGITS" (D.str "0123456789")
  G_DONE : Glob c "DONE" (D.str "done")
  G_ENDING : Glob c "ENDING" (D.tup [(D.str "heal"), (D.str "jump")])
  G_ERROR : Glob c "ERROR" (D.str "error")
  G_GREATEST : Glob c "GREATEST" (D.int 999)
  G_LETTERS : Glob c "LETTERS" (D.str "abcdefghijklmnopqrstuvwxyz")
  G_LONGEST : Glob c "LONGEST" (D.int 12)
  G_NAMED : Glob c "NAMED" (D.tup [(D.str "jump"), (D.str "swap")])
  G_NUMBERED : Glob c "NUMBERED" (D.tup [(D.str "answer"), (D.str "heal")])
  m_bool : c.mg "bool" = none
  m_dict : c.mg "dict" = none
  m_int : c.mg "int" = none
  m_isinstance : c.mg "isinstance" = none
  m_len : c.mg "len" = none
  m_list : c.mg "list" = none
  m_range : c.mg "range" = none
  m_reversed : c.mg "reversed" = none
  m_sorted : c.mg "sorted" = none
  m_str : c.mg "str" = none
  m_tuple : c.mg "tuple" = none
  noseq_Book : PySem.W.noSeq c.K (c.cl 0) = true
  F_law_pool : DefAt c "_law_pool" "_law_pool" (topS 42) ["script"]
  F_law_mixed : DefAt c "_law_mixed" "_law_mixed" (topS 43) ["cell", "turn", "limit"]
  F_law_draw : DefAt c "_law_draw" "_law_draw" (topS 44) ["pool", "limit"]
  F_law_letters : DefAt c "_law_letters" "_law_letters" (topS 45) []
  F_law_name : DefAt c "_law_name" "_law_name" (topS 46) ["pool"]
  F_law_fresh : DefAt c "_law_fresh" "_law_fresh" (topS 47) ["pool", "used"]
  F_law_number : DefAt c "_law_number" "_law_number" (topS 48) ["pool"]
  F_law_kind : DefAt c "_law_kind" "_law_kind" (topS 49) ["pool"]
  F_law_lore : DefAt c "_law_lore" "_law_lore" (topS 50) ["pool", "steps", "cells"]
  F_law_cut : DefAt c "_law_cut" "_law_cut" (topS 62) ["action", "room"]
  F_law_argument : DefAt c "_law_argument" "_law_argument" (topS 52) ["pool", "lore", "late"]
  F_law_actionB : DefAt c "_law_action" "_law_action" (topS 53) ["pool", "lore", "depth"]
  F_law_richB : DefAt c "_law_rich" "_law_rich" (topS 61) ["pool", "lore"]
  F_law_word : DefAt c "_law_word" "_law_word" (topS 66) ["pool", "lore"]
  F_law_exit : DefAt c "_law_exit" "_law_exit" (topS 64) ["pool"]
  F_law_store : DefAt c "_law_store" "_law_store" (topS 65) ["pool", "lore"]
  F_law_put_twin : DefAt c "_law_put_twin" "_law_put_twin" (topS 54) ["action", "unset"]
  F_law_state : DefAt c "_law_state" "_law_state" (topS 57) ["pending"]
  F_law_second : DefAt c "_law_second" "_law_second" (topS 67) ["pool", "lore", "word", "pending"]
  F_Book_init : MkAt c 0 "Book" "Book.__init__" (mthS 21 2) ["self", "kinds", "sizes"] [(D.cl 1000), (D.cl 1001)]
  F_is_name : DefAt c "is_name" "is_name" (topS 14) ["text"]
  F_check_name : DefAt c "check_name" "check_name" (topS 15) ["name"]
  F_check_number : DefAt c "check_number" "check_number" (topS 16) ["number"]
  F_check_kind : DefAt c "check_kind" "check_kind" (topS 20) ["kind"]
  F_Book_setitem : MethAt c 0 "__setitem__" "Book.__setitem__" (mthS 21 5) ["self", "name", "kind"]
  F_Book_add_cell : MethAt c 0 "add_cell" "Book.add_cell" (mthS 21 11) ["self", "name", "size"]
  F_law_bookT : DefAt c "_law_book" "_law_book" (topS 51) ["lore", "turned"]
  F_Book_getitem : MethAt c 0 "__getitem__" "Book.__getitem__" (mthS 21 4) ["self", "name"]
  F_below : DefAt c "below" "below" (topS 34) ["half", "states", "book"]
  F_keep_live : DefAt c "keep_live" "keep_live" (topS 36) ["word", "states", "book"]
  F_halves : DefAt c "halves" "halves" (topS 24) ["action"]
  F_split : DefAt c "split" "split" (topS 35) ["word"]
  F_normal_half : DefAt c "normal_half" "normal_half" (topS 37) ["half", "book"]
  F_normal : DefAt c "normal" "normal" (topS 38) ["word", "book"]
  F_live : DefAt c "live" "live" (topS 39) ["word", "states", "book"]
  F_Book_cells : PropAt c 0 "cells" "Book.cells" (mthS 21 12) ["self"]
  F_cell_names : DefAt c "cell_names" "cell_names" (topS 22) ["book"]
  F_value_of : DefAt c "value_of" "value_of" (topS 25) ["argument", "book", "store"]
  F_told : DefAt c "told" "told" (topS 26) ["action", "book", "store"]
  F_state : DefAt c "state" "state" (topS 30) ["pending"]
  F_agenda : DefAt c "agenda" "agenda" (topS 40) ["word", "leaving", "book"]
  F_law_halved : DefAt c "_law_halved" "_law_halved" (topS 63) ["names", "word"]
  F_law_same : DefAt c "_law_same" "_law_same" (topS 60) ["actual", "expected"]
  F_law_top : DefAt c "_law_top" "_law_top" (topS 68) ["pile", "one"]
  F_law_value : DefAt c "_law_value" "_law_value" (topS 55) ["argument", "cells", "store"]
  F_law_halves : DefAt c "_law_halves" "_law_halves" (topS 56) ["action"]
  F_law_split : DefAt c "_law_split" "_law_split" (topS 59) ["word"]
  F_law_after : DefAt c "_law_after" "_law_after" (topS 58) ["pending", "step", "kind", "guard", "answer"]
  F_law_apart : DefAt c "_law_apart" "_law_apart" (topS 69) ["lore", "store", "first", "second", "pending"]
  F_law : DefAt c "law" "law" (topS 70) ["script"]
  fnin_Book : ∀ f, Meth c.K (c.cl 0) "__getitem__" f → PySem.W.fnIn c.K f = true
  tup0 : Tup0 c
abbrev st_law_pool : Stmt := (topS 42)
theorem sc_law_pool : FnScope ["script"] ["script"] (defScope st_law_pool) := ⟨rfl, rfl, rfl, by decide +kernel, rfl, by decide +kernel, by decide +kernel⟩
theorem b_law_pool {c : Ctx} (T : Txt c) {X : Cx} {W : WX} (J : InS c X W 0 ["script"] (defScope st_law_pool)) (hC : Cold X) : VSs c X W (defBody st_law_pool) f_law_pool := by
  have I := J.toIn
  have n_script : Nm ["script"] (defScope st_law_pool) 0 "script" := ⟨rfl, by decide +kernel, by decide, by decide⟩
  have q_list : Gn (defScope st_law_pool) "list" := ⟨by decide +kernel, by decide⟩
  exact (vss_one (vs_ret (ve_lst (va_cons (ve_list I q_list T.m_list (va_cons (ve_var I n_script) va_nil)) (va_cons ve_int (va_cons ve_int (va_cons ve_int (va_cons ve_int va_nil))))))))
theorem c_law_pool {c : Ctx} (T : Txt c) : Callee c "_law_pool" 1 1 g_law_pool :=
  callee_def (N := ["script"]) T.F_law_pool sc_law_pool fun X W J hC => b_law_pool T  J hC
abbrev st_law_mixed : Stmt := (topS 43)
theorem sc_law_mixed : FnScope ["cell", "turn", "limit", "first", "second", "third"] ["cell", "turn", "limit"] (defScope st_law_mixed) := ⟨rfl, rfl, rfl, by decide +kernel, rfl, by decide +kernel, by decide +kernel⟩
theorem b_law_mixed {c : Ctx} (T : Txt c) {X : Cx} {W : WX} (J : InS c X W 0 ["cell", "turn", "limit", "first", "second", "third"] (defScope st_law_mixed)) (hC : Cold X) : VSs c X W (defBody st_law_mixed) f_law_mixed := by
  have I := J.toIn
  have n_cell : Nm ["cell", "turn", "limit", "first", "second", "third"] (defScope st_law_mixed) 0 "cell" := ⟨rfl, by decide +kernel, by decide, by decide⟩
  have n_turn : Nm ["cell", "turn", "limit", "first", "second", "third"] (defScope st_law_mixed) 1 "turn" := ⟨rfl, by decide +kernel, by decide, by decide⟩
  have n_limit : Nm ["cell", "turn", "limit", "first", "second", "third"] (defScope st_law_mixed) 2 "limit" := ⟨rfl, by decide +kernel, by decide, by decide⟩
  have n_first : Nm ["cell", "turn", "limit", "first", "second", "third"] (defScope st_law_mixed) 3 "first" := ⟨rfl, by decide +kernel, by decide, by decide⟩
  have n_second : Nm ["cell", "turn", "limit", "first", "second", "third"] (defScope st_law_mixed) 4 "second" := ⟨rfl, by decide +kernel, by decide, by decide⟩
  have n_third : Nm ["cell", "turn", "limit", "first", "second", "third"] (defScope st_law_mixed) 5 "third" := ⟨rfl, by decide +kernel, by decide, by decide⟩
  have q_int : Gn (defScope st_law_mixed) "int" := ⟨by decide +kernel, by decide⟩
  exact (vss_cons (vs_set J n_first (ve_mod (ve_int_ I q_int T.m_int (va_cons (ve_add I (ve_add I (ve_mul (ve_var I n_cell) ve_int) (ve_mul (ve_var I n_turn) ve_int)) ve_int) va_nil)) ve_int))
 (vss_cons (vs_set J n_second (ve_mod (ve_int_ I q_int T.m_int (va_cons (ve_add I (ve_add I (ve_mul (ve_var I n_first) ve_int) (ve_mul (ve_var I n_cell) ve_int)) (ve_mul (ve_var I n_turn) ve_int)) va_nil)) ve_int))
 (vss_cons (vs_set J n_third (ve_mod (ve_int_ I q_int T.m_int (va_cons (ve_add I (ve_mul (ve_var I n_second) ve_int) (ve_fdiv (ve_var I n_first) ve_int)) va_nil)) ve_int))
 (vss_one (vs_ret (ve_mod (ve_int_ I q_int T.m_int (va_cons (ve_var I n_third) va_nil)) (ve_var I n_limit)))))))
theorem c_law_mixed {c : Ctx} (T : Txt c) : Callee c "_law_mixed" 1 3 g_law_mixed :=
  callee_def (N := ["cell", "turn", "limit", "first", "second", "third"]) T.F_law_mixed sc_law_mixed fun X W J hC => b_law_mixed T  J hC
abbrev st_law_draw : Stmt := (topS 44)
theorem sc_law_draw : FnScope ["pool", "limit", "digit", "cell"] ["pool", "limit"] (defScope st_law_draw) := ⟨rfl, rfl, rfl, by decide +kernel, rfl, by decide +kernel, by decide +kernel⟩
theorem b_law_draw {c : Ctx} (T : Txt c) (C_law_mixed : Callee c "_law_mixed" 1 3 g_law_mixed) {X : Cx} {W : WX} (J : InS c X W 1 ["pool", "limit", "digit", "cell"] (defScope st_law_draw)) (hC : Cold X) : VSs c X W (defBody st_law_draw) f_law_draw := by
  have I := J.toIn
  have n_pool : Nm ["pool", "limit", "digit", "cell"] (defScope st_law_draw) 0 "pool" := ⟨rfl, by decide +kernel, by decide, by decide⟩
  have n_limit : Nm ["pool", "limit", "digit", "cell"] (defScope st_law_draw) 1 "limit" := ⟨rfl, by decide +kernel, by decide, by decide⟩
  have n_digit : Nm ["pool", "limit", "digit", "cell"] (defScope st_law_draw) 2 "digit" := ⟨rfl, by decide +kernel, by decide, by decide⟩
  have n_cell : Nm ["pool", "limit", "digit", "cell"] (defScope st_law_draw) 3 "cell" := ⟨rfl, by decide +kernel, by decide, by decide⟩
  have q__law_mixed : Gn (defScope st_law_draw) "_law_mixed" := ⟨by decide +kernel, by decide⟩
  have q_int : Gn (defScope st_law_draw) "int" := ⟨by decide +kernel, by decide⟩
  have q_len : Gn (defScope st_law_draw) "len" := ⟨by decide +kernel, by decide⟩
  have K_law_mixed : Callee c "_law_mixed" 1 3 g_law_mixed := C_law_mixed.mono (by decide)
  exact (vss_cons (vs_if (vt_gt (ve_ix I (ve_var I n_pool) ve_int) ve_int) (vss_cons (vs_set J n_digit (ve_mod (ve_int_ I q_int T.m_int (va_cons (ve_ix I (ve_var I n_pool) ve_int) va_nil)) (ve_var I n_limit)))
 (vss_cons (vs_sub I (ve_fdiv (ve_ix I (ve_var I n_pool) ve_int) (ve_var I n_limit)) (ve_var I n_pool) ve_int)
 (vss_one (vs_ret (ve_var I n_digit))))) vss_nil)
 (vss_cons (vs_if (vt_gt (ve_ix I (ve_var I n_pool) ve_int) ve_int) (vss_cons (vs_sub I (ve_sub (ve_ix I (ve_var I n_pool) ve_int) ve_int) (ve_var I n_pool) ve_int)
 (vss_one (vs_ret (ve_call I hC q__law_mixed K_law_mixed (va_cons (ve_ix I (ve_var I n_pool) ve_int) (va_cons (ve_ix I (ve_var I n_pool) ve_int) (va_cons (ve_var I n_limit) va_nil))))))) vss_nil)
 (vss_cons (vs_if (vt_ge (ve_ix I (ve_var I n_pool) ve_int) (ve_len I q_len T.m_len (va_cons (ve_ix I (ve_var I n_pool) ve_int) va_nil))) (vss_one (vs_ret ve_int)) vss_nil)
 (vss_cons (vs_set J n_cell (ve_ix I (ve_ix I (ve_var I n_pool) ve_int) (ve_ix I (ve_var I n_pool) ve_int)))
 (vss_cons (vs_sub I (ve_add I (ve_ix I (ve_var I n_pool) ve_int) ve_int) (ve_var I n_pool) ve_int)
 (vss_cons (vs_if (vt_lt (ve_var I n_cell) ve_int) (vss_one (vs_set J n_cell (ve_sub (ve_neg ve_int) (ve_var I n_cell)))) vss_nil)
 (vss_cons (vs_if (vt_ge (ve_var I n_cell) (ve_pow ve_int ve_int)) (vss_cons (vs_sub I (ve_fdiv (ve_var I n_cell) (ve_var I n_limit)) (ve_var I n_pool) ve_int)
 (vss_one (vs_ret (ve_mod (ve_int_ I q_int T.m_int (va_cons (ve_var I n_cell) va_nil)) (ve_var I n_limit))))) vss_nil)
 (vss_cons (vs_sub I (ve_var I n_cell) (ve_var I n_pool) ve_int)
 (vss_cons (vs_sub I ve_int (ve_var I n_pool) ve_int)
 (vss_one (vs_ret (ve_call I hC q__law_mixed K_law_mixed (va_cons (ve_var I n_cell) (va_cons ve_int (va_cons (ve_var I n_limit) va_nil)))))))))))))))
theorem c_law_draw {c : Ctx} (T : Txt c) (C_law_mixed : Callee c "_law_mixed" 1 3 g_law_mixed) : Callee c "_law_draw" 2 2 g_law_draw :=
  callee_def (N := ["pool", "limit", "digit", "cell"]) T.F_law_draw sc_law_draw fun X W J hC => b_law_draw T C_law_mixed J hC
abbrev st_law_letters : Stmt := (topS 45)
theorem sc_law_letters : FnScope [] [] (defScope st_law_letters) := ⟨rfl, rfl, rfl, by decide +kernel, rfl, by decide +kernel, by decide +kernel⟩
theorem b_law_letters {c : Ctx} (T : Txt c) {X : Cx} {W : WX} (J : InS c X W 0 [] (defScope st_law_letters)) (hC : Cold X) : VSs c X W (defBody st_law_letters) f_law_letters := by
  have I := J.toIn
  exact (vss_one (vs_ret ve_str))
theorem c_law_letters {c : Ctx} (T : Txt c) : Callee c "_law_letters" 1 0 g_law_letters :=
  callee_def (N := []) T.F_law_letters sc_law_letters fun X W J hC => b_law_letters T  J hC
abbrev st_law_name : Stmt := (topS 46)
theorem sc_law_name : FnScope ["pool", "signs", "name", "more", "k"] ["pool"] (defScope st_law_name) := ⟨rfl, rfl, rfl, by decide +kernel, rfl, by decide +kernel, by decide +kernel⟩
theorem b_law_name {c : Ctx} (T : Txt c) (C_law_letters : Callee c "_law_letters" 1 0 g_law_letters) (C_law_draw : Callee c "_law_draw" 2 2 g_law_draw) {X : Cx} {W : WX} (J : InS c X W 2 ["pool", "signs", "name", "more", "k"] (defScope st_law_name)) (hC : Cold X) : VSs c X W (defBody st_law_name) f_law_name := by
  have I := J.toIn
  have n_pool : Nm ["pool", "signs", "name", "more", "k"] (defScope st_law_name) 0 "pool" := ⟨rfl, by decide +kernel, by decide, by decide⟩
  have n_signs : Nm ["pool", "signs", "name", "more", "k"] (defScope st_law_name) 1 "signs" := ⟨rfl, by decide +kernel, by decide, by decide⟩
  have n_name : Nm ["pool", "signs", "name", "more", "k"] (defScope st_law_name) 2 "name" := ⟨rfl, by decide +kernel, by decide, by decide⟩
  have n_more : Nm ["pool", "signs", "name", "more", "k"] (defScope st_law_name) 3 "more" := ⟨rfl, by decide +kernel, by decide, by decide⟩
  have n_k : Nm ["pool", "signs", "name", "more", "k"] (defScope st_law_name) 4 "k" := ⟨rfl, by decide +kernel, by decide, by decide⟩
  have q__law_draw : Gn (defScope st_law_name) "_law_draw" := ⟨by decide +kernel, by decide⟩
  have q__law_letters : Gn (defScope st_law_name) "_law_letters" := ⟨by decide +kernel, by decide⟩
  have q_range : Gn (defScope st_law_name) "range" := ⟨by decide +kernel, by decide⟩
  have K_law_letters : Callee c "_law_letters" 2 0 g_law_letters := C_law_letters.mono (by decide)
  have K_law_draw : Callee c "_law_draw" 2 2 g_law_draw := C_law_draw.mono (by decide)
  exact (vss_cons (vs_set J n_signs (ve_add I (ve_call0 I hC q__law_letters K_law_letters) ve_str))
 (vss_cons (vs_set J n_name (ve_ix I (ve_var I n_signs) (ve_call I hC q__law_draw K_law_draw (va_cons (ve_var I n_pool) (va_cons ve_int va_nil)))))
 (vss_cons (vs_set J n_more (ve_call I hC q__law_draw K_law_draw (va_cons (ve_var I n_pool) (va_cons ve_int va_nil))))
 (vss_cons (vs_if (vt_eq I (ve_call I hC q__law_draw K_law_draw (va_cons (ve_var I n_pool) (va_cons ve_int va_nil))) ve_int) (vss_one (vs_set J n_more (ve_call I hC q__law_draw K_law_draw (va_cons (ve_var I n_pool) (va_cons ve_int va_nil))))) vss_nil)
 (vss_cons (vs_forR J hC q_range T.m_range (ve_var I n_more) (vg_name J n_k) (vss_one (vs_set J n_name (ve_add I (ve_var I n_name) (ve_ix I (ve_var I n_signs) (ve_call I hC q__law_draw K_law_draw (va_cons (ve_var I n_pool) (va_cons ve_int va_nil))))))))
 (vss_one (vs_ret (ve_var I n_name))))))))
theorem c_law_name {c : Ctx} (T : Txt c) (C_law_letters : Callee c "_law_letters" 1 0 g_law_letters) (C_law_draw : Callee c "_law_draw" 2 2 g_law_draw) : Callee c "_law_name" 3 1 g_law_name :=
  callee_def (N := ["pool", "signs", "name", "more", "k"]) T.F_law_name sc_law_name fun X W J hC => b_law_name T C_law_letters C_law_draw J hC
abbrev st_law_fresh : Stmt := (topS 47)
theorem sc_law_fresh : FnScope ["pool", "used", "name", "sign"] ["pool", "used"] (defScope st_law_fresh) := ⟨rfl, rfl, rfl, by decide +kernel, rfl, by decide +kernel, by decide +kernel⟩
theorem b_law_fresh {c : Ctx} (T : Txt c) (C_law_name : Callee c "_law_name" 3 1 g_law_name) (C_law_letters : Callee c "_law_letters" 1 0 g_law_letters) {X : Cx} {W : WX} (J : InS c X W 3 ["pool", "used", "name", "sign"] (defScope st_law_fresh)) (hC : Cold X) : VSs c X W (defBody st_law_fresh) f_law_fresh := by
  have I := J.toIn
  have n_pool : Nm ["pool", "used", "name", "sign"] (defScope st_law_fresh) 0 "pool" := ⟨rfl, by decide +kernel, by decide, by decide⟩
  have n_used : Nm ["pool", "used", "name", "sign"] (defScope st_law_fresh) 1 "used" := ⟨rfl, by decide +kernel, by decide, by decide⟩
  have n_name : Nm ["pool", "used", "name", "sign"] (defScope st_law_fresh) 2 "name" := ⟨rfl, by decide +kernel, by decide, by decide⟩
  have n_sign : Nm ["pool", "used", "name", "sign"] (defScope st_law_fresh) 3 "sign" := ⟨rfl, by decide +kernel, by decide, by decide⟩
  have q__law_letters : Gn (defScope st_law_fresh) "_law_letters" := ⟨by decide +kernel, by decide⟩
  have q__law_name : Gn (defScope st_law_fresh) "_law_name" := ⟨by decide +kernel, by decide⟩
  have K_law_name : Callee c "_law_name" 3 1 g_law_name := C_law_name.mono (by decide)
  have K_law_letters : Callee c "_law_letters" 3 0 g_law_letters := C_law_letters.mono (by decide)
  exact (vss_cons (vs_set J n_name (ve_call I hC q__law_name K_law_name (va_cons (ve_var I n_pool) va_nil)))
 (vss_cons (vs_if (vt_nin I (ve_var I n_name) (ve_var I n_used)) (vss_one (vs_ret (ve_var I n_name))) vss_nil)
 (vss_cons (vs_forI J hC (vi_val I (ve_add I (ve_call0 I hC q__law_letters K_law_letters) ve_str)) (vg_name J n_sign) (vss_one (vs_if (vt_nin I (ve_add I (ve_slice I (ve_var I n_name) vo_none (vo_some ve_int)) (ve_var I n_sign)) (ve_var I n_used)) (vss_one (vs_ret (ve_add I (ve_slice I (ve_var I n_name) vo_none (vo_some ve_int)) (ve_var I n_sign)))) vss_nil)))
 (vss_one (vs_ret (ve_var I n_name))))))
theorem c_law_fresh {c : Ctx} (T : Txt c) (C_law_name : Callee c "_law_name" 3 1 g_law_name) (C_law_letters : Callee c "_law_letters" 1 0 g_law_letters) : Callee c "_law_fresh" 4 2 g_law_fresh :=
  callee_def (N := ["pool", "used", "name", "sign"]) T.F_law_fresh sc_law_fresh fun X W J hC => b_law_fresh T C_law_name C_law_letters J hC
abbrev st_law_number : Stmt := (topS 48)
theorem sc_law_number : FnScope ["pool"] ["pool"] (defScope st_law_number) := ⟨rfl, rfl, rfl, by decide +kernel, rfl, by decide +kernel, by decide +kernel⟩
theorem b_law_number {c : Ctx} (T : Txt c) (C_law_draw : Callee c "_law_draw" 2 2 g_law_draw) {X : Cx} {W : WX} (J : InS c X W 2 ["pool"] (defScope st_law_number)) (hC : Cold X) : VSs c X W (defBody st_law_number) f_law_number := by
  have I := J.toIn
  have n_pool : Nm ["pool"] (defScope st_law_number) 0 "pool" := ⟨rfl, by decide +kernel, by decide, by decide⟩
  have q__law_draw : Gn (defScope st_law_number) "_law_draw" := ⟨by decide +kernel, by decide⟩
  have K_law_draw : Callee c "_law_draw" 2 2 g_law_draw := C_law_draw.mono (by decide)
  exact (vss_cons (vs_if (vt_eq I (ve_call I hC q__law_draw K_law_draw (va_cons (ve_var I n_pool) (va_cons ve_int va_nil))) ve_int) (vss_one (vs_ret (ve_call I hC q__law_draw K_law_draw (va_cons (ve_var I n_pool) (va_cons ve_int va_nil))))) vss_nil)
 (vss_one (vs_ret (ve_call I hC q__law_draw K_law_draw (va_cons (ve_var I n_pool) (va_cons ve_int va_nil))))))
theorem c_law_number {c : Ctx} (T : Txt c) (C_law_draw : Callee c "_law_draw" 2 2 g_law_draw) : Callee c "_law_number" 3 1 g_law_number :=
  callee_def (N := ["pool"]) T.F_law_number sc_law_number fun X W J hC => b_law_number T C_law_draw J hC
abbrev st_law_kind : Stmt := (topS 49)
theorem sc_law_kind : FnScope ["pool", "choice"] ["pool"] (defScope st_law_kind) := ⟨rfl, rfl, rfl, by decide +kernel, rfl, by decide +kernel, by decide +kernel⟩
theorem b_law_kind {c : Ctx} (T : Txt c) (C_law_draw : Callee c "_law_draw" 2 2 g_law_draw) (C_law_number : Callee c "_law_number" 3 1 g_law_number) (C_law_name : Callee c "_law_name" 3 1 g_law_name) {X : Cx} {W : WX} (J : InS c X W 3 ["pool", "choice"] (defScope st_law_kind)) (hC : Cold X) : VSs c X W (defBody st_law_kind) f_law_kind := by
  have I := J.toIn
  have n_pool : Nm ["pool", "choice"] (defScope st_law_kind) 0 "pool" := ⟨rfl, by decide +kernel, by decide, by decide⟩
  have n_choice : Nm ["pool", "choice"] (defScope st_law_kind) 1 "choice" := ⟨rfl, by decide +kernel, by decide, by decide⟩
  have q__law_draw : Gn (defScope st_law_kind) "_law_draw" := ⟨by decide +kernel, by decide⟩
  have q__law_name : Gn (defScope st_law_kind) "_law_name" := ⟨by decide +kernel, by decide⟩
  have q__law_number : Gn (defScope st_law_kind) "_law_number" := ⟨by decide +kernel, by decide⟩
  have K_law_draw : Callee c "_law_draw" 3 2 g_law_draw := C_law_draw.mono (by decide)
  have K_law_number : Callee c "_law_number" 3 1 g_law_number := C_law_number.mono (by decide)
  have K_law_name : Callee c "_law_name" 3 1 g_law_name := C_law_name.mono (by decide)
  exact (vss_cons (vs_set J n_choice (ve_call I hC q__law_draw K_law_draw (va_cons (ve_var I n_pool) (va_cons ve_int va_nil))))
 (vss_cons (vs_if (vt_eq I (ve_var I n_choice) ve_int) (vss_one (vs_ret (ve_tup (va_cons ve_str (va_cons (ve_call I hC q__law_number K_law_number (va_cons (ve_var I n_pool) va_nil)) va_nil))))) vss_nil)
 (vss_cons (vs_if (vt_eq I (ve_var I n_choice) ve_int) (vss_one (vs_ret (ve_tup (va_cons ve_str (va_cons (ve_call I hC q__law_name K_law_name (va_cons (ve_var I n_pool) va_nil)) va_nil))))) vss_nil)
 (vss_cons (vs_if (VW.vt (vw_or (vt_eq I (ve_var I n_choice) ve_int) (vw_or1 (vt_eq I (ve_var I n_choice) ve_int)))) (vss_one (vs_ret (ve_tup (va_cons ve_str (va_cons (ve_call I hC q__law_number K_law_number (va_cons (ve_var I n_pool) va_nil)) va_nil))))) vss_nil)
 (vss_cons (vs_if (vt_eq I (ve_var I n_choice) ve_int) (vss_one (vs_ret (ve_tup (va_cons ve_str (va_cons (ve_call I hC q__law_name K_law_name (va_cons (ve_var I n_pool) va_nil)) va_nil))))) vss_nil)
 (vss_one (vs_ret (ve_tup (va_cons ve_str va_nil)))))))))
theorem c_law_kind {c : Ctx} (T : Txt c) (C_law_draw : Callee c "_law_draw" 2 2 g_law_draw) (C_law_number : Callee c "_law_number" 3 1 g_law_number) (C_law_name : Callee c "_law_name" 3 1 g_law_name) : Callee c "_law_kind" 4 1 g_law_kind :=
  callee_def (N := ["pool", "choice"]) T.F_law_kind sc_law_kind fun X W J hC => b_law_kind T C_law_draw C_law_number C_law_name J hC
abbrev st_law_lore : Stmt := (topS 50)
theorem sc_law_lore : FnScope ["pool", "steps", "cells", "names", "kinds", "k", "name", "pairs", "pair"] ["pool", "steps", "cells"] (defScope st_law_lore) := ⟨rfl, rfl, rfl, by decide +kernel, rfl, by decide +kernel, by decide +kernel⟩
theorem b_law_lore {c : Ctx} (T : Txt c) (C_law_draw : Callee c "_law_draw" 2 2 g_law_draw) (C_law_fresh : Callee c "_law_fresh" 4 2 g_law_fresh) (C_law_kind : Callee c "_law_kind" 4 1 g_law_kind) {X : Cx} {W : WX} (J : InS c X W 4 ["pool", "steps", "cells", "names", "kinds", "k", "name", "pairs", "pair"] (defScope st_law_lore)) (hC : Cold X) : VSs c X W (defBody st_law_lore) f_law_lore := by
  have I := J.toIn
  have n_pool : Nm ["pool", "steps", "cells", "names", "kinds", "k", "name", "pairs", "pair"] (defScope st_law_lore) 0 "pool" := ⟨rfl, by decide +kernel, by decide, by decide⟩
  have n_steps : Nm ["pool", "steps", "cells", "names", "kinds", "k", "name", "pairs", "pair"] (defScope st_law_lore) 1 "steps" := ⟨rfl, by decide +kernel, by decide, by decide⟩
  have n_cells : Nm ["pool", "steps", "cells", "names", "kinds", "k", "name", "pairs", "pair"] (defScope st_law_lore) 2 "cells" := ⟨rfl, by decide +kernel, by decide, by decide⟩
  have n_names : Nm ["pool", "steps", "cells", "names", "kinds", "k", "name", "pairs", "pair"] (defScope st_law_lore) 3 "names" := ⟨rfl, by decide +kernel, by decide, by decide⟩
  have n_kinds : Nm ["pool", "steps", "cells", "names", "kinds", "k", "name", "pairs", "pair"] (defScope st_law_lore) 4 "kinds" := ⟨rfl, by decide +kernel, by decide, by decide⟩
  have n_k : Nm ["pool", "steps", "cells", "names", "kinds", "k", "name", "pairs", "pair"] (defScope st_law_lore) 5 "k" := ⟨rfl, by decide +kernel, by decide, by decide⟩
  have n_name : Nm ["pool", "steps", "cells", "names", "kinds", "k", "name", "pairs", "pair"] (defScope st_law_lore) 6 "name" := ⟨rfl, by decide +kernel, by decide, by decide⟩
  have n_pairs : Nm ["pool", "steps", "cells", "names", "kinds", "k", "name", "pairs", "pair"] (defScope st_law_lore) 7 "pairs" := ⟨rfl, by decide +kernel, by decide, by decide⟩
  have q__law_draw : Gn (defScope st_law_lore) "_law_draw" := ⟨by decide +kernel, by decide⟩
  have q__law_fresh : Gn (defScope st_law_lore) "_law_fresh" := ⟨by decide +kernel, by decide⟩
  have q__law_kind : Gn (defScope st_law_lore) "_law_kind" := ⟨by decide +kernel, by decide⟩
  have q_len : Gn (defScope st_law_lore) "len" := ⟨by decide +kernel, by decide⟩
  have q_range : Gn (defScope st_law_lore) "range" := ⟨by decide +kernel, by decide⟩
  have K_law_draw : Callee c "_law_draw" 4 2 g_law_draw := C_law_draw.mono (by decide)
  have K_law_fresh : Callee c "_law_fresh" 4 2 g_law_fresh := C_law_fresh.mono (by decide)
  have K_law_kind : Callee c "_law_kind" 4 1 g_law_kind := C_law_kind.mono (by decide)
  exact (vss_cons (vs_set J n_names (ve_lst va_nil))
 (vss_cons (vs_set J n_kinds ve_dic0)
 (vss_cons (vs_forR J hC q_range T.m_range (ve_add I ve_int (ve_call I hC q__law_draw K_law_draw (va_cons (ve_var I n_pool) (va_cons (ve_var I n_steps) va_nil)))) (vg_name J n_k) (vss_cons (vs_set J n_name (ve_call I hC q__law_fresh K_law_fresh (va_cons (ve_var I n_pool) (va_cons (ve_var I n_names) va_nil))))
 (vss_cons (vs_expr (ve_append I (ve_var I n_names) (va_cons (ve_var I n_name) va_nil)))
 (vss_one (vs_put I (ve_call I hC q__law_kind K_law_kind (va_cons (ve_var I n_pool) va_nil)) (ve_var I n_kinds) (ve_var I n_name))))))
 (vss_cons (vs_set J n_pairs (ve_lst va_nil))
 (vss_cons (vs_forR J hC q_range T.m_range (ve_call I hC q__law_draw K_law_draw (va_cons (ve_var I n_pool) (va_cons (ve_add I (ve_var I n_cells) ve_int) va_nil))) (vg_name J n_k) (vss_cons (vs_set J n_name (ve_call I hC q__law_fresh K_law_fresh (va_cons (ve_var I n_pool) (va_cons (ve_lc I hC [("pair", 8)] (vi_val I (ve_var I n_pairs)) (fun _ I hC => (vc_name I (by exact ⟨rfl, by decide +kernel, by decide, by decide, by decide⟩))) (fun _ I hC => vts_nil) (fun _ I hC => (ve_ix I (ve_varV I (by exact ⟨rfl, by decide +kernel, by decide, by decide⟩)) ve_int)) (by decide +kernel)) va_nil))))
 (vss_one (vs_expr (ve_append I (ve_var I n_pairs) (va_cons (ve_tup (va_cons (ve_var I n_name) (va_cons (ve_add I ve_int (ve_call I hC q__law_draw K_law_draw (va_cons (ve_var I n_pool) (va_cons ve_int va_nil)))) va_nil))) va_nil))))))
 (vss_cons (vs_if (VW.vt (vw_and (vt_eq I (ve_len I q_len T.m_len (va_cons (ve_var I n_pairs) va_nil)) ve_int) (vw_and1 (vt_ltS (ve_ix I (ve_ix I (ve_var I n_pairs) ve_int) ve_int) (ve_ix I (ve_ix I (ve_var I n_pairs) ve_int) ve_int))))) (vss_one (vs_set J n_pairs (ve_lst (va_cons (ve_ix I (ve_var I n_pairs) ve_int) (va_cons (ve_ix I (ve_var I n_pairs) ve_int) va_nil))))) vss_nil)
 (vss_one (vs_ret (ve_lst (va_cons (ve_var I n_names) (va_cons (ve_var I n_kinds) (va_cons (ve_var I n_pairs) va_nil))))))))))))
theorem c_law_lore {c : Ctx} (T : Txt c) (C_law_draw : Callee c "_law_draw" 2 2 g_law_draw) (C_law_fresh : Callee c "_law_fresh" 4 2 g_law_fresh) (C_law_kind : Callee c "_law_kind" 4 1 g_law_kind) : Callee c "_law_lore" 5 3 g_law_lore :=
  callee_def (N := ["pool", "steps", "cells", "names", "kinds", "k", "name", "pairs", "pair"]) T.F_law_lore sc_law_lore fun X W J hC => b_law_lore T C_law_draw C_law_fresh C_law_kind J hC
abbrev st_law_cut : Stmt := (topS 62)
def f_law_cut (G : List D → DM → Rs D) : FS :=
 (sSeq (sSet 2 (eTup aNil))
 (sSeq (sFor (fun _ _ => 0) (e2 ixD (eVar 0) (eC (D.int 3))) (gNm 3)
  (sIf (tb (e2 gtD (e2 ixD (eVar 1) (eC (D.int 0))) (eC (D.int 0))))
  (sSeq (sSub (e2 subD (e2 ixD (eVar 1) (eC (D.int 0))) (eC (D.int 1))) (eVar 1) (eC (D.int 0)))
 (sSet 2 (e2 addD (eVar 2) (eTup (aCons (eCall G (aCons (eVar 3) (aCons (eVar 1) aNil))) aNil)))))
  sNil))
 (sRet (eTup (aCons (e2 ixD (eVar 0) (eC (D.int 0))) (aCons (e2 ixD (eVar 0) (eC (D.int 1))) (aCons (e2 ixD (eVar 0) (eC (D.int 2))) (aCons (eVar 2) aNil))))))))
def g_law_cut : Nat → List D → DM → Rs D
  | 0 => fun _ _ => .bad
  | n + 1 => fnD 4 (f_law_cut (g_law_cut n))
theorem sc_law_cut : FnScope ["action", "room", "further", "inner"] ["action", "room"] (defScope st_law_cut) := ⟨rfl, rfl, rfl, by decide +kernel, rfl, by decide +kernel, by decide +kernel⟩
theorem b_law_cut {c : Ctx} (T : Txt c) {n : Nat} {G : List D → DM → Rs D} (R_law_cut : Callee c "_law_cut" (n + 0) 2 G) {X : Cx} {W : WX} (J : InS c X W (n + 0) ["action", "room", "further", "inner"] (defScope st_law_cut)) (hC : Cold X) : VSs c X W (defBody st_law_cut) (f_law_cut G) := by
  have I := J.toIn
  have n_action : Nm ["action", "room", "further", "inner"] (defScope st_law_cut) 0 "action" := ⟨rfl, by decide +kernel, by decide, by decide⟩
  have n_room : Nm ["action", "room", "further", "inner"] (defScope st_law_cut) 1 "room" := ⟨rfl, by decide +kernel, by decide, by decide⟩
  have n_further : Nm ["action", "room", "further", "inner"] (defScope st_law_cut) 2 "further" := ⟨rfl, by decide +kernel, by decide, by decide⟩
  have n_inner : Nm ["action", "room", "further", "inner"] (defScope st_law_cut) 3 "inner" := ⟨rfl, by decide +kernel, by decide, by decide⟩
  have q__law_cut : Gn (defScope st_law_cut) "_law_cut" := ⟨by decide +kernel, by decide⟩
  have K_law_cut : Callee c "_law_cut" (n + 0) 2 G := R_law_cut.mono (by omega)
  exact (vss_cons (vs_set J n_further (ve_tup va_nil))
 (vss_cons (vs_for J hC (fun _ _ => 0) (ve_ix I (ve_var I n_action) ve_int) (vg_name J n_inner) (vss_one (vs_if (vt_gt (ve_ix I (ve_var I n_room) ve_int) ve_int) (vss_cons (vs_sub I (ve_sub (ve_ix I (ve_var I n_room) ve_int) ve_int) (ve_var I n_room) ve_int)
 (vss_one (vs_set J n_further (ve_add I (ve_var I n_further) (ve_tup (va_cons (ve_call I hC q__law_cut K_law_cut (va_cons (ve_var I n_inner) (va_cons (ve_var I n_room) va_nil))) va_nil)))))) vss_nil)))
 (vss_one (vs_ret (ve_tup (va_cons (ve_ix I (ve_var I n_action) ve_int) (va_cons (ve_ix I (ve_var I n_action) ve_int) (va_cons (ve_ix I (ve_var I n_action) ve_int) (va_cons (ve_var I n_further) va_nil)))))))))
theorem c_law_cut {c : Ctx} (T : Txt c) : ∀ n : Nat, Callee c "_law_cut" (n + 0) 2 (g_law_cut n)
  | 0 => callee_zero T.F_law_cut _ _
  | n + 1 => (callee_def (k := (n + 0)) (N := ["action", "room", "further", "inner"]) T.F_law_cut sc_law_cut fun X W J hC => b_law_cut T  (c_law_cut T  n) J hC).mono (by omega)
abbrev st_law_argument : Stmt := (topS 52)
theorem sc_law_argument : FnScope ["pool", "lore", "late", "choice", "cell"] ["pool", "lore", "late"] (defScope st_law_argument) := ⟨rfl, rfl, rfl, by decide +kernel, rfl, by decide +kernel, by decide +kernel⟩
theorem b_law_argument {c : Ctx} (T : Txt c) (C_law_draw : Callee c "_law_draw" 2 2 g_law_draw) (C_law_number : Callee c "_law_number" 3 1 g_law_number) {X : Cx} {W : WX} (J : InS c X W 3 ["pool", "lore", "late", "choice", "cell"] (defScope st_law_argument)) (hC : Cold X) : VSs c X W (defBody st_law_argument) f_law_argument := by
  have I := J.toIn
  have n_pool : Nm ["pool", "lore", "late", "choice", "cell"] (defScope st_law_argument) 0 "pool" := ⟨rfl, by decide +kernel, by decide, by decide⟩
  have n_lore : Nm ["pool", "lore", "late", "choice", "cell"] (defScope st_law_argument) 1 "lore" := ⟨rfl, by decide +kernel, by decide, by decide⟩
  have n_late : Nm ["pool", "lore", "late", "choice", "cell"] (defScope st_law_argument) 2 "late" := ⟨rfl, by decide +kernel, by decide, by decide⟩
  have n_choice : Nm ["pool", "lore", "late", "choice", "cell"] (defScope st_law_argument) 3 "choice" := ⟨rfl, by decide +kernel, by decide, by decide⟩
  have n_cell : Nm ["pool", "lore", "late", "choice", "cell"] (defScope st_law_argument) 4 "cell" := ⟨rfl, by decide +kernel, by decide, by decide⟩
  have q__law_draw : Gn (defScope st_law_argument) "_law_draw" := ⟨by decide +kernel, by decide⟩
  have q__law_number : Gn (defScope st_law_argument) "_law_number" := ⟨by decide +kernel, by decide⟩
  have q_len : Gn (defScope st_law_argument) "len" := ⟨by decide +kernel, by decide⟩
  have K_law_draw : Callee c "_law_draw" 3 2 g_law_draw := C_law_draw.mono (by decide)
  have K_law_number : Callee c "_law_number" 3 1 g_law_number := C_law_number.mono (by decide)
  exact (vss_cons (vs_set J n_choice (ve_call I hC q__law_draw K_law_draw (va_cons (ve_var I n_pool) (va_cons ve_int va_nil))))
 (vss_cons (vs_if (VW.vt (vw_or (vt_eq I (ve_var I n_choice) ve_int) (vw_or1 (VW.vt (vw_and (vt_eq I (ve_var I n_choice) ve_int) (vw_and (vt_gt (ve_len I q_len T.m_len (va_cons (ve_ix I (ve_var I n_lore) ve_int) va_nil)) ve_int) (vw_and1 (vt_eq I (ve_call I hC q__law_draw K_law_draw (va_cons (ve_var I n_pool) (va_cons ve_int va_nil))) ve_int)))))))) (vss_one (vs_ret ve_non)) vss_nil)
 (vss_cons (vs_if (VW.vt (vw_or (vt_eq I (ve_var I n_choice) ve_int) (vw_or1 (vt_eq I (ve_len I q_len T.m_len (va_cons (ve_ix I (ve_var I n_lore) ve_int) va_nil)) ve_int)))) (vss_one (vs_ret (ve_call I hC q__law_number K_law_number (va_cons (ve_var I n_pool) va_nil)))) vss_nil)
 (vss_cons (vs_set J n_cell (ve_ix I (ve_ix I (ve_ix I (ve_var I n_lore) ve_int) (ve_call I hC q__law_draw K_law_draw (va_cons (ve_var I n_pool) (va_cons (ve_len I q_len T.m_len (va_cons (ve_ix I (ve_var I n_lore) ve_int) va_nil)) va_nil)))) ve_int))
 (vss_cons (vs_if (VW.vt (vw_and (vt_val (ve_var I n_late)) (vw_and1 (vt_gt (ve_call I hC q__law_draw K_law_draw (va_cons (ve_var I n_pool) (va_cons ve_int va_nil))) ve_int)))) (vss_one (vs_ret (ve_tup (va_cons ve_str (va_cons (ve_var I n_cell) va_nil))))) vss_nil)
 (vss_one (vs_ret (ve_tup (va_cons ve_str (va_cons (ve_var I n_cell) va_nil))))))))))
theorem c_law_argument {c : Ctx} (T : Txt c) (C_law_draw : Callee c "_law_draw" 2 2 g_law_draw) (C_law_number : Callee c "_law_number" 3 1 g_law_number) : Callee c "_law_argument" 4 3 g_law_argument :=
  callee_def (N := ["pool", "lore", "late", "choice", "cell"]) T.F_law_argument sc_law_argument fun X W J hC => b_law_argument T C_law_draw C_law_number J hC
abbrev st_law_actionB : Stmt := (topS 53)
theorem sc_law_actionB : FnScope ["pool", "lore", "depth", "guard", "step", "argument", "further", "k"] ["pool", "lore", "depth"] (defScope st_law_actionB) := ⟨rfl, rfl, rfl, by decide +kernel, rfl, by decide +kernel, by decide +kernel⟩
theorem b_law_actionB {c : Ctx} (T : Txt c) (C_law_draw : Callee c "_law_draw" 2 2 g_law_draw) (C_law_argument : Callee c "_law_argument" 4 3 g_law_argument) {n : Nat} {G : List D → DM → Rs D} (R_law_actionB : Callee c "_law_action" (n + 4) 3 G) {X : Cx} {W : WX} (J : InS c X W (n + 4) ["pool", "lore", "depth", "guard", "step", "argument", "further", "k"] (defScope st_law_actionB)) (hC : Cold X) : VSs c X W (defBody st_law_actionB) (f_law_actionB G) := by
  have I := J.toIn
  have n_pool : Nm ["pool", "lore", "depth", "guard", "step", "argument", "further", "k"] (defScope st_law_actionB) 0 "pool" := ⟨rfl, by decide +kernel, by decide, by decide⟩
  have n_lore : Nm ["pool", "lore", "depth", "guard", "step", "argument", "further", "k"] (defScope st_law_actionB) 1 "lore" := ⟨rfl, by decide +kernel, by decide, by decide⟩
  have n_depth : Nm ["pool", "lore", "depth", "guard", "step", "argument", "further", "k"] (defScope st_law_actionB) 2 "depth" := ⟨rfl, by decide +kernel, by decide, by decide⟩
  have n_guard : Nm ["pool", "lore", "depth", "guard", "step", "argument", "further", "k"] (defScope st_law_actionB) 3 "guard" := ⟨rfl, by decide +kernel, by decide, by decide⟩
  have n_step : Nm ["pool", "lore", "depth", "guard", "step", "argument", "further", "k"] (defScope st_law_actionB) 4 "step" := ⟨rfl, by decide +kernel, by decide, by decide⟩
  have n_argument : Nm ["pool", "lore", "depth", "guard", "step", "argument", "further", "k"] (defScope st_law_actionB) 5 "argument" := ⟨rfl, by decide +kernel, by decide, by decide⟩
  have n_further : Nm ["pool", "lore", "depth", "guard", "step", "argument", "further", "k"] (defScope st_law_actionB) 6 "further" := ⟨rfl, by decide +kernel, by decide, by decide⟩
  have n_k : Nm ["pool", "lore", "depth", "guard", "step", "argument", "further", "k"] (defScope st_law_actionB) 7 "k" := ⟨rfl, by decide +kernel, by decide, by decide⟩
  have q__law_action : Gn (defScope st_law_actionB) "_law_action" := ⟨by decide +kernel, by decide⟩
  have q__law_argument : Gn (defScope st_law_actionB) "_law_argument" := ⟨by decide +kernel, by decide⟩
  have q__law_draw : Gn (defScope st_law_actionB) "_law_draw" := ⟨by decide +kernel, by decide⟩
  have q_len : Gn (defScope st_law_actionB) "len" := ⟨by decide +kernel, by decide⟩
  have q_range : Gn (defScope st_law_actionB) "range" := ⟨by decide +kernel, by decide⟩
  have K_law_draw : Callee c "_law_draw" (n + 4) 2 g_law_draw := C_law_draw.mono (by omega)
  have K_law_argument : Callee c "_law_argument" (n + 4) 3 g_law_argument := C_law_argument.mono (by omega)
  have K_law_actionB : Callee c "_law_action" (n + 4) 3 G := R_law_actionB.mono (by omega)
  exact (vss_cons (vs_set J n_guard (ve_ix I (ve_lst (va_cons ve_str (va_cons ve_str (va_cons ve_str va_nil)))) (ve_call I hC q__law_draw K_law_draw (va_cons (ve_var I n_pool) (va_cons ve_int va_nil)))))
 (vss_cons (vs_set J n_step (ve_ix I (ve_ix I (ve_var I n_lore) ve_int) (ve_call I hC q__law_draw K_law_draw (va_cons (ve_var I n_pool) (va_cons (ve_len I q_len T.m_len (va_cons (ve_ix I (ve_var I n_lore) ve_int) va_nil)) va_nil)))))
 (vss_cons (vs_set J n_argument (ve_call I hC q__law_argument K_law_argument (va_cons (ve_var I n_pool) (va_cons (ve_var I n_lore) (va_cons ve_bl va_nil)))))
 (vss_cons (vs_set J n_further (ve_tup va_nil))
 (vss_cons (vs_if (VW.vt (vw_and (vt_ne I (ve_var I n_guard) ve_str) (vw_and (vt_lt (ve_var I n_depth) ve_int) (vw_and1 (vt_eq I (ve_call I hC q__law_draw K_law_draw (va_cons (ve_var I n_pool) (va_cons ve_int va_nil))) ve_int))))) (vss_one (vs_forR J hC q_range T.m_range (ve_add I ve_int (ve_call I hC q__law_draw K_law_draw (va_cons (ve_var I n_pool) (va_cons ve_int va_nil)))) (vg_name J n_k) (vss_one (vs_set J n_further (ve_add I (ve_var I n_further) (ve_tup (va_cons (ve_call I hC q__law_action K_law_actionB (va_cons (ve_var I n_pool) (va_cons (ve_var I n_lore) (va_cons (ve_add I (ve_var I n_depth) ve_int) va_nil)))) va_nil))))))) vss_nil)
 (vss_one (vs_ret (ve_tup (va_cons (ve_var I n_guard) (va_cons (ve_var I n_step) (va_cons (ve_var I n_argument) (va_cons (ve_var I n_further) va_nil))))))))))))
theorem c_law_actionB {c : Ctx} (T : Txt c) (C_law_draw : Callee c "_law_draw" 2 2 g_law_draw) (C_law_argument : Callee c "_law_argument" 4 3 g_law_argument) : ∀ n : Nat, Callee c "_law_action" (n + 4) 3 (g_law_actionB n)
  | 0 => callee_zero T.F_law_actionB _ _
  | n + 1 => (callee_def (k := (n + 4)) (N := ["pool", "lore", "depth", "guard", "step", "argument", "further", "k"]) T.F_law_actionB sc_law_actionB fun X W J hC => b_law_actionB T C_law_draw C_law_argument (c_law_actionB T C_law_draw C_law_argument n) J hC).mono (by omega)
abbrev st_law_richB : Stmt := (topS 61)
theorem sc_law_richB : FnScope ["pool", "lore", "further", "k", "step"] ["pool", "lore"] (defScope st_law_richB) := ⟨rfl, rfl, rfl, by decide +kernel, rfl, by decide +kernel, by decide +kernel⟩
theorem b_law_richB {c : Ctx} (T : Txt c) (C_law_draw : Callee c "_law_draw" 2 2 g_law_draw) (C_law_actionB : Callee c "_law_action" 8 3 (g_law_actionB 4)) (C_law_argument : Callee c "_law_argument" 4 3 g_law_argument) {X : Cx} {W : WX} (J : InS c X W 8 ["pool", "lore", "further", "k", "step"] (defScope st_law_richB)) (hC : Cold X) : VSs c X W (defBody st_law_richB) f_law_richB := by
  have I := J.toIn
  have n_pool : Nm ["pool", "lore", "further", "k", "step"] (defScope st_law_richB) 0 "pool" := ⟨rfl, by decide +kernel, by decide, by decide⟩
  have n_lore : Nm ["pool", "lore", "further", "k", "step"] (defScope st_law_richB) 1 "lore" := ⟨rfl, by decide +kernel, by decide, by decide⟩
  have n_further : Nm ["pool", "lore", "further", "k", "step"] (defScope st_law_richB) 2 "further" := ⟨rfl, by decide +kernel, by decide, by decide⟩
  have n_k : Nm ["pool", "lore", "further", "k", "step"] (defScope st_law_richB) 3 "k" := ⟨rfl, by decide +kernel, by decide, by decide⟩
  have n_step : Nm ["pool", "lore", "further", "k", "step"] (defScope st_law_richB) 4 "step" := ⟨rfl, by decide +kernel, by decide, by decide⟩
  have q__law_action : Gn (defScope st_law_richB) "_law_action" := ⟨by decide +kernel, by decide⟩
  have q__law_argument : Gn (defScope st_law_richB) "_law_argument" := ⟨by decide +kernel, by decide⟩
  have q__law_draw : Gn (defScope st_law_richB) "_law_draw" := ⟨by decide +kernel, by decide⟩
  have q_len : Gn (defScope st_law_richB) "len" := ⟨by decide +kernel, by decide⟩
  have q_range : Gn (defScope st_law_richB) "range" := ⟨by decide +kernel, by decide⟩
  have K_law_draw : Callee c "_law_draw" 8 2 g_law_draw := C_law_draw.mono (by decide)
  have K_law_actionB : Callee c "_law_action" 8 3 (g_law_actionB 4) := C_law_actionB.mono (by decide)
  have K_law_argument : Callee c "_law_argument" 8 3 g_law_argument := C_law_argument.mono (by decide)
  exact (vss_cons (vs_if (vt_eq I (ve_call I hC q__law_draw K_law_draw (va_cons (ve_var I n_pool) (va_cons ve_int va_nil))) ve_int) (vss_one (vs_ret (ve_call I hC q__law_action K_law_actionB (va_cons (ve_var I n_pool) (va_cons (ve_var I n_lore) (va_cons ve_int va_nil)))))) vss_nil)
 (vss_cons (vs_set J n_further (ve_tup va_nil))
 (vss_cons (vs_forR J hC q_range T.m_range (ve_add I ve_int (ve_call I hC q__law_draw K_law_draw (va_cons (ve_var I n_pool) (va_cons ve_int va_nil)))) (vg_name J n_k) (vss_one (vs_set J n_further (ve_add I (ve_var I n_further) (ve_tup (va_cons (ve_call I hC q__law_action K_law_actionB (va_cons (ve_var I n_pool) (va_cons (ve_var I n_lore) (va_cons ve_int va_nil)))) va_nil))))))
 (vss_cons (vs_set J n_step (ve_ix I (ve_ix I (ve_var I n_lore) ve_int) (ve_call I hC q__law_draw K_law_draw (va_cons (ve_var I n_pool) (va_cons (ve_len I q_len T.m_len (va_cons (ve_ix I (ve_var I n_lore) ve_int) va_nil)) va_nil)))))
 (vss_one (vs_ret (ve_tup (va_cons (ve_ix I (ve_lst (va_cons ve_str (va_cons ve_str va_nil))) (ve_call I hC q__law_draw K_law_draw (va_cons (ve_var I n_pool) (va_cons ve_int va_nil)))) (va_cons (ve_var I n_step) (va_cons (ve_call I hC q__law_argument K_law_argument (va_cons (ve_var I n_pool) (va_cons (ve_var I n_lore) (va_cons ve_bl va_nil)))) (va_cons (ve_var I n_further) va_nil)))))))))))
theorem c_law_richB {c : Ctx} (T : Txt c) (C_law_draw : Callee c "_law_draw" 2 2 g_law_draw) (C_law_actionB : Callee c "_law_action" 8 3 (g_law_actionB 4)) (C_law_argument : Callee c "_law_argument" 4 3 g_law_argument) : Callee c "_law_rich" 9 2 g_law_richB :=
  callee_def (N := ["pool", "lore", "further", "k", "step"]) T.F_law_richB sc_law_richB fun X W J hC => b_law_richB T C_law_draw C_law_actionB C_law_argument J hC
abbrev st_law_word : Stmt := (topS 66)
def f_law_word : FS :=
 (sSeq (sSet 2 (eLst (aCons (eC (D.int 6)) aNil)))
 (sSeq (sSet 3 (eTup aNil))
 (sSeq (sForR (eCall g_law_draw (aCons (eVar 0) (aCons (eC (D.int 4)) aNil))) (gNm 4)
  (sSeq (sSub (e2 subD (e2 ixD (eVar 2) (eC (D.int 0))) (eC (D.int 1))) (eVar 2) (eC (D.int 0)))
 (sSet 3 (e2 addD (eVar 3) (eTup (aCons (eCall (g_law_cut 6) (aCons (eCall g_law_richB (aCons (eVar 0) (aCons (eVar 1) aNil))) (aCons (eVar 2) aNil))) aNil))))))
 (sRet (eVar 3)))))
def g_law_word : List D → DM → Rs D := fnD 5 f_law_word
theorem sc_law_word : FnScope ["pool", "lore", "room", "word", "k"] ["pool", "lore"] (defScope st_law_word) := ⟨rfl, rfl, rfl, by decide +kernel, rfl, by decide +kernel, by decide +kernel⟩
theorem b_law_word {c : Ctx} (T : Txt c) (C_law_draw : Callee c "_law_draw" 2 2 g_law_draw) (C_law_cut : Callee c "_law_cut" 6 2 (g_law_cut 6)) (C_law_richB : Callee c "_law_rich" 9 2 g_law_richB) {X : Cx} {W : WX} (J : InS c X W 9 ["pool", "lore", "room", "word", "k"] (defScope st_law_word)) (hC : Cold X) : VSs c X W (defBody st_law_word) f_law_word := by
  have I := J.toIn
  have n_pool : Nm ["pool", "lore", "room", "word", "k"] (defScope st_law_word) 0 "pool" := ⟨rfl, by decide +kernel, by decide, by decide⟩
  have n_lore : Nm ["pool", "lore", "room", "word", "k"] (defScope st_law_word) 1 "lore" := ⟨rfl, by decide +kernel, by decide, by decide⟩
  have n_room : Nm ["pool", "lore", "room", "word", "k"] (defScope st_law_word) 2 "room" := ⟨rfl, by decide +kernel, by decide, by decide⟩
  have n_word : Nm ["pool", "lore", "room", "word", "k"] (defScope st_law_word) 3 "word" := ⟨rfl, by decide +kernel, by decide, by decide⟩
  have n_k : Nm ["pool", "lore", "room", "word", "k"] (defScope st_law_word) 4 "k" := ⟨rfl, by decide +kernel, by decide, by decide⟩
  have q__law_cut : Gn (defScope st_law_word) "_law_cut" := ⟨by decide +kernel, by decide⟩
  have q__law_draw : Gn (defScope st_law_word) "_law_draw" := ⟨by decide +kernel, by decide⟩
  have q__law_rich : Gn (defScope st_law_word) "_law_rich" := ⟨by decide +kernel, by decide⟩
  have q_range : Gn (defScope st_law_word) "range" := ⟨by decide +kernel, by decide⟩
  have K_law_draw : Callee c "_law_draw" 9 2 g_law_draw := C_law_draw.mono (by decide)
  have K_law_cut : Callee c "_law_cut" 9 2 (g_law_cut 6) := C_law_cut.mono (by decide)
  have K_law_richB : Callee c "_law_rich" 9 2 g_law_richB := C_law_richB.mono (by decide)
  exact (vss_cons (vs_set J n_room (ve_lst (va_cons ve_int va_nil)))
 (vss_cons (vs_set J n_word (ve_tup va_nil))
 (vss_cons (vs_forR J hC q_range T.m_range (ve_call I hC q__law_draw K_law_draw (va_cons (ve_var I n_pool) (va_cons ve_int va_nil))) (vg_name J n_k) (vss_cons (vs_sub I (ve_sub (ve_ix I (ve_var I n_room) ve_int) ve_int) (ve_var I n_room) ve_int)
 (vss_one (vs_set J n_word (ve_add I (ve_var I n_word) (ve_tup (va_cons (ve_call I hC q__law_cut K_law_cut (va_cons (ve_call I hC q__law_rich K_law_richB (va_cons (ve_var I n_pool) (va_cons (ve_var I n_lore) va_nil))) (va_cons (ve_var I n_room) va_nil))) va_nil)))))))
 (vss_one (vs_ret (ve_var I n_word))))))
theorem c_law_word {c : Ctx} (T : Txt c) (C_law_draw : Callee c "_law_draw" 2 2 g_law_draw) (C_law_cut : Callee c "_law_cut" 6 2 (g_law_cut 6)) (C_law_richB : Callee c "_law_rich" 9 2 g_law_richB) : Callee c "_law_word" 10 2 g_law_word :=
  callee_def (N := ["pool", "lore", "room", "word", "k"]) T.F_law_word sc_law_word fun X W J hC => b_law_word T C_law_draw C_law_cut C_law_richB J hC
abbrev st_law_exit : Stmt := (topS 64)
def f_law_exit : FS :=
 (sSeq (sSet 1 (eCall g_law_draw (aCons (eVar 0) (aCons (eC (D.int 3)) aNil))))
 (sSeq (sIf (tb (e2 eqD (eVar 1) (eC (D.int 0))))
  (sRet (eTup (aCons (eC (D.str "return")) (aCons (eCall g_law_number (aCons (eVar 0) aNil)) aNil))))
  sNil)
 (sSeq (sIf (tb (e2 eqD (eVar 1) (eC (D.int 1))))
  (sRet (eTup (aCons (eC (D.str "raise")) (aCons (eCall g_law_name (aCons (eVar 0) aNil)) aNil))))
  sNil)
 (sRet (eTup (aCons (eC (D.str "leave")) (aCons (eCall g_law_name (aCons (eVar 0) aNil)) aNil)))))))
def g_law_exit : List D → DM → Rs D := fnD 2 f_law_exit
theorem sc_law_exit : FnScope ["pool", "choice"] ["pool"] (defScope st_law_exit) := ⟨rfl, rfl, rfl, by decide +kernel, rfl, by decide +kernel, by decide +kernel⟩
theorem b_law_exit {c : Ctx} (T : Txt c) (C_law_draw : Callee c "_law_draw" 2 2 g_law_draw) (C_law_number : Callee c "_law_number" 3 1 g_law_number) (C_law_name : Callee c "_law_name" 3 1 g_law_name) {X : Cx} {W : WX} (J : InS c X W 3 ["pool", "choice"] (defScope st_law_exit)) (hC : Cold X) : VSs c X W (defBody st_law_exit) f_law_exit := by
  have I := J.toIn
  have n_pool : Nm ["pool", "choice"] (defScope st_law_exit) 0 "pool" := ⟨rfl, by decide +kernel, by decide, by decide⟩
  have n_choice : Nm ["pool", "choice"] (defScope st_law_exit) 1 "choice" := ⟨rfl, by decide +kernel, by decide, by decide⟩
  have q__law_draw : Gn (defScope st_law_exit) "_law_draw" := ⟨by decide +kernel, by decide⟩
  have q__law_name : Gn (defScope st_law_exit) "_law_name" := ⟨by decide +kernel, by decide⟩
  have q__law_number : Gn (defScope st_law_exit) "_law_number" := ⟨by decide +kernel, by decide⟩
  have K_law_draw : Callee c "_law_draw" 3 2 g_law_draw := C_law_draw.mono (by decide)
  have K_law_number : Callee c "_law_number" 3 1 g_law_number := C_law_number.mono (by decide)
  have K_law_name : Callee c "_law_name" 3 1 g_law_name := C_law_name.mono (by decide)
  exact (vss_cons (vs_set J n_choice (ve_call I hC q__law_draw K_law_draw (va_cons (ve_var I n_pool) (va_cons ve_int va_nil))))
 (vss_cons (vs_if (vt_eq I (ve_var I n_choice) ve_int) (vss_one (vs_ret (ve_tup (va_cons ve_str (va_cons (ve_call I hC q__law_number K_law_number (va_cons (ve_var I n_pool) va_nil)) va_nil))))) vss_nil)
 (vss_cons (vs_if (vt_eq I (ve_var I n_choice) ve_int) (vss_one (vs_ret (ve_tup (va_cons ve_str (va_cons (ve_call I hC q__law_name K_law_name (va_cons (ve_var I n_pool) va_nil)) va_nil))))) vss_nil)
 (vss_one (vs_ret (ve_tup (va_cons ve_str (va_cons (ve_call I hC q__law_name K_law_name (va_cons (ve_var I n_pool) va_nil)) va_nil))))))))
theorem c_law_exit {c : Ctx} (T : Txt c) (C_law_draw : Callee c "_law_draw" 2 2 g_law_draw) (C_law_number : Callee c "_law_number" 3 1 g_law_number) (C_law_name : Callee c "_law_name" 3 1 g_law_name) : Callee c "_law_exit" 4 1 g_law_exit :=
  callee_def (N := ["pool", "choice"]) T.F_law_exit sc_law_exit fun X W J hC => b_law_exit T C_law_draw C_law_number C_law_name J hC
abbrev st_law_store : Stmt := (topS 65)
def f_law_store : FS :=
 (sRet (eCall tupleD (aCons (eLc [2] (iV (e2 ixD (eVar 1) (eC (D.int 2)))) (cNm 2) tYesD (eCall g_law_draw (aCons (eVar 0) (aCons (e2 ixD (eVar 2) (eC (D.int 1))) aNil)))) aNil)))
def g_law_store : List D → DM → Rs D := fnD 3 f_law_store
theorem sc_law_store : FnScope ["pool", "lore", "pair"] ["pool", "lore"] (defScope st_law_store) := ⟨rfl, rfl, rfl, by decide +kernel, rfl, by decide +kernel, by decide +kernel⟩
theorem b_law_store {c : Ctx} (T : Txt c) (C_law_draw : Callee c "_law_draw" 2 2 g_law_draw) {X : Cx} {W : WX} (J : InS c X W 2 ["pool", "lore", "pair"] (defScope st_law_store)) (hC : Cold X) : VSs c X W (defBody st_law_store) f_law_store := by
  have I := J.toIn
  have n_pool : Nm ["pool", "lore", "pair"] (defScope st_law_store) 0 "pool" := ⟨rfl, by decide +kernel, by decide, by decide⟩
  have n_lore : Nm ["pool", "lore", "pair"] (defScope st_law_store) 1 "lore" := ⟨rfl, by decide +kernel, by decide, by decide⟩
  have q_tuple : Gn (defScope st_law_store) "tuple" := ⟨by decide +kernel, by decide⟩
  have K_law_draw : Callee c "_law_draw" 2 2 g_law_draw := C_law_draw.mono (by decide)
  exact (vss_one (vs_ret (ve_tuple I q_tuple T.m_tuple (va_cons (ve_lc I hC [("pair", 2)] (vi_val I (ve_ix I (ve_var I n_lore) ve_int)) (fun _ I hC => (vc_name I (by exact ⟨rfl, by decide +kernel, by decide, by decide, by decide⟩))) (fun _ I hC => vts_nil) (fun _ I hC => (ve_call I hC (by exact ⟨by decide +kernel, by decide⟩) K_law_draw (va_cons (ve_varV I (by exact ⟨rfl, by decide +kernel, by decide, by decide⟩)) (va_cons (ve_ix I (ve_varV I (by exact ⟨rfl, by decide +kernel, by decide, by decide⟩)) ve_int) va_nil)))) (by decide +kernel)) va_nil))))
theorem c_law_store {c : Ctx} (T : Txt c) (C_law_draw : Callee c "_law_draw" 2 2 g_law_draw) : Callee c "_law_store" 3 2 g_law_store :=
  callee_def (N := ["pool", "lore", "pair"]) T.F_law_store sc_law_store fun X W J hC => b_law_store T C_law_draw J hC
abbrev st_law_put_twin : Stmt := (topS 54)
def f_law_put_twin : FS :=
 (sSeq (sAsg (eVar 0) (gTupN [2, 3, 4, 5]))
 (sSeq (sIf (tb (e2 eqD (eVar 2) (eC (D.str "always"))))
  (sRet (eTup (aCons (eTup (aCons (eC (D.str "put")) (aCons (eTup (aCons (eC (D.str "done")) (aCons (eVar 3) (aCons (eVar 4) (aCons (eVar 5) aNil))))) aNil))) (aCons (eTup (aCons (eC (D.str "put")) (aCons (eTup (aCons (eC (D.str "error")) (aCons (eVar 3) (aCons (eVar 4) (aCons (eTup aNil) aNil))))) aNil))) aNil))))
  sNil)
 (sSeq (sIf (tAndF (tb (e2 gtD (eCall lenD (aCons (eVar 5) aNil)) (eC (D.int 0)))) (tb (e2 eqD (e2 ixD (e2 ixD (eVar 5) (eC (D.int 0))) (eC (D.int 0))) (eC (D.str "done")))))
  (sSeq (sSet 6 (e2 ixD (eVar 5) (eC (D.int 0))))
 (sSeq (sSet 7 (e2 ixD (eVar 6) (eC (D.int 2))))
 (sSeq (sIf (tb (eCall isiD (aCons (eVar 7) (aCons (eC (D.ty "tuple")) aNil))))
  (sSet 7 (eTup (aCons (eC (D.str "late")) (aCons (e2 ixD (eVar 7) (eC (D.int 1))) aNil))))
  sNil)
 (sSeq (sSet 8 (eTup (aCons (eC (D.str "put")) (aCons (eTup (aCons (e2 ixD (eVar 6) (eC (D.int 0))) (aCons (e2 ixD (eVar 6) (eC (D.int 1))) (aCons (eVar 7) (aCons (e2 ixD (eVar 6) (eC (D.int 3))) aNil))))) aNil))))
 (sRet (eTup (aCons (eVar 8) (aCons (eTup (aCons (eC (D.str "put")) (aCons (eTup (aCons (eVar 2) (aCons (eVar 3) (aCons (eVar 4) (aCons (eSl (eVar 5) (oS (eC (D.int 1))) oN) aNil))))) aNil))) aNil))))))))
  sNil)
 (sSeq (sIf (tAndF (tb (eVar 1)) (tb (eCall isiD (aCons (eVar 4) (aCons (eC (D.ty "tuple")) aNil)))))
  (sSeq (sSet 9 (eC (D.str "now")))
 (sSeq (sIf (tb (e2 eqD (e2 ixD (eVar 4) (eC (D.int 0))) (eC (D.str "now"))))
  (sSet 9 (eC (D.str "late")))
  sNil)
 (sRet (eTup (aCons (eTup (aCons (eC (D.str "put")) (aCons (eTup (aCons (eVar 2) (aCons (eVar 3) (aCons (eTup (aCons (eVar 9) (aCons (e2 ixD (eVar 4) (eC (D.int 1))) aNil))) (aCons (eVar 5) aNil))))) aNil))) aNil)))))
  sNil)
 (sRet (eTup (aCons (eTup (aCons (eC (D.str "put")) (aCons (eVar 0) aNil))) aNil)))))))
def g_law_put_twin : List D → DM → Rs D := fnD 10 f_law_put_twin
theorem sc_law_put_twin : FnScope ["action", "unset", "guard", "step", "argument", "further", "inner", "lowest", "first", "word"] ["action", "unset"] (defScope st_law_put_twin) := ⟨rfl, rfl, rfl, by decide +kernel, rfl, by decide +kernel, by decide +kernel⟩
theorem b_law_put_twin {c : Ctx} (T : Txt c) {X : Cx} {W : WX} (J : InS c X W 0 ["action", "unset", "guard", "step", "argument", "further", "inner", "lowest", "first", "word"] (defScope st_law_put_twin)) (hC : Cold X) : VSs c X W (defBody st_law_put_twin) f_law_put_twin := by
  have I := J.toIn
  have n_action : Nm ["action", "unset", "guard", "step", "argument", "further", "inner", "lowest", "first", "word"] (defScope st_law_put_twin) 0 "action" := ⟨rfl, by decide +kernel, by decide, by decide⟩
  have n_unset : Nm ["action", "unset", "guard", "step", "argument", "further", "inner", "lowest", "first", "word"] (defScope st_law_put_twin) 1 "unset" := ⟨rfl, by decide +kernel, by decide, by decide⟩
  have n_guard : Nm ["action", "unset", "guard", "step", "argument", "further", "inner", "lowest", "first", "word"] (defScope st_law_put_twin) 2 "guard" := ⟨rfl, by decide +kernel, by decide, by decide⟩
  have n_step : Nm ["action", "unset", "guard", "step", "argument", "further", "inner", "lowest", "first", "word"] (defScope st_law_put_twin) 3 "step" := ⟨rfl, by decide +kernel, by decide, by decide⟩
  have n_argument : Nm ["action", "unset", "guard", "step", "argument", "further", "inner", "lowest", "first", "word"] (defScope st_law_put_twin) 4 "argument" := ⟨rfl, by decide +kernel, by decide, by decide⟩
  have n_further : Nm ["action", "unset", "guard", "step", "argument", "further", "inner", "lowest", "first", "word"] (defScope st_law_put_twin) 5 "further" := ⟨rfl, by decide +kernel, by decide, by decide⟩
  have n_inner : Nm ["action", "unset", "guard", "step", "argument", "further", "inner", "lowest", "first", "word"] (defScope st_law_put_twin) 6 "inner" := ⟨rfl, by decide +kernel, by decide, by decide⟩
  have n_lowest : Nm ["action", "unset", "guard", "step", "argument", "further", "inner", "lowest", "first", "word"] (defScope st_law_put_twin) 7 "lowest" := ⟨rfl, by decide +kernel, by decide, by decide⟩
  have n_first : Nm ["action", "unset", "guard", "step", "argument", "further", "inner", "lowest", "first", "word"] (defScope st_law_put_twin) 8 "first" := ⟨rfl, by decide +kernel, by decide, by decide⟩
  have n_word : Nm ["action", "unset", "guard", "step", "argument", "further", "inner", "lowest", "first", "word"] (defScope st_law_put_twin) 9 "word" := ⟨rfl, by decide +kernel, by decide, by decide⟩
  have q_isinstance : Gn (defScope st_law_put_twin) "isinstance" := ⟨by decide +kernel, by decide⟩
  have q_len : Gn (defScope st_law_put_twin) "len" := ⟨by decide +kernel, by decide⟩
  have q_tuple : Gn (defScope st_law_put_twin) "tuple" := ⟨by decide +kernel, by decide⟩
  exact (vss_cons (vs_asg (ve_var I n_action) (vg_tup J hC (vgs_cons J n_guard (vgs_cons J n_step (vgs_cons J n_argument (vgs_cons J n_further vgs_nil))))))
 (vss_cons (vs_if (vt_eq I (ve_var I n_guard) ve_str) (vss_one (vs_ret (ve_tup (va_cons (ve_tup (va_cons ve_str (va_cons (ve_tup (va_cons ve_str (va_cons (ve_var I n_step) (va_cons (ve_var I n_argument) (va_cons (ve_var I n_further) va_nil))))) va_nil))) (va_cons (ve_tup (va_cons ve_str (va_cons (ve_tup (va_cons ve_str (va_cons (ve_var I n_step) (va_cons (ve_var I n_argument) (va_cons (ve_tup va_nil) va_nil))))) va_nil))) va_nil))))) vss_nil)
 (vss_cons (vs_if (VW.vt (vw_and (vt_gt (ve_len I q_len T.m_len (va_cons (ve_var I n_further) va_nil)) ve_int) (vw_and1 (vt_eq I (ve_ix I (ve_ix I (ve_var I n_further) ve_int) ve_int) ve_str)))) (vss_cons (vs_set J n_inner (ve_ix I (ve_var I n_further) ve_int))
 (vss_cons (vs_set J n_lowest (ve_ix I (ve_var I n_inner) ve_int))
 (vss_cons (vs_if (vt_val (ve_isi I q_isinstance T.m_isinstance (va_cons (ve_var I n_lowest) (va_cons (ve_bty I q_tuple T.m_tuple PyProof.Rows.boot_tuple) va_nil)))) (vss_one (vs_set J n_lowest (ve_tup (va_cons ve_str (va_cons (ve_ix I (ve_var I n_lowest) ve_int) va_nil))))) vss_nil)
 (vss_cons (vs_set J n_first (ve_tup (va_cons ve_str (va_cons (ve_tup (va_cons (ve_ix I (ve_var I n_inner) ve_int) (va_cons (ve_ix I (ve_var I n_inner) ve_int) (va_cons (ve_var I n_lowest) (va_cons (ve_ix I (ve_var I n_inner) ve_int) va_nil))))) va_nil))))
 (vss_one (vs_ret (ve_tup (va_cons (ve_var I n_first) (va_cons (ve_tup (va_cons ve_str (va_cons (ve_tup (va_cons (ve_var I n_guard) (va_cons (ve_var I n_step) (va_cons (ve_var I n_argument) (va_cons (ve_slice I (ve_var I n_further) (vo_some ve_int) vo_none) va_nil))))) va_nil))) va_nil))))))))) vss_nil)
 (vss_cons (vs_if (VW.vt (vw_and (vt_val (ve_var I n_unset)) (vw_and1 (vt_val (ve_isi I q_isinstance T.m_isinstance (va_cons (ve_var I n_argument) (va_cons (ve_bty I q_tuple T.m_tuple PyProof.Rows.boot_tuple) va_nil))))))) (vss_cons (vs_set J n_word ve_str)
 (vss_cons (vs_if (vt_eq I (ve_ix I (ve_var I n_argument) ve_int) ve_str) (vss_one (vs_set J n_word ve_str)) vss_nil)
 (vss_one (vs_ret (ve_tup (va_cons (ve_tup (va_cons ve_str (va_cons (ve_tup (va_cons (ve_var I n_guard) (va_cons (ve_var I n_step) (va_cons (ve_tup (va_cons (ve_var I n_word) (va_cons (ve_ix I (ve_var I n_argument) ve_int) va_nil))) (va_cons (ve_var I n_further) va_nil))))) va_nil))) va_nil)))))) vss_nil)
 (vss_one (vs_ret (ve_tup (va_cons (ve_tup (va_cons ve_str (va_cons (ve_var I n_action) va_nil))) va_nil))))))))
theorem c_law_put_twin {c : Ctx} (T : Txt c) : Callee c "_law_put_twin" 1 2 g_law_put_twin :=
  callee_def (N := ["action", "unset", "guard", "step", "argument", "further", "inner", "lowest", "first", "word"]) T.F_law_put_twin sc_law_put_twin fun X W J hC => b_law_put_twin T  J hC
abbrev st_law_state : Stmt := (topS 57)
def f_law_state : FS :=
 (sSeq (sIf (tb (e2 eqD (e2 ixD (eVar 0) (eC (D.int 0))) (eC (D.str "raise"))))
  (sRet (eC (D.str "error")))
  sNil)
 (sRet (eC (D.str "done"))))
def g_law_state : List D → DM → Rs D := fnD 1 f_law_state
theorem sc_law_state : FnScope ["pending"] ["pending"] (defScope st_law_state) := ⟨rfl, rfl, rfl, by decide +kernel, rfl, by decide +kernel, by decide +kernel⟩
theorem b_law_state {c : Ctx} (T : Txt c) {X : Cx} {W : WX} (J : InS c X W 0 ["pending"] (defScope st_law_state)) (hC : Cold X) : VSs c X W (defBody st_law_state) f_law_state := by
  have I := J.toIn
  have n_pending : Nm ["pending"] (defScope st_law_state) 0 "pending" := ⟨rfl, by decide +kernel, by decide, by decide⟩
  exact (vss_cons (vs_if (vt_eq I (ve_ix I (ve_var I n_pending) ve_int) ve_str) (vss_one (vs_ret ve_str)) vss_nil)
 (vss_one (vs_ret ve_str)))
theorem c_law_state {c : Ctx} (T : Txt c) : Callee c "_law_state" 1 1 g_law_state :=
  callee_def (N := ["pending"]) T.F_law_state sc_law_state fun X W J hC => b_law_state T  J hC
abbrev st_law_second : Stmt := (topS 67)
def f_law_second : FS :=
 (sSeq (sSet 4 (eCall g_law_draw (aCons (eVar 0) (aCons (eC (D.int 8)) aNil))))
 (sSeq (sIf (tOrF (tb (e2 eqD (eVar 4) (eC (D.int 7)))) (tb (e2 eqD (eCall lenD (aCons (eVar 2) aNil)) (eC (D.int 0)))))
  (sRet (eCall g_law_word (aCons (eVar 0) (aCons (eVar 1) aNil))))
  sNil)
 (sSeq (sSet 5 (eCall g_law_draw (aCons (eVar 0) (aCons (eCall lenD (aCons (eVar 2) aNil)) aNil))))
 (sSeq (sAsg (e2 ixD (eVar 2) (eVar 5)) (gTupN [6, 7, 8, 9]))
 (sSeq (sIf (tb (e2 ltD (eVar 4) (eC (D.int 2))))
  (sRet (e2 addD (e2 addD (eSl (eVar 2) oN (oS (eVar 5))) (eCall tupleD (aCons (eLc [10] (iV (eCall g_law_put_twin (aCons (e2 ixD (eVar 2) (eVar 5)) (aCons (eC (D.bl true)) aNil)))) (cNm 10) tYesD (e2 ixD (eVar 10) (eC (D.int 1)))) aNil))) (eSl (eVar 2) (oS (e2 addD (eVar 5) (eC (D.int 1)))) oN)))
  sNil)
 (sSeq (sIf (tAndF (tb (e2 eqD (eVar 4) (eC (D.int 2)))) (tb (e2 eqD (eCall g_law_state (aCons (eVar 3) aNil)) (eC (D.str "done")))))
  (sRet (e2 addD (eVar 2) (eTup (aCons (eTup (aCons (eC (D.str "error")) (aCons (eVar 7) (aCons (eVar 8) (aCons (eTup aNil) aNil))))) aNil))))
  sNil)
 (sSeq (sIf (tb (e2 eqD (eVar 4) (eC (D.int 2))))
  (sRet (e2 addD (eVar 2) (eTup (aCons (eTup (aCons (eC (D.str "done")) (aCons (eVar 7) (aCons (eVar 8) (aCons (eVar 9) aNil))))) aNil))))
  sNil)
 (sSeq (sIf (tAndF (tb (e2 eqD (eVar 4) (eC (D.int 3)))) (tb (e2 gtD (eCall lenD (aCons (eVar 9) aNil)) (eC (D.int 0)))))
  (sRet (e2 addD (e2 addD (eSl (eVar 2) oN (oS (eVar 5))) (eTup (aCons (e2 ixD (eVar 9) (eC (D.int 0))) (aCons (eTup (aCons (eVar 6) (aCons (eVar 7) (aCons (eVar 8) (aCons (eSl (eVar 9) (oS (eC (D.int 1))) oN) aNil))))) aNil)))) (eSl (eVar 2) (oS (e2 addD (eVar 5) (eC (D.int 1)))) oN)))
  sNil)
 (sSeq (sIf (tb (e2 eqD (eVar 4) (eC (D.int 4))))
  (sRet (e2 addD (e2 addD (e2 addD (eSl (eVar 2) oN (oS (eVar 5))) (eSl (eVar 2) (oS (e2 addD (eVar 5) (eC (D.int 1)))) (oS (e2 addD (eVar 5) (eC (D.int 2)))))) (eSl (eVar 2) (oS (eVar 5)) (oS (e2 addD (eVar 5) (eC (D.int 1)))))) (eSl (eVar 2) (oS (e2 addD (eVar 5) (eC (D.int 2)))) oN)))
  sNil)
 (sSeq (sIf (tb (e2 eqD (eVar 4) (eC (D.int 5))))
  (sRet (e2 addD (e2 addD (eSl (eVar 2) oN (oS (eVar 5))) (eTup (aCons (eTup (aCons (eVar 6) (aCons (eVar 7) (aCons (eCall g_law_argument (aCons (eVar 0) (aCons (eVar 1) (aCons (eC (D.bl true)) aNil)))) (aCons (eVar 9) aNil))))) aNil))) (eSl (eVar 2) (oS (e2 addD (eVar 5) (eC (D.int 1)))) oN)))
  sNil)
 (sRet (e2 addD (eSl (eVar 2) oN (oS (eVar 5))) (eSl (eVar 2) (oS (e2 addD (eVar 5) (eC (D.int 1)))) oN)))))))))))))
def g_law_second : List D → DM → Rs D := fnD 11 f_law_second
theorem sc_law_second : FnScope ["pool", "lore", "word", "pending", "choice", "at", "guard", "step", "argument", "further", "statement"] ["pool", "lore", "word", "pending"] (defScope st_law_second) := ⟨rfl, rfl, rfl, by decide +kernel, rfl, by decide +kernel, by decide +kernel⟩
theorem b_law_second {c : Ctx} (T : Txt c) (C_law_draw : Callee c "_law_draw" 2 2 g_law_draw) (C_law_word : Callee c "_law_word" 10 2 g_law_word) (C_law_put_twin : Callee c "_law_put_twin" 1 2 g_law_put_twin) (C_law_state : Callee c "_law_state" 1 1 g_law_state) (C_law_argument : Callee c "_law_argument" 4 3 g_law_argument) {X : Cx} {W : WX} (J : InS c X W 10 ["pool", "lore", "word", "pending", "choice", "at", "guard", "step", "argument", "further", "statement"] (defScope st_law_second)) (hC : Cold X) : VSs c X W (defBody st_law_second) f_law_second := by
  have I := J.toIn
  have n_pool : Nm ["pool", "lore", "word", "pending", "choice", "at", "guard", "step", "argument", "further", "statement"] (defScope st_law_second) 0 "pool" := ⟨rfl, by decide +kernel, by decide, by decide⟩
  have n_lore : Nm ["pool", "lore", "word", "pending", "choice", "at", "guard", "step", "argument", "further", "statement"] (defScope st_law_second) 1 "lore" := ⟨rfl, by decide +kernel, by decide, by decide⟩
  have n_word : Nm ["pool", "lore", "word", "pending", "choice", "at", "guard", "step", "argument", "further", "statement"] (defScope st_law_second) 2 "word" := ⟨rfl, by decide +kernel, by decide, by decide⟩
  have n_pending : Nm ["pool", "lore", "word", "pending", "choice", "at", "guard", "step", "argument", "further", "statement"] (defScope st_law_second) 3 "pending" := ⟨rfl, by decide +kernel, by decide, by decide⟩
  have n_choice : Nm ["pool", "lore", "word", "pending", "choice", "at", "guard", "step", "argument", "further", "statement"] (defScope st_law_second) 4 "choice" := ⟨rfl, by decide +kernel, by decide, by decide⟩
  have n_at : Nm ["pool", "lore", "word", "pending", "choice", "at", "guard", "step", "argument", "further", "statement"] (defScope st_law_second) 5 "at" := ⟨rfl, by decide +kernel, by decide, by decide⟩
  have n_guard : Nm ["pool", "lore", "word", "pending", "choice", "at", "guard", "step", "argument", "further", "statement"] (defScope st_law_second) 6 "guard" := ⟨rfl, by decide +kernel, by decide, by decide⟩
  have n_step : Nm ["pool", "lore", "word", "pending", "choice", "at", "guard", "step", "argument", "further", "statement"] (defScope st_law_second) 7 "step" := ⟨rfl, by decide +kernel, by decide, by decide⟩
  have n_argument : Nm ["pool", "lore", "word", "pending", "choice", "at", "guard", "step", "argument", "further", "statement"] (defScope st_law_second) 8 "argument" := ⟨rfl, by decide +kernel, by decide, by decide⟩
  have n_further : Nm ["pool", "lore", "word", "pending", "choice", "at", "guard", "step", "argument", "further", "statement"] (defScope st_law_second) 9 "further" := ⟨rfl, by decide +kernel, by decide, by decide⟩
  have q__law_argument : Gn (defScope st_law_second) "_law_argument" := ⟨by decide +kernel, by decide⟩
  have q__law_draw : Gn (defScope st_law_second) "_law_draw" := ⟨by decide +kernel, by decide⟩
  have q__law_put_twin : Gn (defScope st_law_second) "_law_put_twin" := ⟨by decide +kernel, by decide⟩
  have q__law_state : Gn (defScope st_law_second) "_law_state" := ⟨by decide +kernel, by decide⟩
  have q__law_word : Gn (defScope st_law_second) "_law_word" := ⟨by decide +kernel, by decide⟩
  have q_len : Gn (defScope st_law_second) "len" := ⟨by decide +kernel, by decide⟩
  have q_tuple : Gn (defScope st_law_second) "tuple" := ⟨by decide +kernel, by decide⟩
  have K_law_draw : Callee c "_law_draw" 10 2 g_law_draw := C_law_draw.mono (by decide)
  have K_law_word : Callee c "_law_word" 10 2 g_law_word := C_law_word.mono (by decide)
  have K_law_put_twin : Callee c "_law_put_twin" 10 2 g_law_put_twin := C_law_put_twin.mono (by decide)
  have K_law_state : Callee c "_law_state" 10 1 g_law_state := C_law_state.mono (by decide)
  have K_law_argument : Callee c "_law_argument" 10 3 g_law_argument := C_law_argument.mono (by decide)
  exact (vss_cons (vs_set J n_choice (ve_call I hC q__law_draw K_law_draw (va_cons (ve_var I n_pool) (va_cons ve_int va_nil))))
 (vss_cons (vs_if (VW.vt (vw_or (vt_eq I (ve_var I n_choice) ve_int) (vw_or1 (vt_eq I (ve_len I q_len T.m_len (va_cons (ve_var I n_word) va_nil)) ve_int)))) (vss_one (vs_ret (ve_call I hC q__law_word K_law_word (va_cons (ve_var I n_pool) (va_cons (ve_var I n_lore) va_nil))))) vss_nil)
 (vss_cons (vs_set J n_at (ve_call I hC q__law_draw K_law_draw (va_cons (ve_var I n_pool) (va_cons (ve_len I q_len T.m_len (va_cons (ve_var I n_word) va_nil)) va_nil))))
 (vss_cons (vs_asg (ve_ix I (ve_var I n_word) (ve_var I n_at)) (vg_tup J hC (vgs_cons J n_guard (vgs_cons J n_step (vgs_cons J n_argument (vgs_cons J n_further vgs_nil))))))
 (vss_cons (vs_if (vt_lt (ve_var I n_choice) ve_int) (vss_one (vs_ret (ve_add I (ve_add I (ve_slice I (ve_var I n_word) vo_none (vo_some (ve_var I n_at))) (ve_tuple I q_tuple T.m_tuple (va_cons (ve_lc I hC [("statement", 10)] (vi_val I (ve_call I hC q__law_put_twin K_law_put_twin (va_cons (ve_ix I (ve_var I n_word) (ve_var I n_at)) (va_cons ve_bl va_nil)))) (fun _ I hC => (vc_name I (by exact ⟨rfl, by decide +kernel, by decide, by decide, by decide⟩))) (fun _ I hC => vts_nil) (fun _ I hC => (ve_ix I (ve_varV I (by exact ⟨rfl, by decide +kernel, by decide, by decide⟩)) ve_int)) (by decide +kernel)) va_nil))) (ve_slice I (ve_var I n_word) (vo_some (ve_add I (ve_var I n_at) ve_int)) vo_none)))) vss_nil)
 (vss_cons (vs_if (VW.vt (vw_and (vt_eq I (ve_var I n_choice) ve_int) (vw_and1 (vt_eq I (ve_call I hC q__law_state K_law_state (va_cons (ve_var I n_pending) va_nil)) ve_str)))) (vss_one (vs_ret (ve_add I (ve_var I n_word) (ve_tup (va_cons (ve_tup (va_cons ve_str (va_cons (ve_var I n_step) (va_cons (ve_var I n_argument) (va_cons (ve_tup va_nil) va_nil))))) va_nil))))) vss_nil)
 (vss_cons (vs_if (vt_eq I (ve_var I n_choice) ve_int) (vss_one (vs_ret (ve_add I (ve_var I n_word) (ve_tup (va_cons (ve_tup (va_cons ve_str (va_cons (ve_var I n_step) (va_cons (ve_var I n_argument) (va_cons (ve_var I n_further) va_nil))))) va_nil))))) vss_nil)
 (vss_cons (vs_if (VW.vt (vw_and (vt_eq I (ve_var I n_choice) ve_int) (vw_and1 (vt_gt (ve_len I q_len T.m_len (va_cons (ve_var I n_further) va_nil)) ve_int)))) (vss_one (vs_ret (ve_add I (ve_add I (ve_slice I (ve_var I n_word) vo_none (vo_some (ve_var I n_at))) (ve_tup (va_cons (ve_ix I (ve_var I n_further) ve_int) (va_cons (ve_tup (va_cons (ve_var I n_guard) (va_cons (ve_var I n_step) (va_cons (ve_var I n_argument) (va_cons (ve_slice I (ve_var I n_further) (vo_some ve_int) vo_none) va_nil))))) va_nil)))) (ve_slice I (ve_var I n_word) (vo_some (ve_add I (ve_var I n_at) ve_int)) vo_none)))) vss_nil)
 (vss_cons (vs_if (vt_eq I (ve_var I n_choice) ve_int) (vss_one (vs_ret (ve_add I (ve_add I (ve_add I (ve_slice I (ve_var I n_word) vo_none (vo_some (ve_var I n_at))) (ve_slice I (ve_var I n_word) (vo_some (ve_add I (ve_var I n_at) ve_int)) (vo_some (ve_add I (ve_var I n_at) ve_int)))) (ve_slice I (ve_var I n_word) (vo_some (ve_var I n_at)) (vo_some (ve_add I (ve_var I n_at) ve_int)))) (ve_slice I (ve_var I n_word) (vo_some (ve_add I (ve_var I n_at) ve_int)) vo_none)))) vss_nil)
 (vss_cons (vs_if (vt_eq I (ve_var I n_choice) ve_int) (vss_one (vs_ret (ve_add I (ve_add I (ve_slice I (ve_var I n_word) vo_none (vo_some (ve_var I n_at))) (ve_tup (va_cons (ve_tup (va_cons (ve_var I n_guard) (va_cons (ve_var I n_step) (va_cons (ve_call I hC q__law_argument K_law_argument (va_cons (ve_var I n_pool) (va_cons (ve_var I n_lore) (va_cons ve_bl va_nil)))) (va_cons (ve_var I n_further) va_nil))))) va_nil))) (ve_slice I (ve_var I n_word) (vo_some (ve_add I (ve_var I n_at) ve_int)) vo_none)))) vss_nil)
 (vss_one (vs_ret (ve_add I (ve_slice I (ve_var I n_word) vo_none (vo_some (ve_var I n_at))) (ve_slice I (ve_var I n_word) (vo_some (ve_add I (ve_var I n_at) ve_int)) vo_none))))))))))))))
theorem c_law_second {c : Ctx} (T : Txt c) (C_law_draw : Callee c "_law_draw" 2 2 g_law_draw) (C_law_word : Callee c "_law_word" 10 2 g_law_word) (C_law_put_twin : Callee c "_law_put_twin" 1 2 g_law_put_twin) (C_law_state : Callee c "_law_state" 1 1 g_law_state) (C_law_argument : Callee c "_law_argument" 4 3 g_law_argument) : Callee c "_law_second" 11 4 g_law_second :=
  callee_def (N := ["pool", "lore", "word", "pending", "choice", "at", "guard", "step", "argument", "further", "statement"]) T.F_law_second sc_law_second fun X W J hC => b_law_second T C_law_draw C_law_word C_law_put_twin C_law_state C_law_argument J hC
abbrev st_Book_init : Stmt := (mthS 21 2)
theorem sc_Book_init : FnScope ["self", "kinds", "sizes"] ["self", "kinds", "sizes"] (defScope st_Book_init) := ⟨rfl, rfl, rfl, by decide +kernel, rfl, by decide +kernel, by decide +kernel⟩
theorem b_Book_init {c : Ctx} (T : Txt c) {X : Cx} {W : WX} (J : InS c X W 0 ["self", "kinds", "sizes"] (defScope st_Book_init)) (hC : Cold X) : VSs c X W (defBody st_Book_init) f_Book_init := by
  have I := J.toIn
  have n_self : Nm ["self", "kinds", "sizes"] (defScope st_Book_init) 0 "self" := ⟨rfl, by decide +kernel, by decide, by decide⟩
  have n_kinds : Nm ["self", "kinds", "sizes"] (defScope st_Book_init) 1 "kinds" := ⟨rfl, by decide +kernel, by decide, by decide⟩
  have n_sizes : Nm ["self", "kinds", "sizes"] (defScope st_Book_init) 2 "sizes" := ⟨rfl, by decide +kernel, by decide, by decide⟩
  have q_dict : Gn (defScope st_Book_init) "dict" := ⟨by decide +kernel, by decide⟩
  exact (vss_cons (vs_fld I T.fl__kinds (ve_dict I hC q_dict T.m_dict T.tup0 (va_cons (ve_var I n_kinds) va_nil)) (ve_var I n_self))
 (vss_one (vs_fld I T.fl__sizes (ve_dict I hC q_dict T.m_dict T.tup0 (va_cons (ve_var I n_sizes) va_nil)) (ve_var I n_self))))
theorem c_Book_init {c : Ctx} (T : Txt c) : MkCallee c 0 "Book" 1 3 g_Book_init [(D.cl 1000), (D.cl 1001)] :=
  mkcallee_def (N := ["self", "kinds", "sizes"]) T.F_Book_init sc_Book_init fun X W J hC => b_Book_init T  J hC
abbrev st_is_name : Stmt := (topS 14)
theorem sc_is_name : FnScope ["text", "char"] ["text"] (defScope st_is_name) := ⟨rfl, rfl, rfl, by decide +kernel, rfl, by decide +kernel, by decide +kernel⟩
theorem b_is_name {c : Ctx} (T : Txt c) {X : Cx} {W : WX} (J : InS c X W 0 ["text", "char"] (defScope st_is_name)) (hC : Cold X) : VSs c X W (defBody st_is_name) f_is_name := by
  have I := J.toIn
  have n_text : Nm ["text", "char"] (defScope st_is_name) 0 "text" := ⟨rfl, by decide +kernel, by decide, by decide⟩
  have n_char : Nm ["text", "char"] (defScope st_is_name) 1 "char" := ⟨rfl, by decide +kernel, by decide, by decide⟩
  have q_DIGITS : Gn (defScope st_is_name) "DIGITS" := ⟨by decide +kernel, by decide⟩
  have q_LETTERS : Gn (defScope st_is_name) "LETTERS" := ⟨by decide +kernel, by decide⟩
  have q_LONGEST : Gn (defScope st_is_name) "LONGEST" := ⟨by decide +kernel, by decide⟩
  have q_len : Gn (defScope st_is_name) "len" := ⟨by decide +kernel, by decide⟩
  exact (vss_cons (vs_if (VW.vt (vw_or (vt_eq I (ve_var I n_text) ve_str) (vw_or (vt_gt (ve_len I q_len T.m_len (va_cons (ve_var I n_text) va_nil)) (ve_glob I q_LONGEST T.G_LONGEST)) (vw_or1 (vt_nin I (ve_ix I (ve_var I n_text) ve_int) (ve_glob I q_LETTERS T.G_LETTERS)))))) (vss_one (vs_ret ve_bl)) vss_nil)
 (vss_cons (vs_forI J hC (vi_val I (ve_var I n_text)) (vg_name J n_char) (vss_one (vs_if (VW.vt (vw_and (vt_nin I (ve_var I n_char) (ve_glob I q_LETTERS T.G_LETTERS)) (vw_and1 (vt_nin I (ve_var I n_char) (ve_glob I q_DIGITS T.G_DIGITS))))) (vss_one (vs_ret ve_bl)) vss_nil)))
 (vss_one (vs_ret ve_bl))))
theorem c_is_name {c : Ctx} (T : Txt c) : Callee c "is_name" 1 1 g_is_name :=
  callee_def (N := ["text", "char"]) T.F_is_name sc_is_name fun X W J hC => b_is_name T  J hC
abbrev st_check_name : Stmt := (topS 15)
theorem sc_check_name : FnScope ["name"] ["name"] (defScope st_check_name) := ⟨rfl, rfl, rfl, by decide +kernel, rfl, by decide +kernel, by decide +kernel⟩
theorem b_check_name {c : Ctx} (T : Txt c) (C_is_name : Callee c "is_name" 1 1 g_is_name) {X : Cx} {W : WX} (J : InS c X W 1 ["name"] (defScope st_check_name)) (hC : Cold X) : VSs c X W (defBody st_check_name) f_check_name := by
  have I := J.toIn
  have n_name : Nm ["name"] (defScope st_check_name) 0 "name" := ⟨rfl, by decide +kernel, by decide, by decide⟩
  have q_is_name : Gn (defScope st_check_name) "is_name" := ⟨by decide +kernel, by decide⟩
  have K_is_name : Callee c "is_name" 1 1 g_is_name := C_is_name.mono (by decide)
  exact (vss_cons (vs_if (vt_not (vt_val (ve_call I hC q_is_name K_is_name (va_cons (ve_var I n_name) va_nil)))) (vss_one vs_never) vss_nil)
 (vss_one (vs_ret (ve_var I n_name))))
theorem c_check_name {c : Ctx} (T : Txt c) (C_is_name : Callee c "is_name" 1 1 g_is_name) : Callee c "check_name" 2 1 g_check_name :=
  callee_def (N := ["name"]) T.F_check_name sc_check_name fun X W J hC => b_check_name T C_is_name J hC
abbrev st_check_number : Stmt := (topS 16)
theorem sc_check_number : FnScope ["number"] ["number"] (defScope st_check_number) := ⟨rfl, rfl, rfl, by decide +kernel, rfl, by decide +kernel, by decide +kernel⟩
theorem b_check_number {c : Ctx} (T : Txt c) {X : Cx} {W : WX} (J : InS c X W 0 ["number"] (defScope st_check_number)) (hC : Cold X) : VSs c X W (defBody st_check_number) f_check_number := by
  have I := J.toIn
  have n_number : Nm ["number"] (defScope st_check_number) 0 "number" := ⟨rfl, by decide +kernel, by decide, by decide⟩
  have q_GREATEST : Gn (defScope st_check_number) "GREATEST" := ⟨by decide +kernel, by decide⟩
  exact (vss_cons (vs_if (vt_not (vt_ch op_le op_le o_ord o_ord ve_int (ve_var I n_number) (ve_glob I q_GREATEST T.G_GREATEST))) (vss_one vs_never) vss_nil)
 (vss_one (vs_ret (ve_var I n_number))))
theorem c_check_number {c : Ctx} (T : Txt c) : Callee c "check_number" 1 1 g_check_number :=
  callee_def (N := ["number"]) T.F_check_number sc_check_number fun X W J hC => b_check_number T  J hC
abbrev st_check_kind : Stmt := (topS 20)
theorem sc_check_kind : FnScope ["kind"] ["kind"] (defScope st_check_kind) := ⟨rfl, rfl, rfl, by decide +kernel, rfl, by decide +kernel, by decide +kernel⟩
theorem b_check_kind {c : Ctx} (T : Txt c) (C_check_number : Callee c "check_number" 1 1 g_check_number) (C_check_name : Callee c "check_name" 2 1 g_check_name) {X : Cx} {W : WX} (J : InS c X W 2 ["kind"] (defScope st_check_kind)) (hC : Cold X) : VSs c X W (defBody st_check_kind) f_check_kind := by
  have I := J.toIn
  have n_kind : Nm ["kind"] (defScope st_check_kind) 0 "kind" := ⟨rfl, by decide +kernel, by decide, by decide⟩
  have q_NAMED : Gn (defScope st_check_kind) "NAMED" := ⟨by decide +kernel, by decide⟩
  have q_NUMBERED : Gn (defScope st_check_kind) "NUMBERED" := ⟨by decide +kernel, by decide⟩
  have q_check_name : Gn (defScope st_check_kind) "check_name" := ⟨by decide +kernel, by decide⟩
  have q_check_number : Gn (defScope st_check_kind) "check_number" := ⟨by decide +kernel, by decide⟩
  have q_len : Gn (defScope st_check_kind) "len" := ⟨by decide +kernel, by decide⟩
  have K_check_number : Callee c "check_number" 2 1 g_check_number := C_check_number.mono (by decide)
  have K_check_name : Callee c "check_name" 2 1 g_check_name := C_check_name.mono (by decide)
  exact (vss_cons (vs_if (vt_eq I (ve_var I n_kind) (ve_tup (va_cons ve_str va_nil))) (vss_one (vs_ret (ve_var I n_kind))) vss_nil)
 (vss_cons (vs_if (VW.vt (vw_or (vt_ne I (ve_len I q_len T.m_len (va_cons (ve_var I n_kind) va_nil)) ve_int) (vw_or1 (VW.vt (vw_and (vt_nin I (ve_ix I (ve_var I n_kind) ve_int) (ve_glob I q_NUMBERED T.G_NUMBERED)) (vw_and1 (vt_nin I (ve_ix I (ve_var I n_kind) ve_int) (ve_glob I q_NAMED T.G_NAMED)))))))) (vss_one vs_never) vss_nil)
 (vss_cons (vs_if (vt_in I (ve_ix I (ve_var I n_kind) ve_int) (ve_glob I q_NUMBERED T.G_NUMBERED)) (vss_one (vs_expr (ve_call I hC q_check_number K_check_number (va_cons (ve_ix I (ve_var I n_kind) ve_int) va_nil)))) (vss_one (vs_expr (ve_call I hC q_check_name K_check_name (va_cons (ve_ix I (ve_var I n_kind) ve_int) va_nil)))))
 (vss_one (vs_ret (ve_var I n_kind))))))
theorem c_check_kind {c : Ctx} (T : Txt c) (C_check_number : Callee c "check_number" 1 1 g_check_number) (C_check_name : Callee c "check_name" 2 1 g_check_name) : Callee c "check_kind" 3 1 g_check_kind :=
  callee_def (N := ["kind"]) T.F_check_kind sc_check_kind fun X W J hC => b_check_kind T C_check_number C_check_name J hC
abbrev st_Book_setitem : Stmt := (mthS 21 5)
theorem sc_Book_setitem : FnScope ["self", "name", "kind"] ["self", "name", "kind"] (defScope st_Book_setitem) := ⟨rfl, rfl, rfl, by decide +kernel, rfl, by decide +kernel, by decide +kernel⟩
theorem b_Book_setitem {c : Ctx} (T : Txt c) (C_check_name : Callee c "check_name" 2 1 g_check_name) (C_check_kind : Callee c "check_kind" 3 1 g_check_kind) {X : Cx} {W : WX} (J : InS c X W 3 ["self", "name", "kind"] (defScope st_Book_setitem)) (hC : Cold X) : VSs c X W (defBody st_Book_setitem) f_Book_setitem := by
  have I := J.toIn
  have n_self : Nm ["self", "name", "kind"] (defScope st_Book_setitem) 0 "self" := ⟨rfl, by decide +kernel, by decide, by decide⟩
  have n_name : Nm ["self", "name", "kind"] (defScope st_Book_setitem) 1 "name" := ⟨rfl, by decide +kernel, by decide, by decide⟩
  have n_kind : Nm ["self", "name", "kind"] (defScope st_Book_setitem) 2 "kind" := ⟨rfl, by decide +kernel, by decide, by decide⟩
  have q_Book : Gn (defScope st_Book_setitem) "Book" := ⟨by decide +kernel, by decide⟩
  have q_check_kind : Gn (defScope st_Book_setitem) "check_kind" := ⟨by decide +kernel, by decide⟩
  have q_check_name : Gn (defScope st_Book_setitem) "check_name" := ⟨by decide +kernel, by decide⟩
  have q_len : Gn (defScope st_Book_setitem) "len" := ⟨by decide +kernel, by decide⟩
  have K_check_name : Callee c "check_name" 3 1 g_check_name := C_check_name.mono (by decide)
  have K_check_kind : Callee c "check_kind" 3 1 g_check_kind := C_check_kind.mono (by decide)
  exact (vss_cons (vs_expr (ve_call I hC q_check_name K_check_name (va_cons (ve_var I n_name) va_nil)))
 (vss_cons (vs_expr (ve_call I hC q_check_kind K_check_kind (va_cons (ve_var I n_kind) va_nil)))
 (vss_cons (vs_if (VW.vt (vw_and (vt_nin I (ve_var I n_name) (ve_fld I T.fl__kinds (ve_var I n_self))) (vw_and1 (vt_eq I (ve_lenK I q_len T.m_len (va_cons (ve_fld I T.fl__kinds (ve_var I n_self)) va_nil)) (ve_cval I T.cv_Book_STEPS (ve_glob I q_Book T.GC_Book)))))) (vss_one vs_never) vss_nil)
 (vss_one (vs_put I (ve_var I n_kind) (ve_fld I T.fl__kinds (ve_var I n_self)) (ve_var I n_name))))))
theorem c_Book_setitem {c : Ctx} (T : Txt c) (C_check_name : Callee c "check_name" 2 1 g_check_name) (C_check_kind : Callee c "check_kind" 3 1 g_check_kind) : MCallee c 0 "__setitem__" 4 3 g_Book_setitem :=
  mcallee_def (N := ["self", "name", "kind"]) T.F_Book_setitem sc_Book_setitem fun X W J hC => b_Book_setitem T C_check_name C_check_kind J hC
abbrev st_Book_add_cell : Stmt := (mthS 21 11)
theorem sc_Book_add_cell : FnScope ["self", "name", "size"] ["self", "name", "size"] (defScope st_Book_add_cell) := ⟨rfl, rfl, rfl, by decide +kernel, rfl, by decide +kernel, by decide +kernel⟩
theorem b_Book_add_cell {c : Ctx} (T : Txt c) (C_check_name : Callee c "check_name" 2 1 g_check_name) {X : Cx} {W : WX} (J : InS c X W 2 ["self", "name", "size"] (defScope st_Book_add_cell)) (hC : Cold X) : VSs c X W (defBody st_Book_add_cell) f_Book_add_cell := by
  have I := J.toIn
  have n_self : Nm ["self", "name", "size"] (defScope st_Book_add_cell) 0 "self" := ⟨rfl, by decide +kernel, by decide, by decide⟩
  have n_name : Nm ["self", "name", "size"] (defScope st_Book_add_cell) 1 "name" := ⟨rfl, by decide +kernel, by decide, by decide⟩
  have n_size : Nm ["self", "name", "size"] (defScope st_Book_add_cell) 2 "size" := ⟨rfl, by decide +kernel, by decide, by decide⟩
  have q_Book : Gn (defScope st_Book_add_cell) "Book" := ⟨by decide +kernel, by decide⟩
  have q_check_name : Gn (defScope st_Book_add_cell) "check_name" := ⟨by decide +kernel, by decide⟩
  have q_len : Gn (defScope st_Book_add_cell) "len" := ⟨by decide +kernel, by decide⟩
  have K_check_name : Callee c "check_name" 2 1 g_check_name := C_check_name.mono (by decide)
  exact (vss_cons (vs_expr (ve_call I hC q_check_name K_check_name (va_cons (ve_var I n_name) va_nil)))
 (vss_cons (vs_if (vt_ninSeq I (ve_var I n_size) (ve_tup (va_cons ve_int (va_cons ve_int va_nil)))) (vss_one vs_never) vss_nil)
 (vss_cons (vs_if (vt_in I (ve_var I n_name) (ve_fld I T.fl__sizes (ve_var I n_self))) (vss_one vs_never) vss_nil)
 (vss_cons (vs_if (vt_eq I (ve_lenK I q_len T.m_len (va_cons (ve_fld I T.fl__sizes (ve_var I n_self)) va_nil)) (ve_cval I T.cv_Book_CELLS (ve_glob I q_Book T.GC_Book))) (vss_one vs_never) vss_nil)
 (vss_one (vs_put I (ve_var I n_size) (ve_fld I T.fl__sizes (ve_var I n_self)) (ve_var I n_name)))))))
theorem c_Book_add_cell {c : Ctx} (T : Txt c) (C_check_name : Callee c "check_name" 2 1 g_check_name) : MCallee c 0 "add_cell" 3 3 g_Book_add_cell :=
  mcallee_def (N := ["self", "name", "size"]) T.F_Book_add_cell sc_Book_add_cell fun X W J hC => b_Book_add_cell T C_check_name J hC
abbrev st_law_bookT : Stmt := (topS 51)
theorem sc_law_bookT : FnScope ["lore", "turned", "book", "name", "pairs", "pair", "k"] ["lore", "turned"] (defScope st_law_bookT) := ⟨rfl, rfl, rfl, by decide +kernel, rfl, by decide +kernel, by decide +kernel⟩
theorem b_law_bookT {c : Ctx} (T : Txt c) (C_Book_init : MkCallee c 0 "Book" 1 3 g_Book_init [(D.cl 1000), (D.cl 1001)]) (C_Book_setitem : MCallee c 0 "__setitem__" 4 3 g_Book_setitem) (C_Book_add_cell : MCallee c 0 "add_cell" 3 3 g_Book_add_cell) {X : Cx} {W : WX} (J : InS c X W 4 ["lore", "turned", "book", "name", "pairs", "pair", "k"] (defScope st_law_bookT)) (hC : Cold X) : VSs c X W (defBody st_law_bookT) f_law_bookT := by
  have I := J.toIn
  have n_lore : Nm ["lore", "turned", "book", "name", "pairs", "pair", "k"] (defScope st_law_bookT) 0 "lore" := ⟨rfl, by decide +kernel, by decide, by decide⟩
  have n_turned : Nm ["lore", "turned", "book", "name", "pairs", "pair", "k"] (defScope st_law_bookT) 1 "turned" := ⟨rfl, by decide +kernel, by decide, by decide⟩
  have n_book : Nm ["lore", "turned", "book", "name", "pairs", "pair", "k"] (defScope st_law_bookT) 2 "book" := ⟨rfl, by decide +kernel, by decide, by decide⟩
  have n_name : Nm ["lore", "turned", "book", "name", "pairs", "pair", "k"] (defScope st_law_bookT) 3 "name" := ⟨rfl, by decide +kernel, by decide, by decide⟩
  have n_pairs : Nm ["lore", "turned", "book", "name", "pairs", "pair", "k"] (defScope st_law_bookT) 4 "pairs" := ⟨rfl, by decide +kernel, by decide, by decide⟩
  have n_pair : Nm ["lore", "turned", "book", "name", "pairs", "pair", "k"] (defScope st_law_bookT) 5 "pair" := ⟨rfl, by decide +kernel, by decide, by decide⟩
  have q_Book : Gn (defScope st_law_bookT) "Book" := ⟨by decide +kernel, by decide⟩
  have q_len : Gn (defScope st_law_bookT) "len" := ⟨by decide +kernel, by decide⟩
  have q_range : Gn (defScope st_law_bookT) "range" := ⟨by decide +kernel, by decide⟩
  have K_Book_init : MkCallee c 0 "Book" 3 3 g_Book_init [(D.cl 1000), (D.cl 1001)] := C_Book_init.mono (by decide)
  have K_Book_setitem : MCallee c 0 "__setitem__" 4 3 g_Book_setitem := C_Book_setitem.mono (by decide)
  have K_Book_add_cell : MCallee c 0 "add_cell" 4 3 g_Book_add_cell := C_Book_add_cell.mono (by decide)
  exact (vss_cons (vs_set J n_book (ve_make0 I hC q_Book K_Book_init))
 (vss_cons (vs_for J hC (fun _ _ => 0) (ve_ix I (ve_var I n_lore) ve_int) (vg_name J n_name) (vss_one (vs_oset I hC K_Book_setitem T.noseq_Book (ve_gix I (ve_ix I (ve_var I n_lore) ve_int) (ve_var I n_name)) (ve_var I n_book) (ve_var I n_name))))
 (vss_cons (vs_set J n_pairs (ve_ix I (ve_var I n_lore) ve_int))
 (vss_cons (vs_if (vt_val (ve_var I n_turned)) (vss_one (vs_setLc J hC [("k", 6)] n_pairs (by decide +kernel)  (vi_rng I q_range T.m_range (ve_len I q_len T.m_len (va_cons (ve_ix I (ve_var I n_lore) ve_int) va_nil))) (fun _ I hC => (vc_name I (by exact ⟨rfl, by decide +kernel, by decide, by decide, by decide⟩))) (fun _ I hC => vts_nil) (fun _ I hC => (ve_ix I (ve_ix I (ve_varV I (by exact ⟨rfl, by decide +kernel, by decide, by decide⟩)) ve_int) (ve_sub (ve_sub (ve_len I (by exact ⟨by decide +kernel, by decide⟩) T.m_len (va_cons (ve_ix I (ve_varV I (by exact ⟨rfl, by decide +kernel, by decide, by decide⟩)) ve_int) va_nil)) ve_int) (ve_varV I (by exact ⟨rfl, by decide +kernel, by decide, by decide⟩))))) (by decide +kernel))) vss_nil)
 (vss_cons (vs_for J hC (fun _ _ => 0) (ve_var I n_pairs) (vg_name J n_pair) (vss_one (vs_expr (ve_meth I hC (ms_one K_Book_add_cell) (ve_var I n_book) (va_cons (ve_ix I (ve_var I n_pair) ve_int) (va_cons (ve_ix I (ve_var I n_pair) ve_int) va_nil))))))
 (vss_one (vs_ret (ve_var I n_book))))))))
theorem c_law_bookT {c : Ctx} (T : Txt c) (C_Book_init : MkCallee c 0 "Book" 1 3 g_Book_init [(D.cl 1000), (D.cl 1001)]) (C_Book_setitem : MCallee c 0 "__setitem__" 4 3 g_Book_setitem) (C_Book_add_cell : MCallee c 0 "add_cell" 3 3 g_Book_add_cell) : Callee c "_law_book" 5 2 g_law_bookT :=
  callee_def (N := ["lore", "turned", "book", "name", "pairs", "pair", "k"]) T.F_law_bookT sc_law_bookT fun X W J hC => b_law_bookT T C_Book_init C_Book_setitem C_Book_add_cell J hC
abbrev st_Book_getitem : Stmt := (mthS 21 4)
theorem sc_Book_getitem : FnScope ["self", "name"] ["self", "name"] (defScope st_Book_getitem) := ⟨rfl, rfl, rfl, by decide +kernel, rfl, by decide +kernel, by decide +kernel⟩
theorem b_Book_getitem {c : Ctx} (T : Txt c) {X : Cx} {W : WX} (J : InS c X W 0 ["self", "name"] (defScope st_Book_getitem)) (hC : Cold X) : VSs c X W (defBody st_Book_getitem) f_Book_getitem := by
  have I := J.toIn
  have n_self : Nm ["self", "name"] (defScope st_Book_getitem) 0 "self" := ⟨rfl, by decide +kernel, by decide, by decide⟩
  have n_name : Nm ["self", "name"] (defScope st_Book_getitem) 1 "name" := ⟨rfl, by decide +kernel, by decide, by decide⟩
  exact (vss_cons (vs_if (vt_nin I (ve_var I n_name) (ve_fld I T.fl__kinds (ve_var I n_self))) (vss_one vs_never) vss_nil)
 (vss_one (vs_ret (ve_gix I (ve_fld I T.fl__kinds (ve_var I n_self)) (ve_var I n_name)))))
theorem c_Book_getitem {c : Ctx} (T : Txt c) : MCallee c 0 "__getitem__" 1 2 g_Book_getitem :=
  mcallee_def (N := ["self", "name"]) T.F_Book_getitem sc_Book_getitem fun X W J hC => b_Book_getitem T  J hC
abbrev st_below : Stmt := (topS 34)
theorem sc_below : FnScope ["half", "states", "book", "guard"] ["half", "states", "book"] (defScope st_below) := ⟨rfl, rfl, rfl, by decide +kernel, rfl, by decide +kernel, by decide +kernel⟩
theorem b_below {c : Ctx} (T : Txt c) (C_Book_getitem : MCallee c 0 "__getitem__" 1 2 g_Book_getitem) {X : Cx} {W : WX} (J : InS c X W 2 ["half", "states", "book", "guard"] (defScope st_below)) (hC : Cold X) : VSs c X W (defBody st_below) f_below := by
  have I := J.toIn
  have n_half : Nm ["half", "states", "book", "guard"] (defScope st_below) 0 "half" := ⟨rfl, by decide +kernel, by decide, by decide⟩
  have n_states : Nm ["half", "states", "book", "guard"] (defScope st_below) 1 "states" := ⟨rfl, by decide +kernel, by decide, by decide⟩
  have n_book : Nm ["half", "states", "book", "guard"] (defScope st_below) 2 "book" := ⟨rfl, by decide +kernel, by decide, by decide⟩
  have n_guard : Nm ["half", "states", "book", "guard"] (defScope st_below) 3 "guard" := ⟨rfl, by decide +kernel, by decide, by decide⟩
  have q_BOTH : Gn (defScope st_below) "BOTH" := ⟨by decide +kernel, by decide⟩
  have q_DONE : Gn (defScope st_below) "DONE" := ⟨by decide +kernel, by decide⟩
  have q_ENDING : Gn (defScope st_below) "ENDING" := ⟨by decide +kernel, by decide⟩
  have K_Book_getitem : MCallee c 0 "__getitem__" 1 2 g_Book_getitem := C_Book_getitem.mono (by decide)
  exact (vss_cons (vs_set J n_guard (ve_ix I (ve_var I n_half) ve_int))
 (vss_cons (vs_if (VW.vt (vw_and (vt_in I (ve_var I n_guard) (ve_var I n_states)) (vw_and1 (VW.vt (vw_or (vt_eq I (ve_var I n_guard) (ve_glob I q_DONE T.G_DONE)) (vw_or1 (vt_in I (ve_ix I (ve_oget I hC K_Book_getitem T.fnin_Book (ve_var I n_book) (ve_ix I (ve_var I n_half) ve_int)) ve_int) (ve_glob I q_ENDING T.G_ENDING)))))))) (vss_one (vs_ret (ve_glob I q_BOTH T.G_BOTH))) vss_nil)
 (vss_one (vs_ret (ve_var I n_states)))))
theorem c_below {c : Ctx} (T : Txt c) (C_Book_getitem : MCallee c 0 "__getitem__" 1 2 g_Book_getitem) : Callee c "below" 3 3 g_below :=
  callee_def (N := ["half", "states", "book", "guard"]) T.F_below sc_below fun X W J hC => b_below T C_Book_getitem J hC
abbrev st_keep_live : Stmt := (topS 36)
theorem sc_keep_live : FnScope ["word", "states", "book", "found", "half"] ["word", "states", "book"] (defScope st_keep_live) := ⟨rfl, rfl, rfl, by decide +kernel, rfl, by decide +kernel, by decide +kernel⟩
theorem b_keep_live {c : Ctx} (T : Txt c) (C_below : Callee c "below" 3 3 g_below) {X : Cx} {W : WX} (J : InS c X W 3 ["word", "states", "book", "found", "half"] (defScope st_keep_live)) (hC : Cold X) : VSs c X W (defBody st_keep_live) f_keep_live := by
  have I := J.toIn
  have n_word : Nm ["word", "states", "book", "found", "half"] (defScope st_keep_live) 0 "word" := ⟨rfl, by decide +kernel, by decide, by decide⟩
  have n_states : Nm ["word", "states", "book", "found", "half"] (defScope st_keep_live) 1 "states" := ⟨rfl, by decide +kernel, by decide, by decide⟩
  have n_book : Nm ["word", "states", "book", "found", "half"] (defScope st_keep_live) 2 "book" := ⟨rfl, by decide +kernel, by decide, by decide⟩
  have n_found : Nm ["word", "states", "book", "found", "half"] (defScope st_keep_live) 3 "found" := ⟨rfl, by decide +kernel, by decide, by decide⟩
  have n_half : Nm ["word", "states", "book", "found", "half"] (defScope st_keep_live) 4 "half" := ⟨rfl, by decide +kernel, by decide, by decide⟩
  have q_below : Gn (defScope st_keep_live) "below" := ⟨by decide +kernel, by decide⟩
  have q_list : Gn (defScope st_keep_live) "list" := ⟨by decide +kernel, by decide⟩
  have q_reversed : Gn (defScope st_keep_live) "reversed" := ⟨by decide +kernel, by decide⟩
  have q_tuple : Gn (defScope st_keep_live) "tuple" := ⟨by decide +kernel, by decide⟩
  have K_below : Callee c "below" 3 3 g_below := C_below.mono (by decide)
  exact (vss_cons (vs_set J n_found (ve_lst va_nil))
 (vss_cons (vs_forI J hC (vi_rev I q_reversed T.m_reversed (ve_list I q_list T.m_list (va_cons (ve_var I n_word) va_nil))) (vg_name J n_half) (vss_one (vs_if (vt_in I (ve_ix I (ve_var I n_half) ve_int) (ve_var I n_states)) (vss_cons (vs_expr (ve_append I (ve_var I n_found) (va_cons (ve_var I n_half) va_nil)))
 (vss_one (vs_set J n_states (ve_call I hC q_below K_below (va_cons (ve_var I n_half) (va_cons (ve_var I n_states) (va_cons (ve_var I n_book) va_nil))))))) vss_nil)))
 (vss_one (vs_ret (ve_tuple I q_tuple T.m_tuple (va_cons (ve_revL I (ve_var I n_found)) va_nil))))))
theorem c_keep_live {c : Ctx} (T : Txt c) (C_below : Callee c "below" 3 3 g_below) : Callee c "keep_live" 4 3 g_keep_live :=
  callee_def (N := ["word", "states", "book", "found", "half"]) T.F_keep_live sc_keep_live fun X W J hC => b_keep_live T C_below J hC
abbrev st_halves : Stmt := (topS 24)
theorem sc_halves : FnScope ["action", "guard", "step", "argument", "further"] ["action"] (defScope st_halves) := ⟨rfl, rfl, rfl, by decide +kernel, rfl, by decide +kernel, by decide +kernel⟩
theorem b_halves {c : Ctx} (T : Txt c) {X : Cx} {W : WX} (J : InS c X W 0 ["action", "guard", "step", "argument", "further"] (defScope st_halves)) (hC : Cold X) : VSs c X W (defBody st_halves) f_halves := by
  have I := J.toIn
  have n_action : Nm ["action", "guard", "step", "argument", "further"] (defScope st_halves) 0 "action" := ⟨rfl, by decide +kernel, by decide, by decide⟩
  have n_guard : Nm ["action", "guard", "step", "argument", "further"] (defScope st_halves) 1 "guard" := ⟨rfl, by decide +kernel, by decide, by decide⟩
  have n_step : Nm ["action", "guard", "step", "argument", "further"] (defScope st_halves) 2 "step" := ⟨rfl, by decide +kernel, by decide, by decide⟩
  have n_argument : Nm ["action", "guard", "step", "argument", "further"] (defScope st_halves) 3 "argument" := ⟨rfl, by decide +kernel, by decide, by decide⟩
  have n_further : Nm ["action", "guard", "step", "argument", "further"] (defScope st_halves) 4 "further" := ⟨rfl, by decide +kernel, by decide, by decide⟩
  exact (vss_cons (vs_asg (ve_var I n_action) (vg_tup J hC (vgs_cons J n_guard (vgs_cons J n_step (vgs_cons J n_argument (vgs_cons J n_further vgs_nil))))))
 (vss_cons (vs_if (vt_ne I (ve_var I n_guard) ve_str) (vss_one (vs_ret (ve_tup (va_cons (ve_var I n_action) va_nil)))) vss_nil)
 (vss_one (vs_ret (ve_tup (va_cons (ve_tup (va_cons ve_str (va_cons (ve_var I n_step) (va_cons (ve_var I n_argument) (va_cons (ve_var I n_further) va_nil))))) (va_cons (ve_tup (va_cons ve_str (va_cons (ve_var I n_step) (va_cons (ve_var I n_argument) (va_cons (ve_tup va_nil) va_nil))))) va_nil)))))))
theorem c_halves {c : Ctx} (T : Txt c) : Callee c "halves" 1 1 g_halves :=
  callee_def (N := ["action", "guard", "step", "argument", "further"]) T.F_halves sc_halves fun X W J hC => b_halves T  J hC
abbrev st_split : Stmt := (topS 35)
theorem sc_split : FnScope ["word", "found", "action"] ["word"] (defScope st_split) := ⟨rfl, rfl, rfl, by decide +kernel, rfl, by decide +kernel, by decide +kernel⟩
theorem b_split {c : Ctx} (T : Txt c) (C_halves : Callee c "halves" 1 1 g_halves) {X : Cx} {W : WX} (J : InS c X W 1 ["word", "found", "action"] (defScope st_split)) (hC : Cold X) : VSs c X W (defBody st_split) f_split := by
  have I := J.toIn
  have n_word : Nm ["word", "found", "action"] (defScope st_split) 0 "word" := ⟨rfl, by decide +kernel, by decide, by decide⟩
  have n_found : Nm ["word", "found", "action"] (defScope st_split) 1 "found" := ⟨rfl, by decide +kernel, by decide, by decide⟩
  have n_action : Nm ["word", "found", "action"] (defScope st_split) 2 "action" := ⟨rfl, by decide +kernel, by decide, by decide⟩
  have q_halves : Gn (defScope st_split) "halves" := ⟨by decide +kernel, by decide⟩
  have K_halves : Callee c "halves" 1 1 g_halves := C_halves.mono (by decide)
  exact (vss_cons (vs_set J n_found (ve_lst va_nil))
 (vss_cons (vs_for J hC (fun _ _ => 0) (ve_var I n_word) (vg_name J n_action) (vss_one (vs_expr (ve_extend I (ve_var I n_found) (va_cons (ve_call I hC q_halves K_halves (va_cons (ve_var I n_action) va_nil)) va_nil)))))
 (vss_one (vs_ret (ve_var I n_found)))))
theorem c_split {c : Ctx} (T : Txt c) (C_halves : Callee c "halves" 1 1 g_halves) : Callee c "split" 2 1 g_split :=
  callee_def (N := ["word", "found", "action"]) T.F_split sc_split fun X W J hC => b_split T C_halves J hC
abbrev st_normal_half : Stmt := (topS 37)
theorem sc_normal_half : FnScope ["half", "book", "guard", "step", "argument", "further", "inner", "many"] ["half", "book"] (defScope st_normal_half) := ⟨rfl, rfl, rfl, by decide +kernel, rfl, by decide +kernel, by decide +kernel⟩
theorem b_normal_half {c : Ctx} (T : Txt c) (C_keep_live : Callee c "keep_live" 4 3 g_keep_live) {k : Nat} (hk : 4 ≤ k) {G : List D → DM → Rs D} (K_normal : Callee c "normal" k 2 G) {X : Cx} {W : WX} (J : InS c X W k ["half", "book", "guard", "step", "argument", "further", "inner", "many"] (defScope st_normal_half)) (hC : Cold X) : VSs c X W (defBody st_normal_half) (f_normal_half G) := by
  have I := J.toIn
  have n_half : Nm ["half", "book", "guard", "step", "argument", "further", "inner", "many"] (defScope st_normal_half) 0 "half" := ⟨rfl, by decide +kernel, by decide, by decide⟩
  have n_book : Nm ["half", "book", "guard", "step", "argument", "further", "inner", "many"] (defScope st_normal_half) 1 "book" := ⟨rfl, by decide +kernel, by decide, by decide⟩
  have n_guard : Nm ["half", "book", "guard", "step", "argument", "further", "inner", "many"] (defScope st_normal_half) 2 "guard" := ⟨rfl, by decide +kernel, by decide, by decide⟩
  have n_step : Nm ["half", "book", "guard", "step", "argument", "further", "inner", "many"] (defScope st_normal_half) 3 "step" := ⟨rfl, by decide +kernel, by decide, by decide⟩
  have n_argument : Nm ["half", "book", "guard", "step", "argument", "further", "inner", "many"] (defScope st_normal_half) 4 "argument" := ⟨rfl, by decide +kernel, by decide, by decide⟩
  have n_further : Nm ["half", "book", "guard", "step", "argument", "further", "inner", "many"] (defScope st_normal_half) 5 "further" := ⟨rfl, by decide +kernel, by decide, by decide⟩
  have n_inner : Nm ["half", "book", "guard", "step", "argument", "further", "inner", "many"] (defScope st_normal_half) 6 "inner" := ⟨rfl, by decide +kernel, by decide, by decide⟩
  have n_many : Nm ["half", "book", "guard", "step", "argument", "further", "inner", "many"] (defScope st_normal_half) 7 "many" := ⟨rfl, by decide +kernel, by decide, by decide⟩
  have q_DONE : Gn (defScope st_normal_half) "DONE" := ⟨by decide +kernel, by decide⟩
  have q_keep_live : Gn (defScope st_normal_half) "keep_live" := ⟨by decide +kernel, by decide⟩
  have q_len : Gn (defScope st_normal_half) "len" := ⟨by decide +kernel, by decide⟩
  have q_normal : Gn (defScope st_normal_half) "normal" := ⟨by decide +kernel, by decide⟩
  have K_keep_live : Callee c "keep_live" k 3 g_keep_live := C_keep_live.mono (by omega)
  exact (vss_cons (vs_asg (ve_var I n_half) (vg_tup J hC (vgs_cons J n_guard (vgs_cons J n_step (vgs_cons J n_argument (vgs_cons J n_further vgs_nil))))))
 (vss_cons (vs_set J n_inner (ve_call I hC q_keep_live K_keep_live (va_cons (ve_call I hC q_normal K_normal (va_cons (ve_var I n_further) (va_cons (ve_var I n_book) va_nil))) (va_cons (ve_tup (va_cons (ve_glob I q_DONE T.G_DONE) va_nil)) (va_cons (ve_var I n_book) va_nil)))))
 (vss_cons (vs_set J n_many ve_int)
 (vss_cons (vs_while J (fun _ _ => 1000) (VW.vt (vw_and (vt_lt (ve_var I n_many) (ve_len I q_len T.m_len (va_cons (ve_var I n_inner) va_nil))) (vw_and1 (vt_eq I (ve_ix I (ve_ix I (ve_var I n_inner) (ve_var I n_many)) ve_int) (ve_glob I q_DONE T.G_DONE))))) (vss_one (vs_augAdd J n_many ve_int)))
 (vss_one (vs_ret (ve_lstS (vas_star I (ve_slice I (ve_var I n_inner) vo_none (vo_some (ve_var I n_many))) (vas_cons (ve_tup (va_cons (ve_var I n_guard) (va_cons (ve_var I n_step) (va_cons (ve_var I n_argument) (va_cons (ve_slice I (ve_var I n_inner) (vo_some (ve_var I n_many)) vo_none) va_nil))))) (VA.s va_nil))))))))))
theorem c_normal_half {c : Ctx} (T : Txt c) (C_keep_live : Callee c "keep_live" 4 3 g_keep_live) {k : Nat} (hk : 4 ≤ k) {G : List D → DM → Rs D} (K_normal : Callee c "normal" k 2 G) : Callee c "normal_half" (k + 1) 2 (g_normal_half G) :=
  callee_def (N := ["half", "book", "guard", "step", "argument", "further", "inner", "many"]) T.F_normal_half sc_normal_half fun X W J hC => b_normal_half T C_keep_live hk K_normal J hC
abbrev st_normal : Stmt := (topS 38)
theorem sc_normal : FnScope ["word", "book", "found", "half"] ["word", "book"] (defScope st_normal) := ⟨rfl, rfl, rfl, by decide +kernel, rfl, by decide +kernel, by decide +kernel⟩
theorem b_normal {c : Ctx} (T : Txt c) (C_split : Callee c "split" 2 1 g_split) (C_keep_live : Callee c "keep_live" 4 3 g_keep_live) {n : Nat} {G : List D → DM → Rs D} (R_normal : Callee c "normal" (2 * n + 4) 2 G) {X : Cx} {W : WX} (J : InS c X W (2 * n + 5) ["word", "book", "found", "half"] (defScope st_normal)) (hC : Cold X) : VSs c X W (defBody st_normal) (f_normal G) := by
  have I := J.toIn
  have n_word : Nm ["word", "book", "found", "half"] (defScope st_normal) 0 "word" := ⟨rfl, by decide +kernel, by decide, by decide⟩
  have n_book : Nm ["word", "book", "found", "half"] (defScope st_normal) 1 "book" := ⟨rfl, by decide +kernel, by decide, by decide⟩
  have n_found : Nm ["word", "book", "found", "half"] (defScope st_normal) 2 "found" := ⟨rfl, by decide +kernel, by decide, by decide⟩
  have n_half : Nm ["word", "book", "found", "half"] (defScope st_normal) 3 "half" := ⟨rfl, by decide +kernel, by decide, by decide⟩
  have q_normal_half : Gn (defScope st_normal) "normal_half" := ⟨by decide +kernel, by decide⟩
  have q_split : Gn (defScope st_normal) "split" := ⟨by decide +kernel, by decide⟩
  have q_tuple : Gn (defScope st_normal) "tuple" := ⟨by decide +kernel, by decide⟩
  have K_split : Callee c "split" (2 * n + 5) 1 g_split := C_split.mono (by omega)
  have K_normal_half : Callee c "normal_half" (2 * n + 5) 2 (g_normal_half G) := c_normal_half T C_keep_live (k := (2 * n + 4)) (by omega) R_normal
  have K_normal : Callee c "normal" (2 * n + 5) 2 G := R_normal.mono (by omega)
  exact (vss_cons (vs_set J n_found (ve_lst va_nil))
 (vss_cons (vs_for J hC (fun _ _ => 0) (ve_call I hC q_split K_split (va_cons (ve_var I n_word) va_nil)) (vg_name J n_half) (vss_one (vs_expr (ve_extend I (ve_var I n_found) (va_cons (ve_call I hC q_normal_half K_normal_half (va_cons (ve_var I n_half) (va_cons (ve_var I n_book) va_nil))) va_nil)))))
 (vss_one (vs_ret (ve_tuple I q_tuple T.m_tuple (va_cons (ve_var I n_found) va_nil))))))
theorem c_normal {c : Ctx} (T : Txt c) (C_split : Callee c "split" 2 1 g_split) (C_keep_live : Callee c "keep_live" 4 3 g_keep_live) : ∀ n : Nat, Callee c "normal" (2 * n + 4) 2 (g_normal n)
  | 0 => callee_zero T.F_normal _ _
  | n + 1 => (callee_def (k := (2 * n + 5)) (N := ["word", "book", "found", "half"]) T.F_normal sc_normal fun X W J hC => b_normal T C_split C_keep_live (c_normal T C_split C_keep_live n) J hC).mono (by omega)
abbrev st_live : Stmt := (topS 39)
def f_live : FS :=
 (sRet (eCall g_keep_live (aCons (eCall (g_normal 6) (aCons (eVar 0) (aCons (eVar 2) aNil))) (aCons (eVar 1) (aCons (eVar 2) aNil)))))
def g_live : List D → DM → Rs D := fnD 3 f_live
theorem sc_live : FnScope ["word", "states", "book"] ["word", "states", "book"] (defScope st_live) := ⟨rfl, rfl, rfl, by decide +kernel, rfl, by decide +kernel, by decide +kernel⟩
theorem b_live {c : Ctx} (T : Txt c) (C_keep_live : Callee c "keep_live" 4 3 g_keep_live) (C_normal : Callee c "normal" 16 2 (g_normal 6)) {X : Cx} {W : WX} (J : InS c X W 16 ["word", "states", "book"] (defScope st_live)) (hC : Cold X) : VSs c X W (defBody st_live) f_live := by
  have I := J.toIn
  have n_word : Nm ["word", "states", "book"] (defScope st_live) 0 "word" := ⟨rfl, by decide +kernel, by decide, by decide⟩
  have n_states : Nm ["word", "states", "book"] (defScope st_live) 1 "states" := ⟨rfl, by decide +kernel, by decide, by decide⟩
  have n_book : Nm ["word", "states", "book"] (defScope st_live) 2 "book" := ⟨rfl, by decide +kernel, by decide, by decide⟩
  have q_keep_live : Gn (defScope st_live) "keep_live" := ⟨by decide +kernel, by decide⟩
  have q_normal : Gn (defScope st_live) "normal" := ⟨by decide +kernel, by decide⟩
  have K_keep_live : Callee c "keep_live" 16 3 g_keep_live := C_keep_live.mono (by decide)
  have K_normal : Callee c "normal" 16 2 (g_normal 6) := C_normal.mono (by decide)
  exact (vss_one (vs_ret (ve_call I hC q_keep_live K_keep_live (va_cons (ve_call I hC q_normal K_normal (va_cons (ve_var I n_word) (va_cons (ve_var I n_book) va_nil))) (va_cons (ve_var I n_states) (va_cons (ve_var I n_book) va_nil))))))
theorem c_live {c : Ctx} (T : Txt c) (C_keep_live : Callee c "keep_live" 4 3 g_keep_live) (C_normal : Callee c "normal" 16 2 (g_normal 6)) : Callee c "live" 17 3 g_live :=
  callee_def (N := ["word", "states", "book"]) T.F_live sc_live fun X W J hC => b_live T C_keep_live C_normal J hC
abbrev st_Book_cells : Stmt := (mthS 21 12)
theorem sc_Book_cells : FnScope ["self", "name"] ["self"] (defScope st_Book_cells) := ⟨rfl, rfl, rfl, by decide +kernel, rfl, by decide +kernel, by decide +kernel⟩
theorem b_Book_cells {c : Ctx} (T : Txt c) {X : Cx} {W : WX} (J : InS c X W 0 ["self", "name"] (defScope st_Book_cells)) (hC : Cold X) : VSs c X W (defBody st_Book_cells) f_Book_cells := by
  have I := J.toIn
  have n_self : Nm ["self", "name"] (defScope st_Book_cells) 0 "self" := ⟨rfl, by decide +kernel, by decide, by decide⟩
  have q_sorted : Gn (defScope st_Book_cells) "sorted" := ⟨by decide +kernel, by decide⟩
  have q_tuple : Gn (defScope st_Book_cells) "tuple" := ⟨by decide +kernel, by decide⟩
  exact (vss_one (vs_ret (ve_tuple I q_tuple T.m_tuple (va_cons (ve_lc I hC [("name", 1)] (vi_val I (ve_sorted I hC q_sorted T.m_sorted (va_cons (ve_fld I T.fl__sizes (ve_var I n_self)) va_nil))) (fun _ I hC => (vc_name I (by exact ⟨rfl, by decide +kernel, by decide, by decide, by decide⟩))) (fun _ I hC => vts_nil) (fun _ I hC => (ve_tup (va_cons (ve_varV I (by exact ⟨rfl, by decide +kernel, by decide, by decide⟩)) (va_cons (ve_gix I (ve_fld I T.fl__sizes (ve_varV I (by exact ⟨rfl, by decide +kernel, by decide, by decide⟩))) (ve_varV I (by exact ⟨rfl, by decide +kernel, by decide, by decide⟩))) va_nil)))) (by decide +kernel)) va_nil))))
theorem c_Book_cells {c : Ctx} (T : Txt c) : PCallee c 0 "cells" 1 g_Book_cells :=
  pcallee_def (N := ["self", "name"]) T.F_Book_cells sc_Book_cells fun X W J hC => b_Book_cells T  J hC
abbrev st_cell_names : Stmt := (topS 22)
theorem sc_cell_names : FnScope ["book", "name", "size"] ["book"] (defScope st_cell_names) := ⟨rfl, rfl, rfl, by decide +kernel, rfl, by decide +kernel, by decide +kernel⟩
theorem b_cell_names {c : Ctx} (T : Txt c) (C_Book_cells : PCallee c 0 "cells" 1 g_Book_cells) {X : Cx} {W : WX} (J : InS c X W 2 ["book", "name", "size"] (defScope st_cell_names)) (hC : Cold X) : VSs c X W (defBody st_cell_names) f_cell_names := by
  have I := J.toIn
  have n_book : Nm ["book", "name", "size"] (defScope st_cell_names) 0 "book" := ⟨rfl, by decide +kernel, by decide, by decide⟩
  have K_Book_cells : PCallee c 0 "cells" 1 g_Book_cells := C_Book_cells.mono (by decide)
  exact (vss_one (vs_ret (ve_lc I hC [("name", 1), ("size", 2)] (vi_val I (ve_prop I hC K_Book_cells (ve_var I n_book))) (fun _ I hC => (vc_tup I hC (vcs_cons I (by exact ⟨rfl, by decide +kernel, by decide, by decide, by decide⟩) (vcs_cons I (by exact ⟨rfl, by decide +kernel, by decide, by decide, by decide⟩) vcs_nil)))) (fun _ I hC => vts_nil) (fun _ I hC => (ve_varV I (by exact ⟨rfl, by decide +kernel, by decide, by decide⟩))) (by decide +kernel))))
theorem c_cell_names {c : Ctx} (T : Txt c) (C_Book_cells : PCallee c 0 "cells" 1 g_Book_cells) : Callee c "cell_names" 3 1 g_cell_names :=
  callee_def (N := ["book", "name", "size"]) T.F_cell_names sc_cell_names fun X W J hC => b_cell_names T C_Book_cells J hC
abbrev st_value_of : Stmt := (topS 25)
theorem sc_value_of : FnScope ["argument", "book", "store"] ["argument", "book", "store"] (defScope st_value_of) := ⟨rfl, rfl, rfl, by decide +kernel, rfl, by decide +kernel, by decide +kernel⟩
theorem b_value_of {c : Ctx} (T : Txt c) (C_cell_names : Callee c "cell_names" 3 1 g_cell_names) {X : Cx} {W : WX} (J : InS c X W 3 ["argument", "book", "store"] (defScope st_value_of)) (hC : Cold X) : VSs c X W (defBody st_value_of) f_value_of := by
  have I := J.toIn
  have n_argument : Nm ["argument", "book", "store"] (defScope st_value_of) 0 "argument" := ⟨rfl, by decide +kernel, by decide, by decide⟩
  have n_book : Nm ["argument", "book", "store"] (defScope st_value_of) 1 "book" := ⟨rfl, by decide +kernel, by decide, by decide⟩
  have n_store : Nm ["argument", "book", "store"] (defScope st_value_of) 2 "store" := ⟨rfl, by decide +kernel, by decide, by decide⟩
  have q_cell_names : Gn (defScope st_value_of) "cell_names" := ⟨by decide +kernel, by decide⟩
  have q_isinstance : Gn (defScope st_value_of) "isinstance" := ⟨by decide +kernel, by decide⟩
  have q_tuple : Gn (defScope st_value_of) "tuple" := ⟨by decide +kernel, by decide⟩
  have K_cell_names : Callee c "cell_names" 3 1 g_cell_names := C_cell_names.mono (by decide)
  exact (vss_cons (vs_if (vt_val (ve_isi I q_isinstance T.m_isinstance (va_cons (ve_var I n_argument) (va_cons (ve_bty I q_tuple T.m_tuple PyProof.Rows.boot_tuple) va_nil)))) (vss_one (vs_ret (ve_ix I (ve_var I n_store) (ve_index I (ve_call I hC q_cell_names K_cell_names (va_cons (ve_var I n_book) va_nil)) (va_cons (ve_ix I (ve_var I n_argument) ve_int) va_nil))))) vss_nil)
 (vss_one (vs_ret (ve_var I n_argument))))
theorem c_value_of {c : Ctx} (T : Txt c) (C_cell_names : Callee c "cell_names" 3 1 g_cell_names) : Callee c "value_of" 4 3 g_value_of :=
  callee_def (N := ["argument", "book", "store"]) T.F_value_of sc_value_of fun X W J hC => b_value_of T C_cell_names J hC
abbrev st_told : Stmt := (topS 26)
def f_told (G : List D → DM → Rs D) : FS :=
 (sSeq (sAsg (eVar 0) (gTupN [3, 4, 5, 6]))
 (sSeq (sSet 7 (eCall tupleD (aCons (eLc [8] (iV (eVar 6)) (cNm 8) tYesD (eCall G (aCons (eVar 8) (aCons (eVar 1) (aCons (eVar 2) aNil))))) aNil)))
 (sRet (eTup (aCons (eVar 3) (aCons (eVar 4) (aCons (eCall g_value_of (aCons (eVar 5) (aCons (eVar 1) (aCons (eVar 2) aNil)))) (aCons (eVar 7) aNil))))))))
def g_told : Nat → List D → DM → Rs D
  | 0 => fun _ _ => .bad
  | n + 1 => fnD 9 (f_told (g_told n))
theorem sc_told : FnScope ["action", "book", "store", "guard", "step", "argument", "further", "inner", "one"] ["action", "book", "store"] (defScope st_told) := ⟨rfl, rfl, rfl, by decide +kernel, rfl, by decide +kernel, by decide +kernel⟩
theorem b_told {c : Ctx} (T : Txt c) (C_value_of : Callee c "value_of" 4 3 g_value_of) {n : Nat} {G : List D → DM → Rs D} (R_told : Callee c "told" (n + 4) 3 G) {X : Cx} {W : WX} (J : InS c X W (n + 4) ["action", "book", "store", "guard", "step", "argument", "further", "inner", "one"] (defScope st_told)) (hC : Cold X) : VSs c X W (defBody st_told) (f_told G) := by
  have I := J.toIn
  have n_action : Nm ["action", "book", "store", "guard", "step", "argument", "further", "inner", "one"] (defScope st_told) 0 "action" := ⟨rfl, by decide +kernel, by decide, by decide⟩
  have n_book : Nm ["action", "book", "store", "guard", "step", "argument", "further", "inner", "one"] (defScope st_told) 1 "book" := ⟨rfl, by decide +kernel, by decide, by decide⟩
  have n_store : Nm ["action", "book", "store", "guard", "step", "argument", "further", "inner", "one"] (defScope st_told) 2 "store" := ⟨rfl, by decide +kernel, by decide, by decide⟩
  have n_guard : Nm ["action", "book", "store", "guard", "step", "argument", "further", "inner", "one"] (defScope st_told) 3 "guard" := ⟨rfl, by decide +kernel, by decide, by decide⟩
  have n_step : Nm ["action", "book", "store", "guard", "step", "argument", "further", "inner", "one"] (defScope st_told) 4 "step" := ⟨rfl, by decide +kernel, by decide, by decide⟩
  have n_argument : Nm ["action", "book", "store", "guard", "step", "argument", "further", "inner", "one"] (defScope st_told) 5 "argument" := ⟨rfl, by decide +kernel, by decide, by decide⟩
  have n_further : Nm ["action", "book", "store", "guard", "step", "argument", "further", "inner", "one"] (defScope st_told) 6 "further" := ⟨rfl, by decide +kernel, by decide, by decide⟩
  have n_inner : Nm ["action", "book", "store", "guard", "step", "argument", "further", "inner", "one"] (defScope st_told) 7 "inner" := ⟨rfl, by decide +kernel, by decide, by decide⟩
  have q_tuple : Gn (defScope st_told) "tuple" := ⟨by decide +kernel, by decide⟩
  have q_value_of : Gn (defScope st_told) "value_of" := ⟨by decide +kernel, by decide⟩
  have K_value_of : Callee c "value_of" (n + 4) 3 g_value_of := C_value_of.mono (by omega)
  have K_told : Callee c "told" (n + 4) 3 G := R_told.mono (by omega)
  exact (vss_cons (vs_asg (ve_var I n_action) (vg_tup J hC (vgs_cons J n_guard (vgs_cons J n_step (vgs_cons J n_argument (vgs_cons J n_further vgs_nil))))))
 (vss_cons (vs_set J n_inner (ve_tuple I q_tuple T.m_tuple (va_cons (ve_lc I hC [("one", 8)] (vi_val I (ve_var I n_further)) (fun _ I hC => (vc_name I (by exact ⟨rfl, by decide +kernel, by decide, by decide, by decide⟩))) (fun _ I hC => vts_nil) (fun _ I hC => (ve_call I hC (by exact ⟨by decide +kernel, by decide⟩) K_told (va_cons (ve_varV I (by exact ⟨rfl, by decide +kernel, by decide, by decide⟩)) (va_cons (ve_varV I (by exact ⟨rfl, by decide +kernel, by decide, by decide⟩)) (va_cons (ve_varV I (by exact ⟨rfl, by decide +kernel, by decide, by decide⟩)) va_nil))))) (by decide +kernel)) va_nil)))
 (vss_one (vs_ret (ve_tup (va_cons (ve_var I n_guard) (va_cons (ve_var I n_step) (va_cons (ve_call I hC q_value_of K_value_of (va_cons (ve_var I n_argument) (va_cons (ve_var I n_book) (va_cons (ve_var I n_store) va_nil)))) (va_cons (ve_var I n_inner) va_nil)))))))))
theorem c_told {c : Ctx} (T : Txt c) (C_value_of : Callee c "value_of" 4 3 g_value_of) : ∀ n : Nat, Callee c "told" (n + 4) 3 (g_told n)
  | 0 => callee_zero T.F_told _ _
  | n + 1 => (callee_def (k := (n + 4)) (N := ["action", "book", "store", "guard", "step", "argument", "further", "inner", "one"]) T.F_told sc_told fun X W J hC => b_told T C_value_of (c_told T C_value_of n) J hC).mono (by omega)
abbrev st_state : Stmt := (topS 30)
def f_state : FS :=
 (sSeq (sIf (tb (e2 eqD (e2 ixD (eVar 0) (eC (D.int 0))) (eC (D.str "raise"))))
  (sRet (eC (D.str "error")))
  sNil)
 (sRet (eC (D.str "done"))))
def g_state : List D → DM → Rs D := fnD 1 f_state
theorem sc_state : FnScope ["pending"] ["pending"] (defScope st_state) := ⟨rfl, rfl, rfl, by decide +kernel, rfl, by decide +kernel, by decide +kernel⟩
theorem b_state {c : Ctx} (T : Txt c) {X : Cx} {W : WX} (J : InS c X W 0 ["pending"] (defScope st_state)) (hC : Cold X) : VSs c X W (defBody st_state) f_state := by
  have I := J.toIn
  have n_pending : Nm ["pending"] (defScope st_state) 0 "pending" := ⟨rfl, by decide +kernel, by decide, by decide⟩
  have q_DONE : Gn (defScope st_state) "DONE" := ⟨by decide +kernel, by decide⟩
  have q_ERROR : Gn (defScope st_state) "ERROR" := ⟨by decide +kernel, by decide⟩
  exact (vss_cons (vs_if (vt_eq I (ve_ix I (ve_var I n_pending) ve_int) ve_str) (vss_one (vs_ret (ve_glob I q_ERROR T.G_ERROR))) vss_nil)
 (vss_one (vs_ret (ve_glob I q_DONE T.G_DONE))))
theorem c_state {c : Ctx} (T : Txt c) : Callee c "state" 1 1 g_state :=
  callee_def (N := ["pending"]) T.F_state sc_state fun X W J hC => b_state T  J hC
abbrev st_agenda : Stmt := (topS 40)
def f_agenda : FS :=
 (sSeq (sAsg (eVar 1) (gTupN [3, 4]))
 (sRet (eCall g_live (aCons (eLc [5] (iV (eVar 0)) (cNm 5) tYesD (eCall (g_told 6) (aCons (eVar 5) (aCons (eVar 2) (aCons (eVar 4) aNil))))) (aCons (eTup (aCons (eCall g_state (aCons (eVar 3) aNil)) aNil)) (aCons (eVar 2) aNil))))))
def g_agenda : List D → DM → Rs D := fnD 6 f_agenda
theorem sc_agenda : FnScope ["word", "leaving", "book", "pending", "store", "action"] ["word", "leaving", "book"] (defScope st_agenda) := ⟨rfl, rfl, rfl, by decide +kernel, rfl, by decide +kernel, by decide +kernel⟩
theorem b_agenda {c : Ctx} (T : Txt c) (C_live : Callee c "live" 17 3 g_live) (C_told : Callee c "told" 10 3 (g_told 6)) (C_state : Callee c "state" 1 1 g_state) {X : Cx} {W : WX} (J : InS c X W 17 ["word", "leaving", "book", "pending", "store", "action"] (defScope st_agenda)) (hC : Cold X) : VSs c X W (defBody st_agenda) f_agenda := by
  have I := J.toIn
  have n_word : Nm ["word", "leaving", "book", "pending", "store", "action"] (defScope st_agenda) 0 "word" := ⟨rfl, by decide +kernel, by decide, by decide⟩
  have n_leaving : Nm ["word", "leaving", "book", "pending", "store", "action"] (defScope st_agenda) 1 "leaving" := ⟨rfl, by decide +kernel, by decide, by decide⟩
  have n_book : Nm ["word", "leaving", "book", "pending", "store", "action"] (defScope st_agenda) 2 "book" := ⟨rfl, by decide +kernel, by decide, by decide⟩
  have n_pending : Nm ["word", "leaving", "book", "pending", "store", "action"] (defScope st_agenda) 3 "pending" := ⟨rfl, by decide +kernel, by decide, by decide⟩
  have n_store : Nm ["word", "leaving", "book", "pending", "store", "action"] (defScope st_agenda) 4 "store" := ⟨rfl, by decide +kernel, by decide, by decide⟩
  have q_live : Gn (defScope st_agenda) "live" := ⟨by decide +kernel, by decide⟩
  have q_state : Gn (defScope st_agenda) "state" := ⟨by decide +kernel, by decide⟩
  have K_live : Callee c "live" 17 3 g_live := C_live.mono (by decide)
  have K_told : Callee c "told" 17 3 (g_told 6) := C_told.mono (by decide)
  have K_state : Callee c "state" 17 1 g_state := C_state.mono (by decide)
  exact (vss_cons (vs_asg (ve_var I n_leaving) (vg_tup J hC (vgs_cons J n_pending (vgs_cons J n_store vgs_nil))))
 (vss_one (vs_ret (ve_call I hC q_live K_live (va_cons (ve_lc I hC [("action", 5)] (vi_val I (ve_var I n_word)) (fun _ I hC => (vc_name I (by exact ⟨rfl, by decide +kernel, by decide, by decide, by decide⟩))) (fun _ I hC => vts_nil) (fun _ I hC => (ve_call I hC (by exact ⟨by decide +kernel, by decide⟩) K_told (va_cons (ve_varV I (by exact ⟨rfl, by decide +kernel, by decide, by decide⟩)) (va_cons (ve_varV I (by exact ⟨rfl, by decide +kernel, by decide, by decide⟩)) (va_cons (ve_varV I (by exact ⟨rfl, by decide +kernel, by decide, by decide⟩)) va_nil))))) (by decide +kernel)) (va_cons (ve_tup (va_cons (ve_call I hC q_state K_state (va_cons (ve_var I n_pending) va_nil)) va_nil)) (va_cons (ve_var I n_book) va_nil)))))))
theorem c_agenda {c : Ctx} (T : Txt c) (C_live : Callee c "live" 17 3 g_live) (C_told : Callee c "told" 10 3 (g_told 6)) (C_state : Callee c "state" 1 1 g_state) : Callee c "agenda" 18 3 g_agenda :=
  callee_def (N := ["word", "leaving", "book", "pending", "store", "action"]) T.F_agenda sc_agenda fun X W J hC => b_agenda T C_live C_told C_state J hC
abbrev st_law_halved : Stmt := (topS 63)
def f_law_halved (G : List D → DM → Rs D) : FS :=
 (sSeq (sIf (tNotF (tb (eCall isiD (aCons (eVar 1) (aCons (eC (D.ty "tuple")) aNil)))))
  (sRet (eC (D.bl false)))
  sNil)
 (sSeq (sFor (fun _ _ => 0) (eVar 1) (gNm 2)
  (sSeq (sIf (tOrF (tNotF (tb (eCall isiD (aCons (eVar 2) (aCons (eC (D.ty "tuple")) aNil))))) (tOrF (tb (e2 neD (eCall lenD (aCons (eVar 2) aNil)) (eC (D.int 4)))) (tOrF (tb (e2 ninSeqD (e2 ixD (eVar 2) (eC (D.int 0))) (eTup (aCons (eC (D.str "done")) (aCons (eC (D.str "error")) aNil))))) (tb (e2 ninD (e2 ixD (eVar 2) (eC (D.int 1))) (eVar 0))))))
  (sRet (eC (D.bl false)))
  sNil)
 (sSeq (sIf (tAndF (tb (e2 isnN (e2 ixD (eVar 2) (eC (D.int 2))) (eC D.non))) (tOrF (tNotF (tb (eCall isiD (aCons (e2 ixD (eVar 2) (eC (D.int 2))) (aCons (eC (D.ty "int")) aNil))))) (tb (eCall isiD (aCons (e2 ixD (eVar 2) (eC (D.int 2))) (aCons (eC (D.ty "bool")) aNil))))))
  (sRet (eC (D.bl false)))
  sNil)
 (sSeq (sIf (tAndF (tb (e2 isnN (e2 ixD (eVar 2) (eC (D.int 2))) (eC D.non))) (tOrF (tb (e2 ltD (e2 ixD (eVar 2) (eC (D.int 2))) (eC (D.int 0)))) (tb (e2 gtD (e2 ixD (eVar 2) (eC (D.int 2))) (eC (D.int 999))))))
  (sRet (eC (D.bl false)))
  sNil)
 (sIf (tOrF (tNotF (tb (eCall G (aCons (eVar 0) (aCons (e2 ixD (eVar 2) (eC (D.int 3))) aNil))))) (tAndF (tb (e2 eqD (e2 ixD (eVar 2) (eC (D.int 0))) (eC (D.str "error")))) (tb (e2 gtD (eCall lenD (aCons (e2 ixD (eVar 2) (eC (D.int 3))) aNil)) (eC (D.int 0))))))
  (sRet (eC (D.bl false)))
  sNil)))))
 (sRet (eC (D.bl true)))))
def g_law_halved : Nat → List D → DM → Rs D
  | 0 => fun _ _ => .bad
  | n + 1 => fnD 3 (f_law_halved (g_law_halved n))
theorem sc_law_halved : FnScope ["names", "word", "half"] ["names", "word"] (defScope st_law_halved) := ⟨rfl, rfl, rfl, by decide +kernel, rfl, by decide +kernel, by decide +kernel⟩
theorem b_law_halved {c : Ctx} (T : Txt c) {n : Nat} {G : List D → DM → Rs D} (R_law_halved : Callee c "_law_halved" (n + 0) 2 G) {X : Cx} {W : WX} (J : InS c X W (n + 0) ["names", "word", "half"] (defScope st_law_halved)) (hC : Cold X) : VSs c X W (defBody st_law_halved) (f_law_halved G) := by
  have I := J.toIn
  have n_names : Nm ["names", "word", "half"] (defScope st_law_halved) 0 "names" := ⟨rfl, by decide +kernel, by decide, by decide⟩
  have n_word : Nm ["names", "word", "half"] (defScope st_law_halved) 1 "word" := ⟨rfl, by decide +kernel, by decide, by decide⟩
  have n_half : Nm ["names", "word", "half"] (defScope st_law_halved) 2 "half" := ⟨rfl, by decide +kernel, by decide, by decide⟩
  have q__law_halved : Gn (defScope st_law_halved) "_law_halved" := ⟨by decide +kernel, by decide⟩
  have q_bool : Gn (defScope st_law_halved) "bool" := ⟨by decide +kernel, by decide⟩
  have q_int : Gn (defScope st_law_halved) "int" := ⟨by decide +kernel, by decide⟩
  have q_isinstance : Gn (defScope st_law_halved) "isinstance" := ⟨by decide +kernel, by decide⟩
  have q_len : Gn (defScope st_law_halved) "len" := ⟨by decide +kernel, by decide⟩
  have q_tuple : Gn (defScope st_law_halved) "tuple" := ⟨by decide +kernel, by decide⟩
  have K_law_halved : Callee c "_law_halved" (n + 0) 2 G := R_law_halved.mono (by omega)
  exact (vss_cons (vs_if (vt_not (vt_val (ve_isi I q_isinstance T.m_isinstance (va_cons (ve_var I n_word) (va_cons (ve_bty I q_tuple T.m_tuple PyProof.Rows.boot_tuple) va_nil))))) (vss_one (vs_ret ve_bl)) vss_nil)
 (vss_cons (vs_for J hC (fun _ _ => 0) (ve_var I n_word) (vg_name J n_half) (vss_cons (vs_if (VW.vt (vw_or (vt_not (vt_val (ve_isi I q_isinstance T.m_isinstance (va_cons (ve_var I n_half) (va_cons (ve_bty I q_tuple T.m_tuple PyProof.Rows.boot_tuple) va_nil))))) (vw_or (vt_ne I (ve_len I q_len T.m_len (va_cons (ve_var I n_half) va_nil)) ve_int) (vw_or (vt_ninSeq I (ve_ix I (ve_var I n_half) ve_int) (ve_tup (va_cons ve_str (va_cons ve_str va_nil)))) (vw_or1 (vt_nin I (ve_ix I (ve_var I n_half) ve_int) (ve_var I n_names))))))) (vss_one (vs_ret ve_bl)) vss_nil)
 (vss_cons (vs_if (VW.vt (vw_and (vt_isnN (ve_ix I (ve_var I n_half) ve_int) ve_non) (vw_and1 (VW.vt (vw_or (vt_not (vt_val (ve_isi I q_isinstance T.m_isinstance (va_cons (ve_ix I (ve_var I n_half) ve_int) (va_cons (ve_bty I q_int T.m_int PyProof.Rows.boot_int) va_nil))))) (vw_or1 (vt_val (ve_isi I q_isinstance T.m_isinstance (va_cons (ve_ix I (ve_var I n_half) ve_int) (va_cons (ve_bty I q_bool T.m_bool PyProof.Rows.boot_bool) va_nil)))))))))) (vss_one (vs_ret ve_bl)) vss_nil)
 (vss_cons (vs_if (VW.vt (vw_and (vt_isnN (ve_ix I (ve_var I n_half) ve_int) ve_non) (vw_and1 (VW.vt (vw_or (vt_lt (ve_ix I (ve_var I n_half) ve_int) ve_int) (vw_or1 (vt_gt (ve_ix I (ve_var I n_half) ve_int) ve_int))))))) (vss_one (vs_ret ve_bl)) vss_nil)
 (vss_one (vs_if (VW.vt (vw_or (vt_not (vt_val (ve_call I hC q__law_halved K_law_halved (va_cons (ve_var I n_names) (va_cons (ve_ix I (ve_var I n_half) ve_int) va_nil))))) (vw_or1 (VW.vt (vw_and (vt_eq I (ve_ix I (ve_var I n_half) ve_int) ve_str) (vw_and1 (vt_gt (ve_len I q_len T.m_len (va_cons (ve_ix I (ve_var I n_half) ve_int) va_nil)) ve_int))))))) (vss_one (vs_ret ve_bl)) vss_nil))))))
 (vss_one (vs_ret ve_bl))))
theorem c_law_halved {c : Ctx} (T : Txt c) : ∀ n : Nat, Callee c "_law_halved" (n + 0) 2 (g_law_halved n)
  | 0 => callee_zero T.F_law_halved _ _
  | n + 1 => (callee_def (k := (n + 0)) (N := ["names", "word", "half"]) T.F_law_halved sc_law_halved fun X W J hC => b_law_halved T  (c_law_halved T  n) J hC).mono (by omega)
abbrev st_law_same : Stmt := (topS 60)
theorem sc_law_same : FnScope ["actual", "expected", "k"] ["actual", "expected"] (defScope st_law_same) := ⟨rfl, rfl, rfl, by decide +kernel, rfl, by decide +kernel, by decide +kernel⟩
theorem b_law_same {c : Ctx} (T : Txt c) {n : Nat} {G : List D → DM → Rs D} (R_law_same : Callee c "_law_same" (n + 0) 2 G) {X : Cx} {W : WX} (J : InS c X W (n + 0) ["actual", "expected", "k"] (defScope st_law_same)) (hC : Cold X) : VSs c X W (defBody st_law_same) (f_law_same G) := by
  have I := J.toIn
  have n_actual : Nm ["actual", "expected", "k"] (defScope st_law_same) 0 "actual" := ⟨rfl, by decide +kernel, by decide, by decide⟩
  have n_expected : Nm ["actual", "expected", "k"] (defScope st_law_same) 1 "expected" := ⟨rfl, by decide +kernel, by decide, by decide⟩
  have n_k : Nm ["actual", "expected", "k"] (defScope st_law_same) 2 "k" := ⟨rfl, by decide +kernel, by decide, by decide⟩
  have q__law_same : Gn (defScope st_law_same) "_law_same" := ⟨by decide +kernel, by decide⟩
  have q_bool : Gn (defScope st_law_same) "bool" := ⟨by decide +kernel, by decide⟩
  have q_int : Gn (defScope st_law_same) "int" := ⟨by decide +kernel, by decide⟩
  have q_isinstance : Gn (defScope st_law_same) "isinstance" := ⟨by decide +kernel, by decide⟩
  have q_len : Gn (defScope st_law_same) "len" := ⟨by decide +kernel, by decide⟩
  have q_list : Gn (defScope st_law_same) "list" := ⟨by decide +kernel, by decide⟩
  have q_range : Gn (defScope st_law_same) "range" := ⟨by decide +kernel, by decide⟩
  have q_str : Gn (defScope st_law_same) "str" := ⟨by decide +kernel, by decide⟩
  have q_tuple : Gn (defScope st_law_same) "tuple" := ⟨by decide +kernel, by decide⟩
  have K_law_same : Callee c "_law_same" (n + 0) 2 G := R_law_same.mono (by omega)
  exact (vss_cons (vs_if (vt_isN (ve_var I n_expected) ve_non) (vss_one (vs_ret (ve_isN (ve_var I n_actual) ve_non))) vss_nil)
 (vss_cons (vs_if (vt_val (ve_isi I q_isinstance T.m_isinstance (va_cons (ve_var I n_expected) (va_cons (ve_bty I q_bool T.m_bool PyProof.Rows.boot_bool) va_nil)))) (vss_one (vs_ret (ve_and (ve_isi I q_isinstance T.m_isinstance (va_cons (ve_var I n_actual) (va_cons (ve_bty I q_bool T.m_bool PyProof.Rows.boot_bool) va_nil))) (ve_one (ve_eq I (ve_var I n_actual) (ve_var I n_expected)))))) vss_nil)
 (vss_cons (vs_if (vt_val (ve_isi I q_isinstance T.m_isinstance (va_cons (ve_var I n_expected) (va_cons (ve_bty I q_int T.m_int PyProof.Rows.boot_int) va_nil)))) (vss_one (vs_ret (ve_and (ve_isi I q_isinstance T.m_isinstance (va_cons (ve_var I n_actual) (va_cons (ve_bty I q_int T.m_int PyProof.Rows.boot_int) va_nil))) (ve_and (ve_not (ve_isi I q_isinstance T.m_isinstance (va_cons (ve_var I n_actual) (va_cons (ve_bty I q_bool T.m_bool PyProof.Rows.boot_bool) va_nil)))) (ve_one (ve_eq I (ve_var I n_actual) (ve_var I n_expected))))))) vss_nil)
 (vss_cons (vs_if (vt_val (ve_isi I q_isinstance T.m_isinstance (va_cons (ve_var I n_expected) (va_cons (ve_bty I q_str T.m_str PyProof.Rows.boot_str) va_nil)))) (vss_one (vs_ret (ve_and (ve_isi I q_isinstance T.m_isinstance (va_cons (ve_var I n_actual) (va_cons (ve_bty I q_str T.m_str PyProof.Rows.boot_str) va_nil))) (ve_one (ve_eq I (ve_var I n_actual) (ve_var I n_expected)))))) vss_nil)
 (vss_cons (vs_if (VW.vt (vw_and (vt_val (ve_isi I q_isinstance T.m_isinstance (va_cons (ve_var I n_expected) (va_cons (ve_bty I q_tuple T.m_tuple PyProof.Rows.boot_tuple) va_nil)))) (vw_and1 (vt_not (vt_val (ve_isi I q_isinstance T.m_isinstance (va_cons (ve_var I n_actual) (va_cons (ve_bty I q_tuple T.m_tuple PyProof.Rows.boot_tuple) va_nil)))))))) (vss_one (vs_ret ve_bl)) vss_nil)
 (vss_cons (vs_if (VW.vt (vw_and (vt_val (ve_isi I q_isinstance T.m_isinstance (va_cons (ve_var I n_expected) (va_cons (ve_bty I q_list T.m_list PyProof.Rows.boot_list) va_nil)))) (vw_and1 (vt_not (vt_val (ve_isi I q_isinstance T.m_isinstance (va_cons (ve_var I n_actual) (va_cons (ve_bty I q_list T.m_list PyProof.Rows.boot_list) va_nil)))))))) (vss_one (vs_ret ve_bl)) vss_nil)
 (vss_cons (vs_if (vt_ne I (ve_len I q_len T.m_len (va_cons (ve_var I n_actual) va_nil)) (ve_len I q_len T.m_len (va_cons (ve_var I n_expected) va_nil))) (vss_one (vs_ret ve_bl)) vss_nil)
 (vss_cons (vs_forR J hC q_range T.m_range (ve_len I q_len T.m_len (va_cons (ve_var I n_expected) va_nil)) (vg_name J n_k) (vss_one (vs_if (vt_not (vt_val (ve_call I hC q__law_same K_law_same (va_cons (ve_ix I (ve_var I n_actual) (ve_var I n_k)) (va_cons (ve_ix I (ve_var I n_expected) (ve_var I n_k)) va_nil))))) (vss_one (vs_ret ve_bl)) vss_nil)))
 (vss_one (vs_ret ve_bl))))))))))
theorem c_law_same {c : Ctx} (T : Txt c) : ∀ n : Nat, Callee c "_law_same" (n + 0) 2 (g_law_same n)
  | 0 => callee_zero T.F_law_same _ _
  | n + 1 => (callee_def (k := (n + 0)) (N := ["actual", "expected", "k"]) T.F_law_same sc_law_same fun X W J hC => b_law_same T  (c_law_same T  n) J hC).mono (by omega)
abbrev st_law_top : Stmt := (topS 68)
def f_law_top : FS :=
 (sSeq (sWhile (fun _ _ => 1000) (tAndF (tb (e2 gtD (eCall lenD (aCons (eVar 0) aNil)) (eC (D.int 0)))) (tb (e2 neD (e2 ixD (e2 ixD (eVar 0) (e2 subD (eCall lenD (aCons (eVar 0) aNil)) (eC (D.int 1)))) (eC (D.int 0))) (eVar 1))))
  (sSet 0 (eSl (eVar 0) oN (oS (e1 negD (eC (D.int 1)))))))
 (sRet (eVar 0)))
def g_law_top : List D → DM → Rs D := fnD 2 f_law_top
theorem sc_law_top : FnScope ["pile", "one"] ["pile", "one"] (defScope st_law_top) := ⟨rfl, rfl, rfl, by decide +kernel, rfl, by decide +kernel, by decide +kernel⟩
theorem b_law_top {c : Ctx} (T : Txt c) {X : Cx} {W : WX} (J : InS c X W 0 ["pile", "one"] (defScope st_law_top)) (hC : Cold X) : VSs c X W (defBody st_law_top) f_law_top := by
  have I := J.toIn
  have n_pile : Nm ["pile", "one"] (defScope st_law_top) 0 "pile" := ⟨rfl, by decide +kernel, by decide, by decide⟩
  have n_one : Nm ["pile", "one"] (defScope st_law_top) 1 "one" := ⟨rfl, by decide +kernel, by decide, by decide⟩
  have q_len : Gn (defScope st_law_top) "len" := ⟨by decide +kernel, by decide⟩
  exact (vss_cons (vs_while J (fun _ _ => 1000) (VW.vt (vw_and (vt_gt (ve_len I q_len T.m_len (va_cons (ve_var I n_pile) va_nil)) ve_int) (vw_and1 (vt_ne I (ve_ix I (ve_ix I (ve_var I n_pile) (ve_sub (ve_len I q_len T.m_len (va_cons (ve_var I n_pile) va_nil)) ve_int)) ve_int) (ve_var I n_one))))) (vss_one (vs_set J n_pile (ve_slice I (ve_var I n_pile) vo_none (vo_some (ve_neg ve_int))))))
 (vss_one (vs_ret (ve_var I n_pile))))
theorem c_law_top {c : Ctx} (T : Txt c) : Callee c "_law_top" 1 2 g_law_top :=
  callee_def (N := ["pile", "one"]) T.F_law_top sc_law_top fun X W J hC => b_law_top T  J hC
abbrev st_law_value : Stmt := (topS 55)
theorem sc_law_value : FnScope ["argument", "cells", "store", "k"] ["argument", "cells", "store"] (defScope st_law_value) := ⟨rfl, rfl, rfl, by decide +kernel, rfl, by decide +kernel, by decide +kernel⟩
theorem b_law_value {c : Ctx} (T : Txt c) {X : Cx} {W : WX} (J : InS c X W 0 ["argument", "cells", "store", "k"] (defScope st_law_value)) (hC : Cold X) : VSs c X W (defBody st_law_value) f_law_value := by
  have I := J.toIn
  have n_argument : Nm ["argument", "cells", "store", "k"] (defScope st_law_value) 0 "argument" := ⟨rfl, by decide +kernel, by decide, by decide⟩
  have n_cells : Nm ["argument", "cells", "store", "k"] (defScope st_law_value) 1 "cells" := ⟨rfl, by decide +kernel, by decide, by decide⟩
  have n_store : Nm ["argument", "cells", "store", "k"] (defScope st_law_value) 2 "store" := ⟨rfl, by decide +kernel, by decide, by decide⟩
  have n_k : Nm ["argument", "cells", "store", "k"] (defScope st_law_value) 3 "k" := ⟨rfl, by decide +kernel, by decide, by decide⟩
  have q_isinstance : Gn (defScope st_law_value) "isinstance" := ⟨by decide +kernel, by decide⟩
  have q_len : Gn (defScope st_law_value) "len" := ⟨by decide +kernel, by decide⟩
  have q_range : Gn (defScope st_law_value) "range" := ⟨by decide +kernel, by decide⟩
  have q_tuple : Gn (defScope st_law_value) "tuple" := ⟨by decide +kernel, by decide⟩
  exact (vss_cons (vs_if (vt_val (ve_isi I q_isinstance T.m_isinstance (va_cons (ve_var I n_argument) (va_cons (ve_bty I q_tuple T.m_tuple PyProof.Rows.boot_tuple) va_nil)))) (vss_one (vs_forR J hC q_range T.m_range (ve_len I q_len T.m_len (va_cons (ve_var I n_cells) va_nil)) (vg_name J n_k) (vss_one (vs_if (vt_eq I (ve_ix I (ve_ix I (ve_var I n_cells) (ve_var I n_k)) ve_int) (ve_ix I (ve_var I n_argument) ve_int)) (vss_one (vs_ret (ve_ix I (ve_var I n_store) (ve_var I n_k)))) vss_nil)))) vss_nil)
 (vss_one (vs_ret (ve_var I n_argument))))
theorem c_law_value {c : Ctx} (T : Txt c) : Callee c "_law_value" 1 3 g_law_value :=
  callee_def (N := ["argument", "cells", "store", "k"]) T.F_law_value sc_law_value fun X W J hC => b_law_value T  J hC
abbrev st_law_halves : Stmt := (topS 56)
theorem sc_law_halves : FnScope ["action"] ["action"] (defScope st_law_halves) := ⟨rfl, rfl, rfl, by decide +kernel, rfl, by decide +kernel, by decide +kernel⟩
theorem b_law_halves {c : Ctx} (T : Txt c) {X : Cx} {W : WX} (J : InS c X W 0 ["action"] (defScope st_law_halves)) (hC : Cold X) : VSs c X W (defBody st_law_halves) f_law_halves := by
  have I := J.toIn
  have n_action : Nm ["action"] (defScope st_law_halves) 0 "action" := ⟨rfl, by decide +kernel, by decide, by decide⟩
  exact (vss_cons (vs_if (vt_ne I (ve_ix I (ve_var I n_action) ve_int) ve_str) (vss_one (vs_ret (ve_lst (va_cons (ve_var I n_action) va_nil)))) vss_nil)
 (vss_one (vs_ret (ve_lst (va_cons (ve_tup (va_cons ve_str (va_cons (ve_ix I (ve_var I n_action) ve_int) (va_cons (ve_ix I (ve_var I n_action) ve_int) (va_cons (ve_ix I (ve_var I n_action) ve_int) va_nil))))) (va_cons (ve_tup (va_cons ve_str (va_cons (ve_ix I (ve_var I n_action) ve_int) (va_cons (ve_ix I (ve_var I n_action) ve_int) (va_cons (ve_tup va_nil) va_nil))))) va_nil))))))
theorem c_law_halves {c : Ctx} (T : Txt c) : Callee c "_law_halves" 1 1 g_law_halves :=
  callee_def (N := ["action"]) T.F_law_halves sc_law_halves fun X W J hC => b_law_halves T  J hC
abbrev st_law_split : Stmt := (topS 59)
theorem sc_law_split : FnScope ["word", "rows", "action"] ["word"] (defScope st_law_split) := ⟨rfl, rfl, rfl, by decide +kernel, rfl, by decide +kernel, by decide +kernel⟩
theorem b_law_split {c : Ctx} (T : Txt c) (C_law_halves : Callee c "_law_halves" 1 1 g_law_halves) {X : Cx} {W : WX} (J : InS c X W 1 ["word", "rows", "action"] (defScope st_law_split)) (hC : Cold X) : VSs c X W (defBody st_law_split) f_law_split := by
  have I := J.toIn
  have n_word : Nm ["word", "rows", "action"] (defScope st_law_split) 0 "word" := ⟨rfl, by decide +kernel, by decide, by decide⟩
  have n_rows : Nm ["word", "rows", "action"] (defScope st_law_split) 1 "rows" := ⟨rfl, by decide +kernel, by decide, by decide⟩
  have n_action : Nm ["word", "rows", "action"] (defScope st_law_split) 2 "action" := ⟨rfl, by decide +kernel, by decide, by decide⟩
  have q__law_halves : Gn (defScope st_law_split) "_law_halves" := ⟨by decide +kernel, by decide⟩
  have K_law_halves : Callee c "_law_halves" 1 1 g_law_halves := C_law_halves.mono (by decide)
  exact (vss_cons (vs_set J n_rows (ve_lst va_nil))
 (vss_cons (vs_for J hC (fun _ _ => 0) (ve_var I n_word) (vg_name J n_action) (vss_one (vs_set J n_rows (ve_add I (ve_var I n_rows) (ve_call I hC q__law_halves K_law_halves (va_cons (ve_var I n_action) va_nil))))))
 (vss_one (vs_ret (ve_var I n_rows)))))
theorem c_law_split {c : Ctx} (T : Txt c) (C_law_halves : Callee c "_law_halves" 1 1 g_law_halves) : Callee c "_law_split" 2 1 g_law_split :=
  callee_def (N := ["word", "rows", "action"]) T.F_law_split sc_law_split fun X W J hC => b_law_split T C_law_halves J hC
abbrev st_law_after : Stmt := (topS 58)
def f_law_after : FS :=
 (sSeq (sIf (tb (e2 eqD (eVar 4) (eC (D.int 0))))
  (sRet (eTup (aCons (eC (D.str "raise")) (aCons (eVar 1) aNil))))
  sNil)
 (sSeq (sIf (tb (e2 eqD (e2 ixD (eVar 2) (eC (D.int 0))) (eC (D.str "jump"))))
  (sRet (eTup (aCons (eC (D.str "leave")) (aCons (e2 ixD (eVar 2) (eC (D.int 1))) aNil))))
  sNil)
 (sSeq (sIf (tOrF (tAndF (tb (e2 eqD (e2 ixD (eVar 2) (eC (D.int 0))) (eC (D.str "answer")))) (tb (e2 eqD (eVar 3) (eC (D.str "done"))))) (tAndF (tb (e2 eqD (e2 ixD (eVar 2) (eC (D.int 0))) (eC (D.str "heal")))) (tb (e2 eqD (eVar 3) (eC (D.str "error"))))))
  (sRet (eTup (aCons (eC (D.str "return")) (aCons (e2 ixD (eVar 2) (eC (D.int 1))) aNil))))
  sNil)
 (sSeq (sIf (tAndF (tb (e2 eqD (e2 ixD (eVar 2) (eC (D.int 0))) (eC (D.str "swap")))) (tb (e2 eqD (eVar 3) (eC (D.str "error")))))
  (sRet (eTup (aCons (eC (D.str "raise")) (aCons (e2 ixD (eVar 2) (eC (D.int 1))) aNil))))
  sNil)
 (sRet (eVar 0))))))
def g_law_after : List D → DM → Rs D := fnD 5 f_law_after
theorem sc_law_after : FnScope ["pending", "step", "kind", "guard", "answer"] ["pending", "step", "kind", "guard", "answer"] (defScope st_law_after) := ⟨rfl, rfl, rfl, by decide +kernel, rfl, by decide +kernel, by decide +kernel⟩
theorem b_law_after {c : Ctx} (T : Txt c) {X : Cx} {W : WX} (J : InS c X W 0 ["pending", "step", "kind", "guard", "answer"] (defScope st_law_after)) (hC : Cold X) : VSs c X W (defBody st_law_after) f_law_after := by
  have I := J.toIn
  have n_pending : Nm ["pending", "step", "kind", "guard", "answer"] (defScope st_law_after) 0 "pending" := ⟨rfl, by decide +kernel, by decide, by decide⟩
  have n_step : Nm ["pending", "step", "kind", "guard", "answer"] (defScope st_law_after) 1 "step" := ⟨rfl, by decide +kernel, by decide, by decide⟩
  have n_kind : Nm ["pending", "step", "kind", "guard", "answer"] (defScope st_law_after) 2 "kind" := ⟨rfl, by decide +kernel, by decide, by decide⟩
  have n_guard : Nm ["pending", "step", "kind", "guard", "answer"] (defScope st_law_after) 3 "guard" := ⟨rfl, by decide +kernel, by decide, by decide⟩
  have n_answer : Nm ["pending", "step", "kind", "guard", "answer"] (defScope st_law_after) 4 "answer" := ⟨rfl, by decide +kernel, by decide, by decide⟩
  exact (vss_cons (vs_if (vt_eq I (ve_var I n_answer) ve_int) (vss_one (vs_ret (ve_tup (va_cons ve_str (va_cons (ve_var I n_step) va_nil))))) vss_nil)
 (vss_cons (vs_if (vt_eq I (ve_ix I (ve_var I n_kind) ve_int) ve_str) (vss_one (vs_ret (ve_tup (va_cons ve_str (va_cons (ve_ix I (ve_var I n_kind) ve_int) va_nil))))) vss_nil)
 (vss_cons (vs_if (VW.vt (vw_or (VW.vt (vw_and (vt_eq I (ve_ix I (ve_var I n_kind) ve_int) ve_str) (vw_and1 (vt_eq I (ve_var I n_guard) ve_str)))) (vw_or1 (VW.vt (vw_and (vt_eq I (ve_ix I (ve_var I n_kind) ve_int) ve_str) (vw_and1 (vt_eq I (ve_var I n_guard) ve_str))))))) (vss_one (vs_ret (ve_tup (va_cons ve_str (va_cons (ve_ix I (ve_var I n_kind) ve_int) va_nil))))) vss_nil)
 (vss_cons (vs_if (VW.vt (vw_and (vt_eq I (ve_ix I (ve_var I n_kind) ve_int) ve_str) (vw_and1 (vt_eq I (ve_var I n_guard) ve_str)))) (vss_one (vs_ret (ve_tup (va_cons ve_str (va_cons (ve_ix I (ve_var I n_kind) ve_int) va_nil))))) vss_nil)
 (vss_one (vs_ret (ve_var I n_pending)))))))
theorem c_law_after {c : Ctx} (T : Txt c) : Callee c "_law_after" 1 5 g_law_after :=
  callee_def (N := ["pending", "step", "kind", "guard", "answer"]) T.F_law_after sc_law_after fun X W J hC => b_law_after T  J hC
abbrev st_law_apart : Stmt := (topS 69)
def f_law_apart (G : List D → DM → Rs D) : FS :=
 (sSeq (sSet 2 (eCall g_law_top (aCons (eVar 2) (aCons (eCall g_law_state (aCons (eVar 4) aNil)) aNil))))
 (sSeq (sSet 3 (eCall g_law_top (aCons (eVar 3) (aCons (eCall g_law_state (aCons (eVar 4) aNil)) aNil))))
 (sSeq (sIf (tOrF (tb (e2 eqD (eCall lenD (aCons (eVar 2) aNil)) (eC (D.int 0)))) (tb (e2 eqD (eCall lenD (aCons (eVar 3) aNil)) (eC (D.int 0)))))
  (sRet (e2 neD (eCall lenD (aCons (eVar 2) aNil)) (eCall lenD (aCons (eVar 3) aNil))))
  sNil)
 (sSeq (sSet 5 (e2 ixD (eVar 2) (e2 subD (eCall lenD (aCons (eVar 2) aNil)) (eC (D.int 1)))))
 (sSeq (sSet 6 (e2 ixD (eVar 3) (e2 subD (eCall lenD (aCons (eVar 3) aNil)) (eC (D.int 1)))))
 (sSeq (sIf (tOrF (tb (e2 neD (e2 ixD (eVar 5) (eC (D.int 1))) (e2 ixD (eVar 6) (eC (D.int 1))))) (tb (e2 neD (eCall g_law_value (aCons (e2 ixD (eVar 5) (eC (D.int 2))) (aCons (e2 ixD (eVar 0) (eC (D.int 2))) (aCons (eVar 1) aNil)))) (eCall g_law_value (aCons (e2 ixD (eVar 6) (eC (D.int 2))) (aCons (e2 ixD (eVar 0) (eC (D.int 2))) (aCons (eVar 1) aNil)))))))
  (sRet (eC (D.bl true)))
  sNil)
 (sSeq (sFor (fun _ _ => 0) (eLst (aCons (eC (D.int 0)) (aCons (eC (D.int 1)) aNil))) (gNm 7)
  (sSeq (sSet 8 (eSl (eVar 2) oN (oS (e1 negD (eC (D.int 1))))))
 (sSeq (sSet 9 (eSl (eVar 3) oN (oS (e1 negD (eC (D.int 1))))))
 (sSeq (sIf (tb (e2 eqD (eVar 7) (eC (D.int 1))))
  (sSeq (sSet 8 (e2 addD (eVar 8) (eCall g_law_split (aCons (e2 ixD (eVar 5) (eC (D.int 3))) aNil))))
 (sSet 9 (e2 addD (eVar 9) (eCall g_law_split (aCons (e2 ixD (eVar 6) (eC (D.int 3))) aNil)))))
  sNil)
 (sSeq (sSet 10 (eCall g_law_after (aCons (eVar 4) (aCons (e2 ixD (eVar 5) (eC (D.int 1))) (aCons (e2 gixD (e2 ixD (eVar 0) (eC (D.int 1))) (e2 ixD (eVar 5) (eC (D.int 1)))) (aCons (e2 ixD (eVar 5) (eC (D.int 0))) (aCons (eVar 7) aNil)))))))
 (sIf (tb (eCall G (aCons (eVar 0) (aCons (eVar 1) (aCons (eVar 8) (aCons (eVar 9) (aCons (eVar 10) aNil)))))))
  (sRet (eC (D.bl true)))
  sNil))))))
 (sRet (eC (D.bl false))))))))))
def g_law_apart : Nat → List D → DM → Rs D
  | 0 => fun _ _ => .bad
  | n + 1 => fnD 11 (f_law_apart (g_law_apart n))
theorem sc_law_apart : FnScope ["lore", "store", "first", "second", "pending", "one", "two", "answer", "upper", "lower", "later"] ["lore", "store", "first", "second", "pending"] (defScope st_law_apart) := ⟨rfl, rfl, rfl, by decide +kernel, rfl, by decide +kernel, by decide +kernel⟩
theorem b_law_apart {c : Ctx} (T : Txt c) (C_law_top : Callee c "_law_top" 1 2 g_law_top) (C_law_state : Callee c "_law_state" 1 1 g_law_state) (C_law_value : Callee c "_law_value" 1 3 g_law_value) (C_law_split : Callee c "_law_split" 2 1 g_law_split) (C_law_after : Callee c "_law_after" 1 5 g_law_after) {n : Nat} {G : List D → DM → Rs D} (R_law_apart : Callee c "_law_apart" (n + 2) 5 G) {X : Cx} {W : WX} (J : InS c X W (n + 2) ["lore", "store", "first", "second", "pending", "one", "two", "answer", "upper", "lower", "later"] (defScope st_law_apart)) (hC : Cold X) : VSs c X W (defBody st_law_apart) (f_law_apart G) := by
  have I := J.toIn
  have n_lore : Nm ["lore", "store", "first", "second", "pending", "one", "two", "answer", "upper", "lower", "later"] (defScope st_law_apart) 0 "lore" := ⟨rfl, by decide +kernel, by decide, by decide⟩
  have n_store : Nm ["lore", "store", "first", "second", "pending", "one", "two", "answer", "upper", "lower", "later"] (defScope st_law_apart) 1 "store" := ⟨rfl, by decide +kernel, by decide, by decide⟩
  have n_first : Nm ["lore", "store", "first", "second", "pending", "one", "two", "answer", "upper", "lower", "later"] (defScope st_law_apart) 2 "first" := ⟨rfl, by decide +kernel, by decide, by decide⟩
  have n_second : Nm ["lore", "store", "first", "second", "pending", "one", "two", "answer", "upper", "lower", "later"] (defScope st_law_apart) 3 "second" := ⟨rfl, by decide +kernel, by decide, by decide⟩
  have n_pending : Nm ["lore", "store", "first", "second", "pending", "one", "two", "answer", "upper", "lower", "later"] (defScope st_law_apart) 4 "pending" := ⟨rfl, by decide +kernel, by decide, by decide⟩
  have n_one : Nm ["lore", "store", "first", "second", "pending", "one", "two", "answer", "upper", "lower", "later"] (defScope st_law_apart) 5 "one" := ⟨rfl, by decide +kernel, by decide, by decide⟩
  have n_two : Nm ["lore", "store", "first", "second", "pending", "one", "two", "answer", "upper", "lower", "later"] (defScope st_law_apart) 6 "two" := ⟨rfl, by decide +kernel, by decide, by decide⟩
  have n_answer : Nm ["lore", "store", "first", "second", "pending", "one", "two", "answer", "upper", "lower", "later"] (defScope st_law_apart) 7 "answer" := ⟨rfl, by decide +kernel, by decide, by decide⟩
  have n_upper : Nm ["lore", "store", "first", "second", "pending", "one", "two", "answer", "upper", "lower", "later"] (defScope st_law_apart) 8 "upper" := ⟨rfl, by decide +kernel, by decide, by decide⟩
  have n_lower : Nm ["lore", "store", "first", "second", "pending", "one", "two", "answer", "upper", "lower", "later"] (defScope st_law_apart) 9 "lower" := ⟨rfl, by decide +kernel, by decide, by decide⟩
  have n_later : Nm ["lore", "store", "first", "second", "pending", "one", "two", "answer", "upper", "lower", "later"] (defScope st_law_apart) 10 "later" := ⟨rfl, by decide +kernel, by decide, by decide⟩
  have q__law_after : Gn (defScope st_law_apart) "_law_after" := ⟨by decide +kernel, by decide⟩
  have q__law_apart : Gn (defScope st_law_apart) "_law_apart" := ⟨by decide +kernel, by decide⟩
  have q__law_split : Gn (defScope st_law_apart) "_law_split" := ⟨by decide +kernel, by decide⟩
  have q__law_state : Gn (defScope st_law_apart) "_law_state" := ⟨by decide +kernel, by decide⟩
  have q__law_top : Gn (defScope st_law_apart) "_law_top" := ⟨by decide +kernel, by decide⟩
  have q__law_value : Gn (defScope st_law_apart) "_law_value" := ⟨by decide +kernel, by decide⟩
  have q_len : Gn (defScope st_law_apart) "len" := ⟨by decide +kernel, by decide⟩
  have K_law_top : Callee c "_law_top" (n + 2) 2 g_law_top := C_law_top.mono (by omega)
  have K_law_state : Callee c "_law_state" (n + 2) 1 g_law_state := C_law_state.mono (by omega)
  have K_law_value : Callee c "_law_value" (n + 2) 3 g_law_value := C_law_value.mono (by omega)
  have K_law_split : Callee c "_law_split" (n + 2) 1 g_law_split := C_law_split.mono (by omega)
  have K_law_after : Callee c "_law_after" (n + 2) 5 g_law_after := C_law_after.mono (by omega)
  have K_law_apart : Callee c "_law_apart" (n + 2) 5 G := R_law_apart.mono (by omega)
  exact (vss_cons (vs_set J n_first (ve_call I hC q__law_top K_law_top (va_cons (ve_var I n_first) (va_cons (ve_call I hC q__law_state K_law_state (va_cons (ve_var I n_pending) va_nil)) va_nil))))
 (vss_cons (vs_set J n_second (ve_call I hC q__law_top K_law_top (va_cons (ve_var I n_second) (va_cons (ve_call I hC q__law_state K_law_state (va_cons (ve_var I n_pending) va_nil)) va_nil))))
 (vss_cons (vs_if (VW.vt (vw_or (vt_eq I (ve_len I q_len T.m_len (va_cons (ve_var I n_first) va_nil)) ve_int) (vw_or1 (vt_eq I (ve_len I q_len T.m_len (va_cons (ve_var I n_second) va_nil)) ve_int)))) (vss_one (vs_ret (ve_ne I (ve_len I q_len T.m_len (va_cons (ve_var I n_first) va_nil)) (ve_len I q_len T.m_len (va_cons (ve_var I n_second) va_nil))))) vss_nil)
 (vss_cons (vs_set J n_one (ve_ix I (ve_var I n_first) (ve_sub (ve_len I q_len T.m_len (va_cons (ve_var I n_first) va_nil)) ve_int)))
 (vss_cons (vs_set J n_two (ve_ix I (ve_var I n_second) (ve_sub (ve_len I q_len T.m_len (va_cons (ve_var I n_second) va_nil)) ve_int)))
 (vss_cons (vs_if (VW.vt (vw_or (vt_ne I (ve_ix I (ve_var I n_one) ve_int) (ve_ix I (ve_var I n_two) ve_int)) (vw_or1 (vt_ne I (ve_call I hC q__law_value K_law_value (va_cons (ve_ix I (ve_var I n_one) ve_int) (va_cons (ve_ix I (ve_var I n_lore) ve_int) (va_cons (ve_var I n_store) va_nil)))) (ve_call I hC q__law_value K_law_value (va_cons (ve_ix I (ve_var I n_two) ve_int) (va_cons (ve_ix I (ve_var I n_lore) ve_int) (va_cons (ve_var I n_store) va_nil)))))))) (vss_one (vs_ret ve_bl)) vss_nil)
 (vss_cons (vs_for J hC (fun _ _ => 0) (ve_lst (va_cons ve_int (va_cons ve_int va_nil))) (vg_name J n_answer) (vss_cons (vs_set J n_upper (ve_slice I (ve_var I n_first) vo_none (vo_some (ve_neg ve_int))))
 (vss_cons (vs_set J n_lower (ve_slice I (ve_var I n_second) vo_none (vo_some (ve_neg ve_int))))
 (vss_cons (vs_if (vt_eq I (ve_var I n_answer) ve_int) (vss_cons (vs_set J n_upper (ve_add I (ve_var I n_upper) (ve_call I hC q__law_split K_law_split (va_cons (ve_ix I (ve_var I n_one) ve_int) va_nil))))
 (vss_one (vs_set J n_lower (ve_add I (ve_var I n_lower) (ve_call I hC q__law_split K_law_split (va_cons (ve_ix I (ve_var I n_two) ve_int) va_nil)))))) vss_nil)
 (vss_cons (vs_set J n_later (ve_call I hC q__law_after K_law_after (va_cons (ve_var I n_pending) (va_cons (ve_ix I (ve_var I n_one) ve_int) (va_cons (ve_gix I (ve_ix I (ve_var I n_lore) ve_int) (ve_ix I (ve_var I n_one) ve_int)) (va_cons (ve_ix I (ve_var I n_one) ve_int) (va_cons (ve_var I n_answer) va_nil)))))))
 (vss_one (vs_if (vt_val (ve_call I hC q__law_apart K_law_apart (va_cons (ve_var I n_lore) (va_cons (ve_var I n_store) (va_cons (ve_var I n_upper) (va_cons (ve_var I n_lower) (va_cons (ve_var I n_later) va_nil))))))) (vss_one (vs_ret ve_bl)) vss_nil)))))))
 (vss_one (vs_ret ve_bl)))))))))
theorem c_law_apart {c : Ctx} (T : Txt c) (C_law_top : Callee c "_law_top" 1 2 g_law_top) (C_law_state : Callee c "_law_state" 1 1 g_law_state) (C_law_value : Callee c "_law_value" 1 3 g_law_value) (C_law_split : Callee c "_law_split" 2 1 g_law_split) (C_law_after : Callee c "_law_after" 1 5 g_law_after) : ∀ n : Nat, Callee c "_law_apart" (n + 2) 5 (g_law_apart n)
  | 0 => callee_zero T.F_law_apart _ _
  | n + 1 => (callee_def (k := (n + 2)) (N := ["lore", "store", "first", "second", "pending", "one", "two", "answer", "upper", "lower", "later"]) T.F_law_apart sc_law_apart fun X W J hC => b_law_apart T C_law_top C_law_state C_law_value C_law_split C_law_after (c_law_apart T C_law_top C_law_state C_law_value C_law_split C_law_after n) J hC).mono (by omega)
abbrev st_law : Stmt := (topS 70)
def f_law : FS :=
 (sSeq (sSet 1 (eCall g_law_pool (aCons (eVar 0) aNil)))
 (sSeq (sSet 2 (eCall g_law_lore (aCons (eVar 1) (aCons (eC (D.int 3)) (aCons (eC (D.int 2)) aNil)))))
 (sSeq (sSet 3 (eCall g_law_word (aCons (eVar 1) (aCons (eVar 2) aNil))))
 (sSeq (sSet 4 (eTup (aCons (eCall g_law_exit (aCons (eVar 1) aNil)) (aCons (eCall g_law_store (aCons (eVar 1) (aCons (eVar 2) aNil))) aNil))))
 (sSeq (sSet 5 (eCall g_law_second (aCons (eVar 1) (aCons (eVar 2) (aCons (eVar 3) (aCons (e2 ixD (eVar 4) (eC (D.int 0))) aNil))))))
 (sSeq (sSet 6 (eCall g_law_bookT (aCons (eVar 2) (aCons (e2 eqD (eCall g_law_draw (aCons (eVar 1) (aCons (eC (D.int 2)) aNil))) (eC (D.int 1))) aNil))))
 (sSeq (sSet 7 (eCall g_agenda (aCons (eVar 3) (aCons (eVar 4) (aCons (eVar 6) aNil)))))
 (sSeq (sSet 8 (eCall g_agenda (aCons (eVar 5) (aCons (eVar 4) (aCons (eVar 6) aNil)))))
 (sSeq (sIf (tOrF (tNotF (tb (eCall (g_law_halved 6) (aCons (e2 ixD (eVar 2) (eC (D.int 0))) (aCons (eVar 7) aNil))))) (tNotF (tb (eCall (g_law_halved 6) (aCons (e2 ixD (eVar 2) (eC (D.int 0))) (aCons (eVar 8) aNil))))))
  (sRet (eC (D.bl false)))
  sNil)
 (sSeq (sIf (tOrF (tNotF (tb (eCall (g_law_same 10) (aCons (eCall g_agenda (aCons (eVar 3) (aCons (eVar 4) (aCons (eVar 6) aNil)))) (aCons (eVar 7) aNil))))) (tNotF (tb (eCall (g_law_same 10) (aCons (eCall g_agenda (aCons (eVar 7) (aCons (eVar 4) (aCons (eVar 6) aNil)))) (aCons (eVar 7) aNil))))))
  (sRet (eC (D.bl false)))
  sNil)
 (sSeq (sIf (tNotF (tb (eCall (g_law_same 10) (aCons (eCall g_agenda (aCons (eCall listD (aCons (eVar 5) aNil)) (aCons (eVar 4) (aCons (eVar 6) aNil)))) (aCons (eVar 8) aNil)))))
  (sRet (eC (D.bl false)))
  sNil)
 (sSeq (sSet 9 (eCall (g_law_apart 64) (aCons (eVar 2) (aCons (e2 ixD (eVar 4) (eC (D.int 1))) (aCons (eCall g_law_split (aCons (eVar 3) aNil)) (aCons (eCall g_law_split (aCons (eVar 5) aNil)) (aCons (e2 ixD (eVar 4) (eC (D.int 0))) aNil)))))))
 (sRet (e2 neD (eCall (g_law_same 10) (aCons (eVar 7) (aCons (eVar 8) aNil))) (eVar 9)))))))))))))))
def g_law : List D → DM → Rs D := fnD 10 f_law
theorem sc_law : FnScope ["script", "pool", "lore", "first", "leaving", "second", "book", "one", "two", "apart"] ["script"] (defScope st_law) := ⟨rfl, rfl, rfl, by decide +kernel, rfl, by decide +kernel, by decide +kernel⟩
theorem b_law {c : Ctx} (T : Txt c) (C_law_pool : Callee c "_law_pool" 1 1 g_law_pool) (C_law_lore : Callee c "_law_lore" 5 3 g_law_lore) (C_law_word : Callee c "_law_word" 10 2 g_law_word) (C_law_exit : Callee c "_law_exit" 4 1 g_law_exit) (C_law_store : Callee c "_law_store" 3 2 g_law_store) (C_law_second : Callee c "_law_second" 11 4 g_law_second) (C_law_bookT : Callee c "_law_book" 5 2 g_law_bookT) (C_law_draw : Callee c "_law_draw" 2 2 g_law_draw) (C_agenda : Callee c "agenda" 18 3 g_agenda) (C_law_halved : Callee c "_law_halved" 6 2 (g_law_halved 6)) (C_law_same : Callee c "_law_same" 10 2 (g_law_same 10)) (C_law_apart : Callee c "_law_apart" 66 5 (g_law_apart 64)) (C_law_split : Callee c "_law_split" 2 1 g_law_split) {X : Cx} {W : WX} (J : InS c X W 66 ["script", "pool", "lore", "first", "leaving", "second", "book", "one", "two", "apart"] (defScope st_law)) (hC : Cold X) : VSs c X W (defBody st_law) f_law := by
  have I := J.toIn
  have n_script : Nm ["script", "pool", "lore", "first", "leaving", "second", "book", "one", "two", "apart"] (defScope st_law) 0 "script" := ⟨rfl, by decide +kernel, by decide, by decide⟩
  have n_pool : Nm ["script", "pool", "lore", "first", "leaving", "second", "book", "one", "two", "apart"] (defScope st_law) 1 "pool" := ⟨rfl, by decide +kernel, by decide, by decide⟩
  have n_lore : Nm ["script", "pool", "lore", "first", "leaving", "second", "book", "one", "two", "apart"] (defScope st_law) 2 "lore" := ⟨rfl, by decide +kernel, by decide, by decide⟩
  have n_first : Nm ["script", "pool", "lore", "first", "leaving", "second", "book", "one", "two", "apart"] (defScope st_law) 3 "first" := ⟨rfl, by decide +kernel, by decide, by decide⟩
  have n_leaving : Nm ["script", "pool", "lore", "first", "leaving", "second", "book", "one", "two", "apart"] (defScope st_law) 4 "leaving" := ⟨rfl, by decide +kernel, by decide, by decide⟩
  have n_second : Nm ["script", "pool", "lore", "first", "leaving", "second", "book", "one", "two", "apart"] (defScope st_law) 5 "second" := ⟨rfl, by decide +kernel, by decide, by decide⟩
  have n_book : Nm ["script", "pool", "lore", "first", "leaving", "second", "book", "one", "two", "apart"] (defScope st_law) 6 "book" := ⟨rfl, by decide +kernel, by decide, by decide⟩
  have n_one : Nm ["script", "pool", "lore", "first", "leaving", "second", "book", "one", "two", "apart"] (defScope st_law) 7 "one" := ⟨rfl, by decide +kernel, by decide, by decide⟩
  have n_two : Nm ["script", "pool", "lore", "first", "leaving", "second", "book", "one", "two", "apart"] (defScope st_law) 8 "two" := ⟨rfl, by decide +kernel, by decide, by decide⟩
  have n_apart : Nm ["script", "pool", "lore", "first", "leaving", "second", "book", "one", "two", "apart"] (defScope st_law) 9 "apart" := ⟨rfl, by decide +kernel, by decide, by decide⟩
  have q__law_apart : Gn (defScope st_law) "_law_apart" := ⟨by decide +kernel, by decide⟩
  have q__law_book : Gn (defScope st_law) "_law_book" := ⟨by decide +kernel, by decide⟩
  have q__law_draw : Gn (defScope st_law) "_law_draw" := ⟨by decide +kernel, by decide⟩
  have q__law_exit : Gn (defScope st_law) "_law_exit" := ⟨by decide +kernel, by decide⟩
  have q__law_halved : Gn (defScope st_law) "_law_halved" := ⟨by decide +kernel, by decide⟩
  have q__law_lore : Gn (defScope st_law) "_law_lore" := ⟨by decide +kernel, by decide⟩
  have q__law_pool : Gn (defScope st_law) "_law_pool" := ⟨by decide +kernel, by decide⟩
  have q__law_same : Gn (defScope st_law) "_law_same" := ⟨by decide +kernel, by decide⟩
  have q__law_second : Gn (defScope st_law) "_law_second" := ⟨by decide +kernel, by decide⟩
  have q__law_split : Gn (defScope st_law) "_law_split" := ⟨by decide +kernel, by decide⟩
  have q__law_store : Gn (defScope st_law) "_law_store" := ⟨by decide +kernel, by decide⟩
  have q__law_word : Gn (defScope st_law) "_law_word" := ⟨by decide +kernel, by decide⟩
  have q_agenda : Gn (defScope st_law) "agenda" := ⟨by decide +kernel, by decide⟩
  have q_list : Gn (defScope st_law) "list" := ⟨by decide +kernel, by decide⟩
  have K_law_pool : Callee c "_law_pool" 66 1 g_law_pool := C_law_pool.mono (by decide)
  have K_law_lore : Callee c "_law_lore" 66 3 g_law_lore := C_law_lore.mono (by decide)
  have K_law_word : Callee c "_law_word" 66 2 g_law_word := C_law_word.mono (by decide)
  have K_law_exit : Callee c "_law_exit" 66 1 g_law_exit := C_law_exit.mono (by decide)
  have K_law_store : Callee c "_law_store" 66 2 g_law_store := C_law_store.mono (by decide)
  have K_law_second : Callee c "_law_second" 66 4 g_law_second := C_law_second.mono (by decide)
  have K_law_bookT : Callee c "_law_book" 66 2 g_law_bookT := C_law_bookT.mono (by decide)
  have K_law_draw : Callee c "_law_draw" 66 2 g_law_draw := C_law_draw.mono (by decide)
  have K_agenda : Callee c "agenda" 66 3 g_agenda := C_agenda.mono (by decide)
  have K_law_halved : Callee c "_law_halved" 66 2 (g_law_halved 6) := C_law_halved.mono (by decide)
  have K_law_same : Callee c "_law_same" 66 2 (g_law_same 10) := C_law_same.mono (by decide)
  have K_law_apart : Callee c "_law_apart" 66 5 (g_law_apart 64) := C_law_apart.mono (by decide)
  have K_law_split : Callee c "_law_split" 66 1 g_law_split := C_law_split.mono (by decide)
  exact (vss_cons (vs_set J n_pool (ve_call I hC q__law_pool K_law_pool (va_cons (ve_var I n_script) va_nil)))
 (vss_cons (vs_set J n_lore (ve_call I hC q__law_lore K_law_lore (va_cons (ve_var I n_pool) (va_cons ve_int (va_cons ve_int va_nil)))))
 (vss_cons (vs_set J n_first (ve_call I hC q__law_word K_law_word (va_cons (ve_var I n_pool) (va_cons (ve_var I n_lore) va_nil))))
 (vss_cons (vs_set J n_leaving (ve_tup (va_cons (ve_call I hC q__law_exit K_law_exit (va_cons (ve_var I n_pool) va_nil)) (va_cons (ve_call I hC q__law_store K_law_store (va_cons (ve_var I n_pool) (va_cons (ve_var I n_lore) va_nil))) va_nil))))
 (vss_cons (vs_set J n_second (ve_call I hC q__law_second K_law_second (va_cons (ve_var I n_pool) (va_cons (ve_var I n_lore) (va_cons (ve_var I n_first) (va_cons (ve_ix I (ve_var I n_leaving) ve_int) va_nil))))))
 (vss_cons (vs_set J n_book (ve_call I hC q__law_book K_law_bookT (va_cons (ve_var I n_lore) (va_cons (ve_eq I (ve_call I hC q__law_draw K_law_draw (va_cons (ve_var I n_pool) (va_cons ve_int va_nil))) ve_int) va_nil))))
 (vss_cons (vs_set J n_one (ve_call I hC q_agenda K_agenda (va_cons (ve_var I n_first) (va_cons (ve_var I n_leaving) (va_cons (ve_var I n_book) va_nil)))))
 (vss_cons (vs_set J n_two (ve_call I hC q_agenda K_agenda (va_cons (ve_var I n_second) (va_cons (ve_var I n_leaving) (va_cons (ve_var I n_book) va_nil)))))
 (vss_cons (vs_if (VW.vt (vw_or (vt_not (vt_val (ve_call I hC q__law_halved K_law_halved (va_cons (ve_ix I (ve_var I n_lore) ve_int) (va_cons (ve_var I n_one) va_nil))))) (vw_or1 (vt_not (vt_val (ve_call I hC q__law_halved K_law_halved (va_cons (ve_ix I (ve_var I n_lore) ve_int) (va_cons (ve_var I n_two) va_nil)))))))) (vss_one (vs_ret ve_bl)) vss_nil)
 (vss_cons (vs_if (VW.vt (vw_or (vt_not (vt_val (ve_call I hC q__law_same K_law_same (va_cons (ve_call I hC q_agenda K_agenda (va_cons (ve_var I n_first) (va_cons (ve_var I n_leaving) (va_cons (ve_var I n_book) va_nil)))) (va_cons (ve_var I n_one) va_nil))))) (vw_or1 (vt_not (vt_val (ve_call I hC q__law_same K_law_same (va_cons (ve_call I hC q_agenda K_agenda (va_cons (ve_var I n_one) (va_cons (ve_var I n_leaving) (va_cons (ve_var I n_book) va_nil)))) (va_cons (ve_var I n_one) va_nil)))))))) (vss_one (vs_ret ve_bl)) vss_nil)
 (vss_cons (vs_if (vt_not (vt_val (ve_call I hC q__law_same K_law_same (va_cons (ve_call I hC q_agenda K_agenda (va_cons (ve_list I q_list T.m_list (va_cons (ve_var I n_second) va_nil)) (va_cons (ve_var I n_leaving) (va_cons (ve_var I n_book) va_nil)))) (va_cons (ve_var I n_two) va_nil))))) (vss_one (vs_ret ve_bl)) vss_nil)
 (vss_cons (vs_set J n_apart (ve_call I hC q__law_apart K_law_apart (va_cons (ve_var I n_lore) (va_cons (ve_ix I (ve_var I n_leaving) ve_int) (va_cons (ve_call I hC q__law_split K_law_split (va_cons (ve_var I n_first) va_nil)) (va_cons (ve_call I hC q__law_split K_law_split (va_cons (ve_var I n_second) va_nil)) (va_cons (ve_ix I (ve_var I n_leaving) ve_int) va_nil)))))))
 (vss_one (vs_ret (ve_ne I (ve_call I hC q__law_same K_law_same (va_cons (ve_var I n_one) (va_cons (ve_var I n_two) va_nil))) (ve_var I n_apart))))))))))))))))
theorem c_law {c : Ctx} (T : Txt c) (C_law_pool : Callee c "_law_pool" 1 1 g_law_pool) (C_law_lore : Callee c "_law_lore" 5 3 g_law_lore) (C_law_word : Callee c "_law_word" 10 2 g_law_word) (C_law_exit : Callee c "_law_exit" 4 1 g_law_exit) (C_law_store : Callee c "_law_store" 3 2 g_law_store) (C_law_second : Callee c "_law_second" 11 4 g_law_second) (C_law_bookT : Callee c "_law_book" 5 2 g_law_bookT) (C_law_draw : Callee c "_law_draw" 2 2 g_law_draw) (C_agenda : Callee c "agenda" 18 3 g_agenda) (C_law_halved : Callee c "_law_halved" 6 2 (g_law_halved 6)) (C_law_same : Callee c "_law_same" 10 2 (g_law_same 10)) (C_law_apart : Callee c "_law_apart" 66 5 (g_law_apart 64)) (C_law_split : Callee c "_law_split" 2 1 g_law_split) : Callee c "law" 67 1 g_law :=
  callee_def (N := ["script", "pool", "lore", "first", "leaving", "second", "book", "one", "two", "apart"]) T.F_law sc_law fun X W J hC => b_law T C_law_pool C_law_lore C_law_word C_law_exit C_law_store C_law_second C_law_bookT C_law_draw C_agenda C_law_halved C_law_same C_law_apart C_law_split J hC
theorem c_all {c : Ctx} (T : Txt c) {f : Addr} {fd : FuncData} (F : Fun c.K "law" "law" (topS 70) f fd) : FnOk c.P c.w c.K c.mg c.base (L2.CX c.P c.w) 67 f fd ["script"] (spOf c 1 g_law) := by
  have C_law_pool := c_law_pool T 
  have C_law_mixed := c_law_mixed T 
  have C_law_draw := c_law_draw T C_law_mixed
  have C_law_letters := c_law_letters T 
  have C_law_name := c_law_name T C_law_letters C_law_draw
  have C_law_fresh := c_law_fresh T C_law_name C_law_letters
  have C_law_number := c_law_number T C_law_draw
  have C_law_kind := c_law_kind T C_law_draw C_law_number C_law_name
  have C_law_lore := c_law_lore T C_law_draw C_law_fresh C_law_kind
  have C_law_cut := c_law_cut T  6
  have C_law_argument := c_law_argument T C_law_draw C_law_number
  have C_law_actionB := c_law_actionB T C_law_draw C_law_argument 4
  have C_law_richB := c_law_richB T C_law_draw C_law_actionB C_law_argument
  have C_law_word := c_law_word T C_law_draw C_law_cut C_law_richB
  have C_law_exit := c_law_exit T C_law_draw C_law_number C_law_name
  have C_law_store := c_law_store T C_law_draw
  have C_law_put_twin := c_law_put_twin T 
  have C_law_state := c_law_state T 
  have C_law_second := c_law_second T C_law_draw C_law_word C_law_put_twin C_law_state C_law_argument
  have C_Book_init := c_Book_init T 
  have C_is_name := c_is_name T 
  have C_check_name := c_check_name T C_is_name
  have C_check_number := c_check_number T 
  have C_check_kind := c_check_kind T C_check_number C_check_name
  have C_Book_setitem := c_Book_setitem T C_check_name C_check_kind
  have C_Book_add_cell := c_Book_add_cell T C_check_name
  have C_law_bookT := c_law_bookT T C_Book_init C_Book_setitem C_Book_add_cell
  have C_Book_getitem := c_Book_getitem T 
  have C_below := c_below T C_Book_getitem
  have C_keep_live := c_keep_live T C_below
  have C_halves := c_halves T 
  have C_split := c_split T C_halves
  have C_normal := c_normal T C_split C_keep_live 6
  have C_live := c_live T C_keep_live C_normal
  have C_Book_cells := c_Book_cells T 
  have C_cell_names := c_cell_names T C_Book_cells
  have C_value_of := c_value_of T C_cell_names
  have C_told := c_told T C_value_of 6
  have C_state := c_state T 
  have C_agenda := c_agenda T C_live C_told C_state
  have C_law_halved := c_law_halved T  6
  have C_law_same := c_law_same T  10
  have C_law_top := c_law_top T 
  have C_law_value := c_law_value T 
  have C_law_halves := c_law_halves T 
  have C_law_split := c_law_split T C_law_halves
  have C_law_after := c_law_after T 
  have C_law_apart := c_law_apart T C_law_top C_law_state C_law_value C_law_split C_law_after 64
  exact fnok_of (N := ["script", "pool", "lore", "first", "leaving", "second", "book", "one", "two", "apart"]) F sc_law fun X W J hC => b_law T C_law_pool C_law_lore C_law_word C_law_exit C_law_store C_law_second C_law_bookT C_law_draw C_agenda C_law_halved C_law_same C_law_apart C_law_split J hC
end DL

set_option Elab.async false
set_option linter.all false
set_option maxRecDepth 100000
set_option maxHeartbeats 4000000
namespace DL
open PySem PySem.Spec L2
open PyProof.Rows hiding St
local macro_rules | `(tactic| walk_at "dx") => `(tactic| try simp (disch := first | decide | assumption | omega) only [sPut, sOset, sFldD, eMeth, eMake, ePr, eMt, eCh, sAug, oN, oS, eSl, eDic0, eCv, sSeq, sIf, sRet, sRetN, sNil, sSet, sExpr, sAsg, gTupN, gNms, gNm, tb, tNotF, tAndF, tOrF, eNot, eAnd, eOr, eIf, eTup, eLst, aCons, aNil, eCall, e1, e2, eVar, eC, negD, bind_ok, ro_ok, seq_nx, seq_rt, seq_ct, seq_bk, fin_rt, fin_nx, sat_ok, sat_bind, sat_fin, sat_seq, sat_ro, rsat_nx, rsat_rt, rsat_ct, rsat_bk, seqQ_nx, seqQ_rt, seqQ_ct, seqQ_bk, finQ_nx, finQ_rt, loopQ_nx, loopQ_ct, loopQ_bk, loopQ_rt, sSub, ixo0, ixo1, ixo2, ixo3, ixo4, puts1, puts2, puts3, puts4, List.map_cons, List.map_nil, List.length_cons, List.length_nil, Nat.reduceAdd, Nat.reduceSub, List.replicate_succ, List.replicate_zero, List.nil_append, List.cons_append, List.getElem?_cons_zero, List.getElem?_cons_succ, List.set_cons_zero, List.set_cons_succ, ix0, ix1, ix2, ix3, ix4, eq_ss, eq_ii, eq_bb, ne_ss, ne_ii, add_ii, sub_ii, mul_ii, mod_ii, fdiv_ii, ord_ii, isN_, isNonD, int_i, if_true, if_false, Bool.false_eq_true, Bool.true_eq_false, Bool.not_true, Bool.not_false, decide_eq_true_eq, Bool.and_true, Bool.true_and, Bool.and_false, Bool.false_and, Bool.or_true, Bool.or_false, Bool.true_or, Bool.false_or, ofString_inj, String.reduceEq, decide_true, decide_false, Int.reduceLT, Int.reduceLE, Int.reduceEq, Int.reduceNeg, Int.reduceSub, Int.reduceAdd, Int.reducePow, Int.reduceMul, true_or, or_true, false_or, or_false, true_and, and_true, false_and, and_false, not_true_eq_false, not_false_eq_true, *])
/-! ### cutting an action down -/
theorem ActOk.succ {nk : List (Str × D)} {cs : List (Str × Int)} : ∀ {n : Nat} {d : D}, ActOk nk cs n d → ActOk nk cs (n + 1) d
  | 0, _, h => h.elim
  | n + 1, d, ⟨g, s, a, fs, e, hg, hs, ha, hf, hz, he⟩ => ⟨g, s, a, fs, e, hg, hs, ha, fun f hf' => (hf f hf').succ, hz, he⟩
theorem gt_ii {a b : Int} {M : DM} : gtD (.int a) (.int b) M = .ok (.bl (decide (b < a))) M := rfl
theorem set_set {M : DM} {r : Nat} {a b : MO} : (M.set r a).set r b = M.set r b := List.set_set ..
theorem set_self {M : DM} {r : Nat} {a : MO} (h : M[r]? = some a) : M.set r a = M := by
  apply List.ext_getElem?
  intro i
  by_cases e : r = i
  · subst e
    rw [List.getElem?_set_self (lt_of_get h), h]
  · rw [List.getElem?_set_ne e]
theorem law_cut_sat {nk : List (Str × D)} {cs : List (Str × Int)} : ∀ (n f : Nat) {d : D} {r : Nat} {R : Int} {M : DM} {Q : D → DM → Prop}, n ≤ f → ActOk nk cs n d → M[r]? = some (.lst [.int R]) →
    (∀ d' R', ActOk nk cs n d' → (mzD n d' : Int) + R' = 1 + R → R' ≤ R → (0 ≤ R → 0 ≤ R') → (R < 0 → R' = R) → Q d' (M.set r (.lst [.int R']))) → (g_law_cut f [d, .obj r] M).sat Q := by
  intro n
  induction n with
  | zero => intro f d r R M Q _ h; exact h.elim
  | succ n ih =>
    intro f d r R M Q hf hd hM q
    obtain ⟨f, rfl⟩ : ∃ k, f = k + 1 := ⟨f - 1, by omega⟩
    obtain ⟨g, s, a, fs, rfl, hg, hs, ha, hfs, hz, he⟩ := hd
    show Rs.sat (fnD 4 (f_law_cut (g_law_cut f)) [mkA g s a fs, .obj r] M) Q
    unfold f_law_cut fnD
    have ih := fun {d : D} {R : Int} {M : DM} {Q : D → DM → Prop} => ih f (d := d) (r := r) (R := R) (M := M) (Q := Q) (by omega)
    generalize g_law_cut f = G at *
    walk_at "dx"
    refine sforT_sat (ds := fs) (M' := M) (by simp only [e2, eVar, eC, List.getElem?_cons_zero, List.getElem?_cons_succ, bind_ok, ix3])
      (fun i δ M' => ∃ R' fs', M' = M.set r (.lst [.int R']) ∧ (∀ f ∈ fs', ActOk nk cs n f) ∧ fs'.length ≤ i ∧ ((fs'.map (mzD n)).sum : Int) + R' = R ∧ R' ≤ R ∧ (0 ≤ R → 0 ≤ R') ∧ (R < 0 → R' = R) ∧ ∃ o, δ = [some (mkA g s a fs), some (.obj r), some (.tup fs'), o])
      ⟨R, [], (set_self hM).symm, by simp, by simp, by simp, by omega, id, fun _ => rfl, none, rfl⟩ ?_ ?_
    · rintro i x δ M1 hx ⟨R', fs', rfl, h1, h2, h3, h4, h5, h6, o, rfl⟩
      refine ⟨_, _, rfl, ?_⟩
      have hi := (List.getElem?_eq_some_iff.mp hx).1
      have hr : r < M.length := lt_of_get hM
      have gr : (M.set r (.lst [.int R']))[r]? = some (.lst [.int R']) := get_self hM
      have i0 : ixD (.obj r) (.int 0) (M.set r (.lst [.int R'])) = .ok (.int R') (M.set r (.lst [.int R'])) := ixo (k := 0) gr rfl
      by_cases hp : 0 < R'
      · have pt : putD (.obj r) (.int 0) (.int (R' - 1)) (M.set r (.lst [.int R'])) = some ((M.set r (.lst [.int R'])).set r (.lst [.int (R' - 1)])) := put_at (k := 0) gr (by simp)
        rw [set_set] at pt
        simp only [sIf, sSeq, sSub, sSet, tb, e2, eVar, eC, eTup, eCall, aCons, aNil, gNm, List.set_cons_zero, List.set_cons_succ, List.getElem?_cons_zero, List.getElem?_cons_succ, bind_ok, i0, gt_ii, hp, decide_true, if_true, ro_ok, sub_ii, pt, seq_nx, sat_ro, sat_bind, sat_ok]
        refine ih (hfs x (List.mem_of_getElem? hx)) (get_self hM) fun d' R2 k1 k2 k3 k4 k5 => ?_
        have ad := add_tt (xs := fs') (ys := [d']) (M := (M.set r (.lst [.int (R' - 1)])).set r (.lst [.int R2])) (by simp; omega)
        rw [set_set] at ad
        simp only [set_set, ad, sat_ok, rsat_nx, loopQ_nx]
        refine ⟨R2, fs' ++ [d'], rfl, fun y hy => ?_, by simp; omega, ?_, by omega, fun z => by have := k4 (by omega); omega, fun z => by omega, _, rfl⟩
        · rcases List.mem_append.mp hy with z | z
          · exact h1 y z
          · rw [List.mem_singleton.mp z]; exact k1
        · rw [List.map_append, List.sum_append]
          simp
          omega
      · simp only [sIf, sNil, tb, e2, eVar, eC, gNm, List.set_cons_zero, List.set_cons_succ, List.getElem?_cons_zero, List.getElem?_cons_succ, bind_ok, i0, gt_ii, hp, decide_false, Bool.false_eq_true, if_false, ro_ok, rsat_nx, loopQ_nx]
        exact ⟨R', fs', rfl, h1, by omega, h3, h4, h5, h6, _, rfl⟩
    · rintro δ M1 ⟨R', fs', rfl, h1, h2, h3, h4, h5, h6, o, rfl⟩
      have fin := q (mkA g s a fs') R' ⟨g, s, a, fs', rfl, hg, hs, ha, h1, by omega, fun z => by
        have := he z
        subst this
        exact List.length_eq_zero_iff.mp (by simpa using h2)⟩ (by
          show ((1 + (fs'.map (mzD n)).sum : Nat) : Int) + R' = 1 + R
          omega) h4 h5 h6
      clear q ih
      walk_at "dx"
theorem Grew.setP {M M1 : DM} (a : Grew M M1) (P : PoolAt M) {i : Nat} (hi : M.length ≤ i) (mo : MO) : Grew M (M1.set i mo) := a.set P hi mo
def Words (nk : List (Str × D)) (cs : List (Str × Int)) (ws : List D) : Prop := (∀ d ∈ ws, ActOk nk cs 3 d) ∧ ws.length ≤ 3 ∧ (ws.map (mzD 3)).sum ≤ 9
theorem law_word_sat {M : DM} {l : Nat} {nk : List (Str × D)} {cs : List (Str × Int)} {n m : Nat} {Q : D → DM → Prop} (O : LoreOk nk cs n m) (hn : n ≤ 12) (hm : m ≤ 2) (P : PoolAt M) (L : LoreAt M l nk cs)
    (q : ∀ ws M', Words nk cs ws → Grew M M' → Q (.tup ws) M') : (g_law_word [.obj 1, .obj l] M).sat Q := by
  unfold g_law_word f_law_word fnD
  have two := P.two
  have G0 : Grew M (M ++ [.lst [.int 6]]) := (Grew.refl P).app _
  have gn : (M ++ [.lst [.int 6]])[M.length]? = some (.lst [.int 6]) := get_new
  walk_at "dx"
  generalize (M ++ [.lst [.int 6]]) = M0 at *
  refine sforR_of ?_
  walk_at "dx"
  refine law_draw_sat G0.pool (by decide) fun r M1 h1 h2 D1 => ?_
  have G1 := G0.trans D1.grew
  have gn1 := (D1.get (by omega)).trans gn
  walk_at "dx"
  refine ⟨r, rfl, ?_⟩
  refine sforR_sat (n := r) rfl (lim_of (by omega)) (fun j δ M' => ∃ R ws o, M'[M.length]? = some (.lst [.int R]) ∧ (∀ d ∈ ws, ActOk nk cs 3 d) ∧ ws.length = j ∧ ((ws.map (mzD 3)).sum : Int) + R = 6 ∧ -(j : Int) ≤ R ∧ Grew M M' ∧ δ = [some (.obj 1), some (.obj l), some (.obj M.length), some (.tup ws), o])
    ⟨6, [], none, gn1, by simp, rfl, by simp, by decide, G1, rfl⟩ ?_ ?_
  · rintro j δ M2 hj ⟨R, ws, o, gr, hw, hl, hs, hR, G2, rfl⟩
    refine ⟨_, _, rfl, ?_⟩
    have i0 : ixD (.obj M.length) (.int 0) M2 = .ok (.int R) M2 := ixo (k := 0) gr rfl
    have pt : putD (.obj M.length) (.int 0) (.int (R - 1)) M2 = some (M2.set M.length (.lst [.int (R - 1)])) := put_at (k := 0) gr (by simp)
    have G3 := G2.setP P (Nat.le_refl _) (.lst [.int (R - 1)])
    have gr3 : (M2.set M.length (.lst [.int (R - 1)]))[M.length]? = some (.lst [.int (R - 1)]) := get_self gr
    simp only [sSeq, sSub, sSet, e2, eVar, eC, eTup, eCall, aCons, aNil, gNm, List.set_cons_zero, List.set_cons_succ, List.getElem?_cons_zero, List.getElem?_cons_succ, bind_ok, i0, sub_ii, ro_ok, pt, seq_nx, sat_ro, sat_bind, sat_ok]
    generalize (M2.set M.length (.lst [.int (R - 1)])) = M3 at *
    refine law_richB_sat O hn hm G3.pool (L.grew G3) fun d M4 hd G4 => ?_
    have gr4 := G4.at_ (by omega) gr3
    refine law_cut_sat 3 6 (by decide) hd gr4 fun d' R' k1 k2 k3 k4 k5 => ?_
    have G5 := (G3.trans G4).setP P (Nat.le_refl _) (.lst [.int R'])
    have ad := add_tt (xs := ws) (ys := [d']) (M := M4.set M.length (.lst [.int R'])) (by simp; omega)
    simp only [ad, sat_ok, rsat_nx, loopQ_nx]
    refine ⟨R', ws ++ [d'], _, get_self gr4, fun x hx => ?_, by rw [List.length_append, hl]; rfl, ?_, ?_, G5, rfl⟩
    · rcases List.mem_append.mp hx with z | z
      · exact hw x z
      · rw [List.mem_singleton.mp z]; exact k1
    · rw [List.map_append, List.sum_append]
      simp
      omega
    · by_cases z : R - 1 < 0
      · have := k5 z; omega
      · have := k4 (by omega); omega
  · rintro δ M2 ⟨R, ws, o, gr, hw, hl, hs, hR, G2, rfl⟩
    have fin := q ws M2 ⟨hw, by omega, by omega⟩ G2
    clear q
    walk_at "dx"
/-! ### the exit, the store -/
/-- an exit and its state -/
def PendOk (d : D) (s : Str) : Prop := ∃ w x, d = .tup [.str w, x] ∧ s = if w = "raise" then "error" else "done"
theorem PendOk.two {d : D} {s : Str} (h : PendOk d s) : Two s := by
  obtain ⟨w, x, _, rfl⟩ := h
  by_cases e : w = ("raise" : Str)
  · rw [if_pos e]; exact .inr rfl
  · rw [if_neg e]; exact .inl rfl
theorem law_exit_sat {M : DM} {Q : D → DM → Prop} (P : PoolAt M) (q : ∀ d s M', PendOk d s → Drew M M' → Q d M') : (g_law_exit [.obj 1] M).sat Q := by
  unfold g_law_exit f_law_exit fnD
  walk_at "dx"
  refine law_draw_sat P (by decide) fun r M1 h1 h2 D1 => ?_
  by_cases e0 : r = 0
  · walk_at "dx"
    refine law_number_sat D1.at_ fun n M2 _ _ D2 => ?_
    exact q _ _ M2 ⟨_, _, rfl, rfl⟩ (D1.trans D2)
  · by_cases e1 : r = 1
    · walk_at "dx"
      refine law_name_sat D1.at_ fun s M2 _ D2 => ?_
      exact q _ _ M2 ⟨_, _, rfl, rfl⟩ (D1.trans D2)
    · walk_at "dx"
      refine law_name_sat D1.at_ fun s M2 _ D2 => ?_
      exact q _ _ M2 ⟨_, _, rfl, rfl⟩ (D1.trans D2)
theorem law_store_sat {M : DM} {l : Nat} {nk : List (Str × D)} {cs : List (Str × Int)} {n m : Nat} {Q : D → DM → Prop} (O : LoreOk nk cs n m) (hm : m ≤ 2) (P : PoolAt M) (L : LoreAt M l nk cs) (q : ∀ vs M', StoreOk cs vs → Grew M M' → Q (.tup vs) M') : (g_law_store [.obj 1, .obj l] M).sat Q := by
  obtain ⟨la, lb, lp, g0, g1, g2, g3, g4⟩ := L.ex
  have clen := O.clen
  have two := P.two
  have lpl := lt_of_get g4
  have i1 : iV (e2 ixD (eVar 1) (eC (D.int 2))) [some (.obj 1), some (.obj l), none] M = .ok (itL lp ((cs.map cellD).length + 1)) M := by
    have : ixD (.obj l) (.int 2) M = .ok (.obj lp) M := ixo (k := 2) g1 rfl
    simp only [iV, e2, eVar, eC, List.getElem?_cons_zero, List.getElem?_cons_succ, bind_ok, this, iVal, g4]
  obtain ⟨vs, M', e, gv, hl, hv, G⟩ := lcIt_ok (n := M.length) (g := cNm 2) (ft := tYesD) (fe := eCall g_law_draw (aCons (eVar 0) (aCons (e2 ixD (eVar 2) (eC (D.int 1))) aNil))) (it := itL lp ((cs.map cellD).length + 1)) (δ := wipeD [some (.obj 1), some (.obj l), none] [2]) (cs.map cellD)
    (fun i acc M' => M'[M.length]? = some (.lst acc) ∧ acc.length = i ∧ (∀ v ∈ acc, ∃ i : Int, v = .int i ∧ 0 ≤ i ∧ i < 1000) ∧ Grew M M')
    (fun i acc M' h => by simp only [itL, h.2.2.2.at_ (by omega) g4]) (by
      rintro i d acc M1 hd ⟨ga, hal, hv, G⟩
      rw [List.getElem?_map] at hd
      cases ei : cs[i]? with
      | none => rw [ei] at hd; cases hd
      | some c =>
        rw [ei] at hd
        cases hd
        have hi := (List.getElem?_eq_some_iff.mp ei).1
        have cok := (O.cok c (List.mem_of_getElem? ei)).2
        obtain ⟨dv, M2, ed, hd1, D2⟩ := sat_get (law_draw_sat (L := c.2) (M := M1) (Q := fun d M2 => (∃ i : Int, d = .int i ∧ 0 ≤ i ∧ i < 1000) ∧ Drew M1 M2) G.pool (by rcases cok with e | e <;> rw [e] <;> decide) fun r M' a b D => ⟨⟨r, rfl, a, by rcases cok with e | e <;> omega⟩, D⟩)
        have ga2 : M2[M.length]? = some (.lst acc) := (D2.get (by omega)).trans ga
        refine ⟨_, rfl, .inr ⟨M1, dv, M2, rfl, ?_, ga2, by rw [sizeLine_eq]; omega, get_self ga2, by rw [List.length_append, hal]; rfl, fun v hm => ?_, (G.trans D2.grew).set P (Nat.le_refl _) _⟩⟩
        · simp only [eCall, aCons, aNil, e2, eVar, eC, wipeD, List.set_cons_zero, List.set_cons_succ, List.getElem?_cons_zero, List.getElem?_cons_succ, bind_ok, ix1, ed]
        · rcases List.mem_append.mp hm with z | z
          · exact hv v z
          · rw [List.mem_singleton.mp z]; exact hd1)
    ((cs.map cellD).length + 1) 0 [] (M ++ [.lst []]) (by omega) (by omega) ⟨get_new, rfl, by simp, (Grew.refl P).app _⟩
  rw [List.length_map] at hl
  have lc : eLc [2] (iV (e2 ixD (eVar 1) (eC (D.int 2)))) (cNm 2) tYesD (eCall g_law_draw (aCons (eVar 0) (aCons (e2 ixD (eVar 2) (eC (D.int 1))) aNil))) [some (.obj 1), some (.obj l), none] M = .ok (.obj M.length) M' := by
    unfold eLc
    rw [i1]
    have fu : (itL lp ((cs.map cellD).length + 1)).fu = (cs.map cellD).length + 1 := rfl
    simp only [bind_ok]
    rw [fu, e]
  have t1 : tupleD [.obj M.length] M' = .ok (.tup vs) M' := by simp only [tupleD, itemsD, gv]
  have fin := q vs M' ⟨hl, hv⟩ G
  show ((sRet (eCall tupleD (aCons _ aNil)) [some (.obj 1), some (.obj l), none] M).fin).sat Q
  simp only [sRet, eCall, aCons, aNil, lc, bind_ok, t1, ro_ok, fin_rt, sat_ok]
  exact fin
theorem law_state_eq {M : DM} {d : D} {s : Str} (h : PendOk d s) : g_law_state [d] M = .ok (.str s) M := by
  obtain ⟨w, x, rfl, rfl⟩ := h
  unfold g_law_state f_law_state fnD
  by_cases e : w = ("raise" : Str)
  · walk_at "dx"
  · walk_at "dx"
theorem state_eq {M : DM} {d : D} {s : Str} (h : PendOk d s) : g_state [d] M = .ok (.str s) M := law_state_eq h
end DL

set_option Elab.async false
set_option linter.all false
set_option maxRecDepth 100000
set_option maxHeartbeats 4000000
namespace DL
open PySem PySem.Spec L2
open PyProof.Rows hiding St
local macro_rules | `(tactic| walk_at "dx") => `(tactic| try simp (disch := first | decide | assumption | omega) only [sPut, sOset, sFldD, eMeth, eMake, ePr, eMt, eCh, sAug, oN, oS, eSl, eDic0, eCv, sSeq, sIf, sRet, sRetN, sNil, sSet, sExpr, sAsg, gTupN, gNms, gNm, tb, tNotF, tAndF, tOrF, eNot, eAnd, eOr, eIf, eTup, eLst, aCons, aNil, eCall, e1, e2, eVar, eC, negD, bind_ok, ro_ok, seq_nx, seq_rt, seq_ct, seq_bk, fin_rt, fin_nx, sat_ok, sat_bind, sat_fin, sat_seq, sat_ro, rsat_nx, rsat_rt, rsat_ct, rsat_bk, seqQ_nx, seqQ_rt, seqQ_ct, seqQ_bk, finQ_nx, finQ_rt, loopQ_nx, loopQ_ct, loopQ_bk, loopQ_rt, sSub, ixo0, ixo1, ixo2, ixo3, ixo4, puts1, puts2, puts3, puts4, List.map_cons, List.map_nil, List.length_cons, List.length_nil, Nat.reduceAdd, Nat.reduceSub, List.replicate_succ, List.replicate_zero, List.nil_append, List.cons_append, List.getElem?_cons_zero, List.getElem?_cons_succ, List.set_cons_zero, List.set_cons_succ, ix0, ix1, ix2, ix3, ix4, eq_ss, eq_ii, eq_bb, ne_ss, ne_ii, add_ii, sub_ii, mul_ii, mod_ii, fdiv_ii, ord_ii, isN_, isNonD, int_i, if_true, if_false, Bool.false_eq_true, Bool.true_eq_false, Bool.not_true, Bool.not_false, decide_eq_true_eq, Bool.and_true, Bool.true_and, Bool.and_false, Bool.false_and, Bool.or_true, Bool.or_false, Bool.true_or, Bool.false_or, ofString_inj, String.reduceEq, decide_true, decide_false, Int.reduceLT, Int.reduceLE, Int.reduceEq, Int.reduceNeg, Int.reduceSub, Int.reduceAdd, Int.reducePow, Int.reduceMul, true_or, or_true, false_or, or_false, true_and, and_true, false_and, and_false, not_true_eq_false, not_false_eq_true, *])
theorem cut_take {ds : List D} {k : Nat} (h : k ≤ ds.length) : cutD ds none (some (k : Int)) = ds.take k := by
  unfold cutD
  rw [HT.sIx_none, HT.sIx_nat]
  simp [Nat.min_eq_left h]
theorem cut_drop {ds : List D} {k : Nat} : cutD ds (some (k : Int)) none = ds.drop k := by
  unfold cutD
  rw [HT.sIx_none, HT.sIx_nat]
  rcases Nat.le_total k ds.length with h | h
  · rw [Nat.min_eq_left h, List.take_of_length_le (by simp)]
  · rw [Nat.min_eq_right h]
    simp [List.drop_eq_nil_of_le h]
theorem cut_mem {ds : List D} {lo hi : Option Int} {d : D} (h : d ∈ cutD ds lo hi) : d ∈ ds := List.mem_of_mem_drop (List.mem_of_mem_take h)
theorem cut_mid {ds : List D} {a b : Nat} (h : a ≤ b) : (cutD ds (some (a : Int)) (some (b : Int))).length ≤ b - a := by
  unfold cutD
  rw [HT.sIx_nat, HT.sIx_nat, List.length_take]
  omega
/-- the second words -/
def Words4 (nk : List (Str × D)) (cs : List (Str × Int)) (ws : List D) : Prop := (∀ d ∈ ws, ActOk nk cs 3 d) ∧ ws.length ≤ 5
theorem isi_t {ds : List D} {M : DM} : isiD [.tup ds, .ty "tuple"] M = .ok (.bl true) M := isi_eq rfl isi_tab1.2.2.2.1
theorem isi_n {M : DM} : isiD [.non, .ty "tuple"] M = .ok (.bl false) M := isi_eq rfl isi_tab4.1
theorem isi_i {n : Int} {M : DM} : isiD [.int n, .ty "tuple"] M = .ok (.bl false) M := isi_eq rfl isi_tab4.2
theorem arg_isi {cs : List (Str × Int)} {a : D} (ha : ArgOk cs a) : (∃ b, ∀ M, isiD [a, .ty "tuple"] M = .ok (.bl b) M ∧ (b = true → ∃ w s, a = .tup [.str w, .str s] ∧ s ∈ cs.map (·.1))) := by
  rcases ha.ex with rfl | ⟨n, rfl, h⟩ | ⟨w, s, hw, hs, rfl⟩
  · exact ⟨false, fun M => ⟨isi_n, fun z => nomatch z⟩⟩
  · exact ⟨false, fun M => ⟨isi_i, fun z => nomatch z⟩⟩
  · exact ⟨true, fun M => ⟨isi_t, fun _ => ⟨w, s, rfl, hs⟩⟩⟩
abbrev putD2 (d : D) : D := .tup [.str "put", d]
theorem law_put_twin_sat {M : DM} {nk : List (Str × D)} {cs : List (Str × Int)} {d : D} {Q : D → DM → Prop} (hd : ActOk nk cs 3 d) (q : ∀ ds : List D, (∀ x ∈ ds, ActOk nk cs 3 x) → ds.length ≤ 2 → Q (.tup (ds.map putD2)) M) : (g_law_put_twin [d, .bl true] M).sat Q := by
  obtain ⟨g, s, a, fs, rfl, hg, hs, ha, hf, hz, he⟩ := hd
  unfold g_law_put_twin f_law_put_twin fnD
  by_cases e1 : g = ("always" : Str)
  · have fin := q [mkA "done" s a fs, mkA "error" s a []] (fun x hx => by
      simp only [List.mem_cons, List.not_mem_nil, or_false] at hx
      rcases hx with rfl | rfl
      · exact ⟨_, s, a, fs, rfl, .inl rfl, hs, ha, hf, hz, fun z => absurd z (by simp [ofString_inj])⟩
      · exact ⟨_, s, a, [], rfl, .inr (.inl rfl), hs, ha, by simp, by simp, fun _ => rfl⟩) (by simp)
    clear q hf hz he hs ha hg
    walk_at "dx"
    exact fin
  · by_cases hcase : 0 < fs.length ∧ ∃ x r, fs = x :: r ∧ grd x = "done"
    · obtain ⟨_, x, r, rfl, gx⟩ := hcase
      have hx := hf x (List.mem_cons_self ..)
      obtain ⟨g', s', a', fs', rfl, hg', hs', ha', hf', hz', he'⟩ := hx
      have gx : g' = "done" := gx
      subst gx
      obtain ⟨b, hb⟩ := arg_isi ha'
      have hl : (0 : Int) < ((mkA "done" s' a' fs' :: r).length : Int) := by rw [List.length_cons]; omega
      have hl2 : ((mkA "done" s' a' fs' :: r).length : Int) = ((r.length + 1 : Nat) : Int) := by simp
      have cd : cutD (mkA "done" s' a' fs' :: r) (some 1) none = r := cut_drop (k := 1)
      have ok2 : ActOk nk cs 3 (mkA g s a r) := ⟨g, s, a, r, rfl, hg, hs, ha, fun y hy => hf y (List.mem_cons_of_mem _ hy), by simp at hz; omega, fun z => by have := he z; cases this⟩
      have lt1 : (0 : Int) < ((r.length + 1 : Nat) : Int) := by omega
      have isb : ∀ M, isiD [a', .ty "tuple"] M = .ok (.bl b) M := fun M => (hb M).1
      have sl : ∀ M, sliceD (.tup (mkA "done" s' a' fs' :: r)) (some 1) none M = .ok (.tup r) M := fun M => by simp only [sliceD, cd]
      have ll : ∀ M, lenD [.tup (mkA "done" s' a' fs' :: r)] M = .ok (.int ((mkA "done" s' a' fs' :: r).length : Int)) M := fun M => len_t
      cases b with
      | false =>
        have fin := q [mkA "done" s' a' fs', mkA g s a r] (fun x hx => by
          simp only [List.mem_cons, List.not_mem_nil, or_false] at hx
          rcases hx with rfl | rfl
          · exact (hf _ (List.mem_cons_self ..)).succ
          · exact ok2) (by simp)
        clear q hf hz he hs ha hg hb hf' hz' he' hs' ha' hg' hl2 ok2 cd hl
        walk_at "dx"
        exact fin
      | true =>
        obtain ⟨w, c, rfl, hc⟩ := (hb M).2 rfl
        have fin := q [mkA "done" s' (.tup [.str "late", .str c]) fs', mkA g s a r] (fun x hx => by
          simp only [List.mem_cons, List.not_mem_nil, or_false] at hx
          rcases hx with rfl | rfl
          · exact ActOk.succ (n := 2) ⟨_, s', _, fs', rfl, hg', hs', ⟨.inr (.inr ⟨_, _, .inr rfl, hc, rfl⟩)⟩, hf', hz', he'⟩
          · exact ok2) (by simp)
        clear q hf hz he hs ha hg hb hf' hz' he' hs' ha' hg' hl2 ok2 cd hl
        walk_at "dx"
        exact fin
    · have no : ∀ M, (tAndF (tb (e2 gtD (eCall lenD (aCons (eVar 5) aNil)) (eC (D.int 0)))) (tb (DL.e2 eqD (DL.e2 ixD (DL.e2 ixD (eVar 5) (eC (D.int 0))) (eC (D.int 0))) (eC (D.str "done"))))) [some (mkA g s a fs), some (.bl true), some (.str g), some (.str s), some a, some (.tup fs), none, none, none, none] M = .ok false M := by
        intro M
        cases fs with
        | nil =>
          have l0 : lenD [.tup ([] : List D)] M = .ok (.int 0) M := rfl
          simp only [tAndF, tb, DL.e2, eCall, aCons, aNil, eVar, eC, List.getElem?_cons_zero, List.getElem?_cons_succ, bind_ok, l0, gt_ii]
          rfl
        | cons x r =>
          have gx : ¬ grd x = "done" := fun z => hcase ⟨by simp, x, r, rfl, z⟩
          obtain ⟨g', s', a', fs', rfl⟩ := (hf x (List.mem_cons_self ..)).isA
          have gx : ¬ g' = "done" := gx
          have ll : lenD [.tup (mkA g' s' a' fs' :: r)] M = .ok (.int ((mkA g' s' a' fs' :: r).length : Int)) M := len_t
          have lt1 : decide ((0 : Int) < ((mkA g' s' a' fs' :: r).length : Int)) = true := decide_eq_true (by rw [List.length_cons]; omega)
          simp only [tAndF, tb, DL.e2, eCall, aCons, aNil, eVar, eC, List.getElem?_cons_zero, List.getElem?_cons_succ, bind_ok, ll, gt_ii, lt1, if_true, ix0, eq_ss, gx, decide_false]
      obtain ⟨b, hb⟩ := arg_isi ha
      have isb : ∀ M, isiD [a, .ty "tuple"] M = .ok (.bl b) M := fun M => (hb M).1
      rw [show (tAndF (tb (DL.e2 gtD (eCall lenD (aCons (eVar 5) aNil)) (eC (D.int 0)))) (tb (DL.e2 eqD (DL.e2 ixD (DL.e2 ixD (eVar 5) (eC (D.int 0))) (eC (D.int 0))) (eC (D.str "done"))))) = (tAndF (tb (DL.e2 gtD (eCall lenD (aCons (eVar 5) aNil)) (eC (D.int 0)))) (tb (DL.e2 eqD (DL.e2 ixD (DL.e2 ixD (eVar 5) (eC (D.int 0))) (eC (D.int 0))) (eC (D.str "done"))))) from rfl]
      generalize (tAndF (tb (DL.e2 gtD (eCall lenD (aCons (eVar 5) aNil)) (eC (D.int 0)))) (tb (DL.e2 eqD (DL.e2 ixD (DL.e2 ixD (eVar 5) (eC (D.int 0))) (eC (D.int 0))) (eC (D.str "done"))))) = T at *
      cases b with
      | false =>
        have fin := q [mkA g s a fs] (fun x hx => by
          have : x = mkA g s a fs := by simpa using hx
          rw [this]
          exact ⟨g, s, a, fs, rfl, hg, hs, ha, hf, hz, he⟩) (by simp)
        clear q hf hz he hs ha hg hb hcase
        walk_at "dx"
        exact fin
      | true =>
        obtain ⟨w, c, rfl, hc⟩ := (hb M).2 rfl
        have mk : ∀ w' : Str, w' = "now" ∨ w' = "late" → ActOk nk cs 3 (mkA g s (.tup [.str w', .str c]) fs) := fun w' hw => ⟨g, s, _, fs, rfl, hg, hs, ⟨.inr (.inr ⟨w', c, hw, hc, rfl⟩)⟩, hf, hz, he⟩
        by_cases hw : w = ("now" : Str)
        · subst hw
          have fin := q [mkA g s (.tup [.str "late", .str c]) fs] (fun x hx => by
            rw [List.mem_singleton.mp hx]; exact mk _ (.inr rfl)) (by simp)
          clear q hf hz he hs ha hg hb hcase mk
          walk_at "dx"
          exact fin
        · have fin := q [mkA g s (.tup [.str "now", .str c]) fs] (fun x hx => by
            rw [List.mem_singleton.mp hx]; exact mk _ (.inl rfl)) (by simp)
          clear q hf hz he hs ha hg hb hcase mk
          walk_at "dx"
          exact fin
theorem law_second_sat {M : DM} {l : Nat} {nk : List (Str × D)} {cs : List (Str × Int)} {n m : Nat} {ws : List D} {pd : D} {s : Str} {Q : D → DM → Prop} (O : LoreOk nk cs n m) (hn : n ≤ 12) (hm : m ≤ 2) (P : PoolAt M) (L : LoreAt M l nk cs) (W : Words nk cs ws) (hp : PendOk pd s)
    (q : ∀ us M', Words4 nk cs us → Grew M M' → Q (.tup us) M') : (g_law_second [.obj 1, .obj l, .tup ws, pd] M).sat Q := by
  obtain ⟨hw, hz, _⟩ := W
  have st := fun M => law_state_eq (M := M) hp
  have two := hp.two
  unfold g_law_second f_law_second fnD
  have ll : ∀ M, lenD [.tup ws] M = .ok (.int (ws.length : Int)) M := fun M => len_t
  walk_at "dx"
  refine law_draw_sat P (by decide) fun ch M1 h1 h2 D1 => ?_
  have G1 := D1.grew
  by_cases e7 : ch = 7
  · clear st
    walk_at "dx"
    exact law_word_sat O hn hm G1.pool (L.grew G1) fun us M2 W2 G2 => q us M2 ⟨W2.1, by have := W2.2.1; omega⟩ (G1.trans G2)
  by_cases e0 : ws.length = 0
  · obtain rfl : ws = [] := List.length_eq_zero_iff.mp e0
    have z0 : (((0 : Nat) : Int) = 0) = True := by simp
    clear st ll e0
    walk_at "dx"
    exact law_word_sat O hn hm G1.pool (L.grew G1) fun us M2 W2 G2 => q us M2 ⟨W2.1, by have := W2.2.1; omega⟩ (G1.trans G2)
  have e0' : ¬ (ws.length : Int) = 0 := by omega
  walk_at "dx"
  refine law_draw_sat G1.pool (by omega) fun at_ M2 h3 h4 D2 => ?_
  have G2 := G1.trans D2.grew
  obtain ⟨k, rfl⟩ : ∃ k : Nat, at_ = (k : Int) := ⟨at_.toNat, by omega⟩
  have hk : k < ws.length := by omega
  obtain ⟨d, hd⟩ : ∃ d, ws[k]? = some d := ⟨_, List.getElem?_eq_getElem hk⟩
  have hdm := List.mem_of_getElem? hd
  have dok := hw d hdm
  obtain ⟨g, sp, a, fs, rfl, hg, hs, ha, hf, hfz, he⟩ := hw d hdm
  have ix := fun M : DM => ixn (M := M) hd
  have c1 : cutD ws none (some (k : Int)) = ws.take k := cut_take (by omega)
  have c2 : cutD ws (some ((k : Int) + 1)) none = ws.drop (k + 1) := cut_drop (k := k + 1)
  have s1 : ∀ M, sliceD (.tup ws) none (some (k : Int)) M = .ok (.tup (ws.take k)) M := fun M => by simp only [sliceD, c1]
  have s2 : ∀ M, sliceD (.tup ws) (some ((k : Int) + 1)) none M = .ok (.tup (ws.drop (k + 1))) M := fun M => by simp only [sliceD, c2]
  have lt := List.length_take (i := k) (l := ws)
  have ld := List.length_drop (i := k + 1) (l := ws)
  have mt : ∀ x ∈ ws.take k, ActOk nk cs 3 x := fun x hx => hw x (List.mem_of_mem_take hx)
  have md : ∀ x ∈ ws.drop (k + 1), ActOk nk cs 3 x := fun x hx => hw x (List.mem_of_mem_drop hx)
  have join : ∀ X : List D, (∀ x ∈ X, ActOk nk cs 3 x) → X.length ≤ 2 → Words4 nk cs (ws.take k ++ X ++ ws.drop (k + 1)) := fun X hX hl => by
    refine ⟨fun x hx => ?_, by rw [List.length_append, List.length_append]; omega⟩
    rcases List.mem_append.mp hx with z | z
    · rcases List.mem_append.mp z with z | z
      · exact mt x z
      · exact hX x z
    · exact md x z
  have ad : ∀ (X : List D) M, X.length ≤ 100 → addD (.tup (ws.take k)) (.tup X) M = .ok (.tup (ws.take k ++ X)) M := fun X M h => add_tt (by omega)
  have ad2 : ∀ (X : List D) M, X.length ≤ 100 → addD (.tup (ws.take k ++ X)) (.tup (ws.drop (k + 1))) M = .ok (.tup (ws.take k ++ X ++ ws.drop (k + 1))) M := fun X M h => add_tt (by rw [List.length_append]; omega)
  by_cases k2 : ch < 2
  · obtain ⟨dt, Mt, et, ⟨ds, hds, hdz, rfl⟩, hM⟩ := sat_get (law_put_twin_sat (M := M2) (Q := fun d M' => (∃ ds : List D, (∀ x ∈ ds, ActOk nk cs 3 x) ∧ ds.length ≤ 2 ∧ d = .tup (ds.map putD2)) ∧ M' = M2) dok fun ds h1 h2 => ⟨⟨ds, h1, h2, rfl⟩, rfl⟩)
    subst hM
    have iv : iV (eCall g_law_put_twin (aCons (e2 ixD (eVar 2) (eVar 5)) (aCons (eC (D.bl true)) aNil))) [some (.obj 1), some (.obj l), some (.tup ws), some pd, some (.int ch), some (.int (k : Int)), some (.str g), some (.str sp), some a, some (.tup fs), none] Mt = .ok (itS (ds.map putD2)) Mt := by
      simp only [iV, eCall, aCons, aNil, e2, eVar, eC, List.getElem?_cons_zero, List.getElem?_cons_succ, bind_ok, ix, et, iVal]
    have key := lcIt_pure (n := Mt.length) (g := cNm 10) (ft := tYesD) (fe := e2 ixD (eVar 10) (eC (D.int 1))) (it := itS (ds.map putD2)) (δ := [some (.obj 1), some (.obj l), some (.tup ws), some pd, some (.int ch), some (.int (k : Int)), some (.str g), some (.str sp), some a, some (.tup fs), none]) (M := Mt) rfl
      (ds.map putD2) (fun d => match d with | .tup [_, x] => x | _ => .non) (by simp; omega) (fun acc i => rfl) (fun acc i d hd => by
        rw [List.getElem?_map] at hd
        cases ei : ds[i]? with
        | none => rw [ei] at hd; cases hd
        | some x =>
          rw [ei] at hd
          cases hd
          exact ⟨_, rfl, rfl, rfl⟩) ((ds.map putD2).length + 1) 0 [] (Nat.zero_le _) (by omega) rfl
    have eF : ((ds.map putD2).drop 0).map (fun d => match d with | .tup [_, x] => x | _ => .non) = ds := by
      rw [List.drop_zero, List.map_map]
      have : ((fun d => match d with | .tup [_, x] => x | _ => .non) ∘ putD2) = (id : D → D) := rfl
      rw [this, List.map_id]
    rw [eF, List.nil_append] at key
    have lc : eLc [10] (iV (eCall g_law_put_twin (aCons (e2 ixD (eVar 2) (eVar 5)) (aCons (eC (D.bl true)) aNil)))) (cNm 10) tYesD (e2 ixD (eVar 10) (eC (D.int 1))) [some (.obj 1), some (.obj l), some (.tup ws), some pd, some (.int ch), some (.int (k : Int)), some (.str g), some (.str sp), some a, some (.tup fs), none] Mt = .ok (.obj Mt.length) (Mt ++ [.lst ds]) := by
      unfold eLc
      rw [iv]
      have fu : (itS (ds.map putD2)).fu = (ds.map putD2).length + 1 := rfl
      have w : wipeD [some (D.obj 1), some (.obj l), some (.tup ws), some pd, some (.int ch), some (.int (k : Int)), some (.str g), some (.str sp), some a, some (.tup fs), none] [10] = [some (.obj 1), some (.obj l), some (.tup ws), some pd, some (.int ch), some (.int (k : Int)), some (.str g), some (.str sp), some a, some (.tup fs), none] := rfl
      simp only [bind_ok]
      rw [fu, w, key]
    have t1 : tupleD [.obj Mt.length] (Mt ++ [.lst ds]) = .ok (.tup ds) (Mt ++ [.lst ds]) := by simp only [tupleD, itemsD, get_new]
    have fin := q _ (Mt ++ [.lst ds]) (join ds hds hdz) (G2.app [.lst ds])
    have a1 := ad ds (Mt ++ [.lst ds]) (by omega)
    have a2 := ad2 ds (Mt ++ [.lst ds]) (by omega)
    clear q join ad ad2 mt md st iv key et hw
    walk_at "dx"
  have f2 : ¬ ch < 2 := k2
  by_cases k3 : ch = 2
  · rcases two with rfl | rfl
    · have fin := q (ws ++ [mkA "error" sp a []]) M2 ⟨fun x hx => by
        rcases List.mem_append.mp hx with z | z
        · exact hw x z
        · rw [List.mem_singleton.mp z]; exact ⟨_, sp, a, [], rfl, .inr (.inl rfl), hs, ha, by simp, by simp, fun _ => rfl⟩, by simp; omega⟩ G2
      have a1 : ∀ M, addD (.tup ws) (.tup [mkA "error" sp a []]) M = .ok (.tup (ws ++ [mkA "error" sp a []])) M := fun M => add_tt (by simp; omega)
      clear q join ad ad2 mt md hw
      walk_at "dx"
    · have fin := q (ws ++ [mkA "done" sp a fs]) M2 ⟨fun x hx => by
        rcases List.mem_append.mp hx with z | z
        · exact hw x z
        · rw [List.mem_singleton.mp z]; exact ⟨_, sp, a, fs, rfl, .inl rfl, hs, ha, hf, hfz, fun z => absurd z (by simp [ofString_inj])⟩, by simp; omega⟩ G2
      have a1 : ∀ M, addD (.tup ws) (.tup [mkA "done" sp a fs]) M = .ok (.tup (ws ++ [mkA "done" sp a fs])) M := fun M => add_tt (by simp; omega)
      clear q join ad ad2 mt md hw
      walk_at "dx"
  have lf : ∀ M, lenD [.tup fs] M = .ok (.int (fs.length : Int)) M := fun M => len_t
  by_cases k4 : ch = 3 ∧ 0 < fs.length
  · obtain ⟨rfl, k4⟩ := k4
    obtain ⟨x, r, rfl⟩ : ∃ x r, fs = x :: r := by
      cases fs with
      | nil => simp at k4
      | cons x r => exact ⟨x, r, rfl⟩
    have cd : cutD (x :: r) (some 1) none = r := cut_drop (k := 1)
    have sl : ∀ M, sliceD (.tup (x :: r)) (some 1) none M = .ok (.tup r) M := fun M => by simp only [sliceD, cd]
    have lp : (0 : Int) < ((r.length + 1 : Nat) : Int) := by omega
    have fin := q _ M2 (join [x, mkA g sp a r] (fun y hy => by
      simp only [List.mem_cons, List.not_mem_nil, or_false] at hy
      rcases hy with rfl | rfl
      · exact (hf _ (List.mem_cons_self ..)).succ
      · exact ⟨g, sp, a, r, rfl, hg, hs, ha, fun z hz => hf z (List.mem_cons_of_mem _ hz), by simp at hfz; omega, fun z => by have := he z; cases this⟩) (by simp)) G2
    have a1 := ad [x, mkA g sp a r] M2 (by simp)
    have a2 := ad2 [x, mkA g sp a r] M2 (by simp)
    clear q join ad ad2 mt md hw cd
    walk_at "dx"
  have no4 : ¬ ((ch = 3) ∧ (0 : Int) < (fs.length : Int)) := fun z => k4 ⟨z.1, by omega⟩
  have br : (tAndF (tb (e2 eqD (eVar 4) (eC (D.int 3)))) (tb (e2 gtD (eCall lenD (aCons (eVar 9) aNil)) (eC (D.int 0))))) [some (.obj 1), some (.obj l), some (.tup ws), some pd, some (.int ch), some (.int (k : Int)), some (.str g), some (.str sp), some a, some (.tup fs), none] M2 = .ok false M2 := by
    simp only [tAndF, tb, e2, eVar, eC, eCall, aCons, aNil, List.getElem?_cons_zero, List.getElem?_cons_succ, bind_ok, eq_ii, lf, gt_ii]
    by_cases z : ch = 3
    · have : ¬ (0 : Int) < (fs.length : Int) := fun y => no4 ⟨z, y⟩
      simp only [z, decide_true, if_true, this, decide_false]
    · simp only [z, decide_false, Bool.false_eq_true, if_false]
  by_cases k5 : ch = 4
  · subst k5
    have c3 : cutD ws (some ((k : Int) + 1)) (some ((k : Int) + 2)) = cutD ws (some ((k + 1 : Nat) : Int)) (some ((k + 2 : Nat) : Int)) := rfl
    have c4 : cutD ws (some (k : Int)) (some ((k : Int) + 1)) = cutD ws (some (k : Int)) (some ((k + 1 : Nat) : Int)) := rfl
    have l3 := cut_mid (ds := ws) (a := k + 1) (b := k + 2) (by omega)
    have l4 := cut_mid (ds := ws) (a := k) (b := k + 1) (by omega)
    have c5 : cutD ws (some ((k : Int) + 2)) none = ws.drop (k + 2) := cut_drop (k := k + 2)
    have ld2 := List.length_drop (i := k + 2) (l := ws)
    have s3 : ∀ M, sliceD (.tup ws) (some ((k : Int) + 1)) (some ((k : Int) + 2)) M = .ok (.tup (cutD ws (some ((k : Int) + 1)) (some ((k : Int) + 2)))) M := fun M => rfl
    have s4 : ∀ M, sliceD (.tup ws) (some (k : Int)) (some ((k : Int) + 1)) M = .ok (.tup (cutD ws (some (k : Int)) (some ((k : Int) + 1)))) M := fun M => rfl
    have s5 : ∀ M, sliceD (.tup ws) (some ((k : Int) + 2)) none M = .ok (.tup (ws.drop (k + 2))) M := fun M => by simp only [sliceD, c5]
    have m3 : ∀ x ∈ cutD ws (some ((k : Int) + 1)) (some ((k : Int) + 2)), ActOk nk cs 3 x := fun x hx => hw x (cut_mem hx)
    have m4 : ∀ x ∈ cutD ws (some (k : Int)) (some ((k : Int) + 1)), ActOk nk cs 3 x := fun x hx => hw x (cut_mem hx)
    have m5 : ∀ x ∈ ws.drop (k + 2), ActOk nk cs 3 x := fun x hx => hw x (List.mem_of_mem_drop hx)
    rw [← c3] at l3
    rw [← c4] at l4
    generalize cutD ws (some ((k : Int) + 1)) (some ((k : Int) + 2)) = X3 at *
    generalize cutD ws (some (k : Int)) (some ((k : Int) + 1)) = X4 at *
    have a1 := ad X3 M2 (by omega)
    have a2 : addD (.tup (ws.take k ++ X3)) (.tup X4) M2 = .ok (.tup (ws.take k ++ X3 ++ X4)) M2 := add_tt (by rw [List.length_append]; omega)
    have a3 : addD (.tup (ws.take k ++ X3 ++ X4)) (.tup (ws.drop (k + 2))) M2 = .ok (.tup (ws.take k ++ X3 ++ X4 ++ ws.drop (k + 2))) M2 := add_tt (by rw [List.length_append, List.length_append]; omega)
    have fin := q (ws.take k ++ X3 ++ X4 ++ ws.drop (k + 2)) M2 ⟨fun x hx => by
      rcases List.mem_append.mp hx with z | z
      · rcases List.mem_append.mp z with z | z
        · rcases List.mem_append.mp z with z | z
          · exact mt x z
          · exact m3 x z
        · exact m4 x z
      · exact m5 x z, by rw [List.length_append, List.length_append, List.length_append]; omega⟩ G2
    clear q join ad ad2 mt md hw c3 c4 no4 k4 m3 m4 m5
    walk_at "dx"
  by_cases k6 : ch = 5
  · subst k6
    clear no4 k4
    walk_at "dx"
    refine law_argument_sat G2.pool (L.grew G2) O hm fun a' M3 ha' D3 => ?_
    have fin := q _ M3 (join [mkA g sp a' fs] (fun y hy => by
      rw [List.mem_singleton.mp hy]
      exact ⟨g, sp, a', fs, rfl, hg, hs, ha', hf, hfz, he⟩) (by simp)) (G2.trans D3.grew)
    have a1 := ad [mkA g sp a' fs] M3 (by simp)
    have a2 := ad2 [mkA g sp a' fs] M3 (by simp)
    clear q join ad ad2 mt md hw br
    walk_at "dx"
  · have fin := q _ M2 (join [] (by simp) (by simp)) G2
    rw [List.append_nil] at fin
    have a1 : addD (.tup (ws.take k)) (.tup (ws.drop (k + 1))) M2 = .ok (.tup (ws.take k ++ ws.drop (k + 1))) M2 := add_tt (by omega)
    clear q join ad ad2 mt md hw k4 br
    by_cases z : ch = 3
    · have nl : ¬ (0 : Int) < (fs.length : Int) := fun y => no4 ⟨z, y⟩
      clear no4
      walk_at "dx"
    · clear no4
      walk_at "dx"
end DL

set_option Elab.async false
set_option linter.all false
set_option maxRecDepth 100000
set_option maxHeartbeats 4000000
namespace DL
open PySem PySem.Spec L2
open PyProof.Rows hiding St
/-! ### a word is told: every argument is replaced by its value -/
def tellD (cs : List (Str × Int)) (vs : List D) : D → D
  | .tup [.str g, .str s, a, .tup fs] => .tup [.str g, .str s, valP cs vs a, .tup (fs.attach.map fun x => tellD cs vs x.1)]
  | d => d
termination_by d => sizeOf d
decreasing_by
  have := List.sizeOf_lt_of_mem x.2
  simp only [D.tup.sizeOf_spec, List.cons.sizeOf_spec, List.nil.sizeOf_spec]
  omega
theorem tell_mk {cs : List (Str × Int)} {vs : List D} {g s : Str} {a : D} {fs : List D} : tellD cs vs (mkA g s a fs) = mkA g s (valP cs vs a) (fs.map (tellD cs vs)) := by
  rw [tellD]
  have : fs.attach.map (fun x => tellD cs vs x.1) = (fs.attach.map (·.1)).map (tellD cs vs) := by rw [List.map_map]; rfl
  rw [this, List.attach_map_subtype_val]
def TellOk (cs : List (Str × Int)) : Nat → D → Prop
  | 0, _ => False
  | n + 1, d => ∃ g s a fs, d = mkA g s a fs ∧ ArgOk cs a ∧ (∀ f ∈ fs, TellOk cs n f) ∧ fs.length ≤ 900
theorem ArgOk.nil {cs : List (Str × Int)} {a : D} (h : ArgOk [] a) : ArgOk cs a := by
  rcases h.ex with z | z | ⟨w, s, _, z, _⟩
  · exact ⟨.inl z⟩
  · exact ⟨.inr (.inl z)⟩
  · cases z
theorem val_nil {cs : List (Str × Int)} {vs : List D} {a : D} (h : ArgOk [] a) : valP cs vs a = a := by
  rcases h.ex with rfl | ⟨n, rfl, _⟩ | ⟨w, s, _, z, _⟩
  · rfl
  · rfl
  · cases z
theorem ActOk.tell {nk : List (Str × D)} {cs : List (Str × Int)} : ∀ {n : Nat} {d : D}, ActOk nk cs n d → TellOk cs n d
  | 0, d, h => h.elim
  | n + 1, d, ⟨g, s, a, fs, e, _, _, ha, hf, hz, _⟩ => ⟨g, s, a, fs, e, ha, fun f h => (hf f h).tell, by omega⟩
theorem NormA.tell {nk : List (Str × D)} {cs : List (Str × Int)} : ∀ {n : Nat} {d : D}, NormA nk [] n d → TellOk cs n d
  | 0, d, h => h.elim
  | n + 1, d, ⟨g, s, a, fs, e, _, _, ha, hf, _, _, hz⟩ => ⟨g, s, a, fs, e, ha.nil, fun f h => (hf f h).tell, hz⟩
theorem tell_id {nk : List (Str × D)} {cs : List (Str × Int)} {vs : List D} : ∀ {n : Nat} {d : D}, NormA nk [] n d → tellD cs vs d = d
  | 0, d, h => h.elim
  | n + 1, d, ⟨g, s, a, fs, e, _, _, ha, hf, _, _, hz⟩ => by
    subst e
    have : fs.map (tellD cs vs) = fs := (List.map_congr_left (g := id) fun x hx => tell_id (hf x hx)).trans (List.map_id _)
    rw [tell_mk, val_nil ha, this]
theorem act_tell {nk : List (Str × D)} {cs : List (Str × Int)} {vs : List D} (hv : StoreOk cs vs) : ∀ {n : Nat} {d : D}, ActOk nk cs n d → ActOk nk [] n (tellD cs vs d)
  | 0, d, h => h.elim
  | n + 1, d, ⟨g, s, a, fs, e, hg, hs, ha, hf, hz, he⟩ => by
    subst e
    refine ⟨g, s, valP cs vs a, fs.map (tellD cs vs), tell_mk, hg, hs, valP_ok ha hv, fun f h => ?_, by rw [List.length_map]; exact hz, fun z => by rw [he z]; rfl⟩
    obtain ⟨x, hx, rfl⟩ := List.mem_map.mp h
    exact act_tell hv (hf x hx)
theorem halves_tell {cs : List (Str × Int)} {vs : List D} {d : D} (h : IsA d) : halvesP (tellD cs vs d) = (halvesP d).map (tellD cs vs) := by
  obtain ⟨g, s, a, fs, rfl⟩ := h
  rw [tell_mk]
  unfold halvesP
  by_cases e : g = ("always" : Str)
  · simp only [e, if_true, List.map_cons, List.map_nil]
    rw [tell_mk, tell_mk]
    rfl
  · simp only [e, if_false, List.map_cons, List.map_nil]
    rw [tell_mk]
theorem split_tell {cs : List (Str × Int)} {vs : List D} : ∀ {ws : List D}, (∀ d ∈ ws, IsA d) → splitP (ws.map (tellD cs vs)) = (splitP ws).map (tellD cs vs)
  | [], _ => rfl
  | x :: ws, h => by
    show halvesP (tellD cs vs x) ++ splitP (ws.map (tellD cs vs)) = (halvesP x ++ splitP ws).map (tellD cs vs)
    rw [halves_tell (h x (List.mem_cons_self ..)), split_tell fun d hd => h d (List.mem_cons_of_mem _ hd), List.map_append]
theorem grd_tell {cs : List (Str × Int)} {vs : List D} {d : D} (h : IsA d) : grd (tellD cs vs d) = grd d ∧ stp (tellD cs vs d) = stp d ∧ arg (tellD cs vs d) = valP cs vs (arg d) ∧ fur (tellD cs vs d) = (fur d).map (tellD cs vs) := by
  obtain ⟨g, s, a, fs, rfl⟩ := h
  rw [tell_mk]
  exact ⟨rfl, rfl, rfl, rfl⟩
/-! ### the weight of a word's halves -/
theorem wt_halves {n : Nat} {d : D} (h : IsA d) : ((halvesP d).map (wtH (n + 1))).sum ≤ 2 + (((fur d).flatMap halvesP).map (wtH n)).sum := by
  obtain ⟨g, s, a, fs, rfl⟩ := h
  unfold halvesP
  by_cases e : g = ("always" : Str)
  · simp only [e, if_true, List.map_cons, List.map_nil, List.sum_cons, List.sum_nil]
    show 1 + ((splitP fs).map (wtH n)).sum + (1 + ((splitP []).map (wtH n)).sum + 0) ≤ 2 + ((splitP fs).map (wtH n)).sum
    have : splitP [] = [] := rfl
    rw [this]
    simp only [List.map_nil, List.sum_nil]
    omega
  · simp only [e, if_false, List.map_cons, List.map_nil, List.sum_cons, List.sum_nil]
    show 1 + ((splitP fs).map (wtH n)).sum + 0 ≤ 2 + ((splitP fs).map (wtH n)).sum
    omega
theorem wt_mz {nk : List (Str × D)} {cs : List (Str × Int)} : ∀ (n : Nat) (ws : List D), (∀ d ∈ ws, ActOk nk cs n d) → wtP n (splitP ws) ≤ 2 * mzL n ws
  | 0, [], _ => by simp [splitP, wtP]
  | 0, d :: ws, h => (h d (List.mem_cons_self ..)).elim
  | n + 1, [], _ => by simp [splitP, wtP]
  | n + 1, d :: ws, h => by
    have ih := wt_mz (n + 1) ws fun x hx => h x (List.mem_cons_of_mem _ hx)
    obtain ⟨g, s, a, fs, rfl, _, _, _, hf, _⟩ := h d (List.mem_cons_self ..)
    have ih2 := wt_mz n fs hf
    have h1 := wt_halves (n := n) (d := mkA g s a fs) ⟨g, s, a, fs, rfl⟩
    have e1 : splitP (mkA g s a fs :: ws) = halvesP (mkA g s a fs) ++ splitP ws := rfl
    have e2 : mzL (n + 1) (mkA g s a fs :: ws) = mzD (n + 1) (mkA g s a fs) + mzL (n + 1) ws := by simp [mzL]
    have e3 : mzD (n + 1) (mkA g s a fs) = 1 + mzL n fs := rfl
    have e4 : ((fur (mkA g s a fs)).flatMap halvesP).map (wtH n) = (splitP fs).map (wtH n) := rfl
    rw [e4] at h1
    rw [e1, wtP_app, e2, e3]
    simp only [wtP] at *
    omega
end DL

set_option Elab.async false
set_option linter.all false
set_option maxRecDepth 100000
set_option maxHeartbeats 4000000
namespace DL
open PySem PySem.Spec L2
open PyProof.Rows hiding St
local macro_rules | `(tactic| walk_at "dx") => `(tactic| try simp (disch := first | decide | assumption | omega) only [sPut, sOset, sFldD, eMeth, eMake, ePr, eMt, eCh, sAug, oN, oS, eSl, eDic0, eCv, sSeq, sIf, sRet, sRetN, sNil, sSet, sExpr, sAsg, gTupN, gNms, gNm, tb, tNotF, tAndF, tOrF, eNot, eAnd, eOr, eIf, eTup, eLst, aCons, aNil, eCall, e1, e2, eVar, eC, negD, bind_ok, ro_ok, seq_nx, seq_rt, seq_ct, seq_bk, fin_rt, fin_nx, sat_ok, sat_bind, sat_fin, sat_seq, sat_ro, rsat_nx, rsat_rt, rsat_ct, rsat_bk, seqQ_nx, seqQ_rt, seqQ_ct, seqQ_bk, finQ_nx, finQ_rt, loopQ_nx, loopQ_ct, loopQ_bk, loopQ_rt, sSub, ixo0, ixo1, ixo2, ixo3, ixo4, puts1, puts2, puts3, puts4, List.map_cons, List.map_nil, List.length_cons, List.length_nil, Nat.reduceAdd, Nat.reduceSub, List.replicate_succ, List.replicate_zero, List.nil_append, List.cons_append, List.getElem?_cons_zero, List.getElem?_cons_succ, List.set_cons_zero, List.set_cons_succ, ix0, ix1, ix2, ix3, ix4, eq_ss, eq_ii, eq_bb, ne_ss, ne_ii, add_ii, sub_ii, mul_ii, mod_ii, fdiv_ii, ord_ii, isN_, isNonD, int_i, if_true, if_false, Bool.false_eq_true, Bool.true_eq_false, Bool.not_true, Bool.not_false, decide_eq_true_eq, Bool.and_true, Bool.true_and, Bool.and_false, Bool.false_and, Bool.or_true, Bool.or_false, Bool.true_or, Bool.false_or, ofString_inj, String.reduceEq, decide_true, decide_false, Int.reduceLT, Int.reduceLE, Int.reduceEq, Int.reduceNeg, Int.reduceSub, Int.reduceAdd, Int.reducePow, Int.reduceMul, true_or, or_true, false_or, or_false, true_and, and_true, false_and, and_false, not_true_eq_false, not_false_eq_true, *])
/-! ### a comprehension of calls that only add to the heap -/
theorem lc_kept {M : DM} {δ δ0 : DSt} {x : Nat} {fi : FI} {fe : FE} {it : IT} {ds : List D} {t : D → D} (hi : fi δ M = .ok it M) (hw : wipeD δ [x] = δ0) (hn : ∀ M1 i, Kept M M1 → it.nx i M1 = some ds[i]?) (hf : it.fu = ds.length + 1) (hz : ds.length ≤ 1000)
    (step : ∀ d ∈ ds, ∀ M1, Kept M M1 → ∃ M2, fe (δ0.set x (some d)) M1 = .ok (t d) M2 ∧ Kept M1 M2) :
    ∃ M', eLc [x] fi (cNm x) tYesD fe δ M = .ok (.obj M.length) M' ∧ Kept M M' ∧ M'[M.length]? = some (.lst (ds.map t)) := by
  obtain ⟨acc, M', e, K, g, hc⟩ := lcIt_ok (n := M.length) (g := cNm x) (ft := tYesD) (fe := fe) (it := it) (δ := δ0) ds
    (fun i acc M' => Kept M M' ∧ M'[M.length]? = some (.lst acc) ∧ acc = (ds.take i).map t) (fun i acc M' h => hn M' i h.1) (by
      rintro i d acc M1 hd ⟨K, g, hc⟩
      obtain ⟨M2, e2, K2⟩ := step d (List.mem_of_getElem? hd) M1 K
      have g2 := K2.at_ g
      refine ⟨δ0.set x (some d), rfl, .inr ⟨M1, t d, M2, rfl, e2, g2, ?_, (K.trans K2).set (Nat.le_refl _) _, get_self g2, ?_⟩⟩
      · rw [sizeLine_eq, hc, List.length_map, List.length_take]; omega
      · rw [hc, ← take_snoc hd, List.map_append]; rfl)
    (ds.length + 1) 0 [] (M ++ [.lst []]) (by omega) (by omega) ⟨Kept.refl.app _, get_new, rfl⟩
  rw [List.take_length] at hc
  subst hc
  refine ⟨M', ?_, K, g⟩
  unfold eLc
  rw [hi]
  simp only [bind_ok]
  rw [hf, hw, e]
theorem told_sat {b : Nat} {nk : List (Str × D)} {cs : List (Str × Int)} {vs : List D} (hl : cs.length ≤ 2) (hv : StoreOk cs vs) : ∀ (n f : Nat) {M : DM} {d : D} {Q : D → DM → Prop}, TellOk cs n d → n ≤ f → CellsB M b nk cs → (∀ M', Kept M M' → Q (tellD cs vs d) M') → (g_told f [d, .obj b, .tup vs] M).sat Q
  | 0, f, M, d, Q, h, _, _, _ => h.elim
  | n + 1, 0, M, d, Q, _, h, _, _ => by omega
  | n + 1, f + 1, M, d, Q, hd, hf, B, q => by
    obtain ⟨g, s, a, fs, rfl, ha, hfs, hz⟩ := hd
    unfold g_told f_told fnD
    walk_at "dx"
    obtain ⟨M1, e1, K1, g1⟩ := lc_kept (M := M) (δ := [some (mkA g s a fs), some (.obj b), some (.tup vs), some (.str g), some (.str s), some a, some (.tup fs), none, none]) (x := 8) (fi := iV (eVar 6)) (fe := eCall (g_told f) (aCons (eVar 8) (aCons (eVar 1) (aCons (eVar 2) aNil)))) (it := itS fs) (ds := fs) (t := tellD cs vs)
      rfl rfl (fun M1 i _ => rfl) rfl (by omega) (fun d hd M1 KM => by
        obtain ⟨d2, M2, e2, hd2, K2⟩ := sat_get (told_sat hl hv n f (M := M1) (d := d) (Q := fun d2 M2 => d2 = tellD cs vs d ∧ Kept M1 M2) (hfs d hd) (by omega) (B.kept KM) fun M' K' => ⟨rfl, K'⟩)
        subst hd2
        refine ⟨M2, ?_, K2⟩
        simp only [wipeD, eCall, aCons, aNil, eVar, List.set_cons_zero, List.set_cons_succ, List.getElem?_cons_zero, List.getElem?_cons_succ, bind_ok, e2])
    have t1 : tupleD [.obj M.length] M1 = .ok (.tup (fs.map (tellD cs vs))) M1 := by simp only [tupleD, itemsD, g1]
    obtain ⟨d3, M3, e3, hd3, K3⟩ := sat_get (value_of_sat (B.kept K1) hl hv ha (Q := fun d M2 => d = valP cs vs a ∧ Kept M1 M2) fun M' K' => ⟨rfl, K'⟩)
    subst hd3
    have fin := q M3 (K1.trans K3)
    rw [tell_mk] at fin
    clear q
    walk_at "dx"
theorem live_sat {M : DM} {nk : List (Str × D)} {b : Nat} {x : D} {ws : List D} {sts : List Str} {Q : D → DM → Prop} (hk : KindsOk nk) (B : KnowsB M b nk) (hx : itemsD x M = some ws) (W : Dom nk 5 ws) (hK : ∀ d ∈ normP nk 6 ws, IsK nk d) (q : ∀ M', Kept M M' → Q (.tup (keepP nk sts (normP nk 6 ws))) M') :
    (g_live [x, .tup (sts.map .str), .obj b] M).sat Q := by
  have hz := (dom_len W).2
  unfold g_live f_live fnD
  walk_at "dx"
  refine normal_sat hk 5 B hx W fun M1 K1 => ?_
  exact keep_live_sat (B.kept K1) hk rfl hK (by omega) fun M2 K2 => q M2 (K1.trans K2)
theorem agenda_sat {M : DM} {nk : List (Str × D)} {cs : List (Str × Int)} {b : Nat} {x pd : D} {ws vs : List D} {s : Str} {Q : D → DM → Prop} (hk : KindsOk nk) (B : CellsB M b nk cs) (hl : cs.length ≤ 2) (hv : StoreOk cs vs) (hp : PendOk pd s)
    (hx : itemsD x M = some ws) (hlst : ∀ M1, Kept M M1 → itemsD x M1 = some ws) (hit : ∃ it, iV (eVar 0) [some x, some (.tup [pd, .tup vs]), some (.obj b), some pd, some (.tup vs), none] M = .ok it M ∧ it.fu = ws.length + 1 ∧ ∀ M1 i, Kept M M1 → it.nx i M1 = some ws[i]?) (hT : ∀ d ∈ ws, TellOk cs 6 d) (hz : ws.length ≤ 900)
    (W : Dom nk 5 (ws.map (tellD cs vs))) (hK : ∀ d ∈ normP nk 6 (ws.map (tellD cs vs)), IsK nk d) (q : ∀ M', Kept M M' → Q (.tup (keepP nk [s] (normP nk 6 (ws.map (tellD cs vs))))) M') :
    (g_agenda [x, .tup [pd, .tup vs], .obj b] M).sat Q := by
  obtain ⟨it, hi, hfu, hn⟩ := hit
  have st := fun M => state_eq (M := M) hp
  obtain ⟨M1, e1, K1, g1⟩ := lc_kept (M := M) (δ := [some x, some (.tup [pd, .tup vs]), some (.obj b), some pd, some (.tup vs), none]) (x := 5) (fi := iV (eVar 0)) (fe := eCall (g_told 6) (aCons (eVar 5) (aCons (eVar 2) (aCons (eVar 4) aNil)))) (it := it) (ds := ws) (t := tellD cs vs)
      hi rfl (fun M1 i K => hn M1 i K) hfu (by omega) (fun d hd M1 KM => by
        obtain ⟨d2, M2, e2, hd2, K2⟩ := sat_get (told_sat hl hv 6 6 (M := M1) (d := d) (Q := fun d2 M2 => d2 = tellD cs vs d ∧ Kept M1 M2) (hT d hd) (Nat.le_refl _) (B.kept KM) fun M' K' => ⟨rfl, K'⟩)
        subst hd2
        refine ⟨M2, ?_, K2⟩
        simp only [wipeD, eCall, aCons, aNil, eVar, List.set_cons_zero, List.set_cons_succ, List.getElem?_cons_zero, List.getElem?_cons_succ, bind_ok, e2])
  unfold g_agenda f_agenda fnD
  walk_at "dx"
  refine live_sat (sts := [s]) hk (B.kept K1).knows (by simp only [itemsD, g1]) W hK fun M2 K2 => ?_
  exact q M2 (K1.trans K2)
end DL

set_option Elab.async false
set_option linter.all false
set_option maxRecDepth 100000
set_option maxHeartbeats 4000000
namespace DL
open PySem PySem.Spec L2
open PyProof.Rows hiding St
local macro_rules | `(tactic| walk_at "dx") => `(tactic| try simp (disch := first | decide | assumption | omega) only [sPut, sOset, sFldD, eMeth, eMake, ePr, eMt, eCh, sAug, oN, oS, eSl, eDic0, eCv, sSeq, sIf, sRet, sRetN, sNil, sSet, sExpr, sAsg, gTupN, gNms, gNm, tb, tNotF, tAndF, tOrF, eNot, eAnd, eOr, eIf, eTup, eLst, aCons, aNil, eCall, e1, e2, eVar, eC, negD, bind_ok, ro_ok, seq_nx, seq_rt, seq_ct, seq_bk, fin_rt, fin_nx, sat_ok, sat_bind, sat_fin, sat_seq, sat_ro, rsat_nx, rsat_rt, rsat_ct, rsat_bk, seqQ_nx, seqQ_rt, seqQ_ct, seqQ_bk, finQ_nx, finQ_rt, loopQ_nx, loopQ_ct, loopQ_bk, loopQ_rt, sSub, ixo0, ixo1, ixo2, ixo3, ixo4, puts1, puts2, puts3, puts4, List.map_cons, List.map_nil, List.length_cons, List.length_nil, Nat.reduceAdd, Nat.reduceSub, List.replicate_succ, List.replicate_zero, List.nil_append, List.cons_append, List.getElem?_cons_zero, List.getElem?_cons_succ, List.set_cons_zero, List.set_cons_succ, ix0, ix1, ix2, ix3, ix4, eq_ss, eq_ii, eq_bb, ne_ss, ne_ii, add_ii, sub_ii, mul_ii, mod_ii, fdiv_ii, ord_ii, isN_, isNonD, int_i, if_true, if_false, Bool.false_eq_true, Bool.true_eq_false, Bool.not_true, Bool.not_false, decide_eq_true_eq, Bool.and_true, Bool.true_and, Bool.and_false, Bool.false_and, Bool.or_true, Bool.or_false, Bool.true_or, Bool.false_or, ofString_inj, String.reduceEq, decide_true, decide_false, Int.reduceLT, Int.reduceLE, Int.reduceEq, Int.reduceNeg, Int.reduceSub, Int.reduceAdd, Int.reducePow, Int.reduceMul, true_or, or_true, false_or, or_false, true_and, and_true, false_and, and_false, not_true_eq_false, not_false_eq_true, *])
/-! ### _law_same decides on pure data -/
theorem isi_tabN : (isiTab "NoneType" "bool" = some false ∧ isiTab "NoneType" "int" = some false ∧ isiTab "NoneType" "str" = some false ∧ isiTab "NoneType" "tuple" = some false) ∧ (isiTab "int" "str" = some false ∧ isiTab "int" "tuple" = some false) ∧ (isiTab "str" "tuple" = some false) := by decide +kernel
theorem same_dec {M : DM} : ∀ (n : Nat) (x y : D), noB n x = true → noB n y = true → plainN n x = true → plainN n y = true → ∃ b : Bool, g_law_same n [x, y] M = .ok (.bl b) M ∧ (b = true ↔ x = y)
  | 0, x, y, h, _, _, _ => by simp [noB] at h
  | n + 1, x, y, hx, hy, px, py => by
    suffices hs : (fnD 3 (f_law_same (g_law_same n)) [x, y] M).sat fun d M' => M' = M ∧ ∃ b : Bool, d = .bl b ∧ (b = true ↔ x = y) by
      obtain ⟨d, M2, e, rfl, b, rfl, h⟩ := sat_get hs
      exact ⟨b, e, h⟩
    obtain ⟨⟨n1, n2, n3, n4⟩, ⟨i3, i4⟩, s4⟩ := isi_tabN
    obtain ⟨t1, t2, t3, t4, t5⟩ := isi_tab1
    obtain ⟨_, i1, i2, s1, s2, s3⟩ := isi_tab3
    have I : ∀ {x : D} {T U : String} {b : Bool}, tyName x M = some U → isiTab U T = some b → isiD [x, .ty T] M = .ok (.bl b) M := fun h h' => isi_eq h h'
    unfold fnD f_law_same
    cases y with
    | non =>
      clear I
      walk_at "dx"
      refine ⟨_, rfl, ?_⟩
      cases x <;> simp [isNonD]
    | int j =>
      have a1 := I (x := .int j) rfl i1
      have a2 := I (x := .int j) rfl i2
      cases x with
      | non =>
        have b1 := I (x := .non) rfl n2
        clear I
        walk_at "dx"
        exact ⟨_, rfl, by simp⟩
      | int i =>
        have b1 := I (x := .int i) rfl i1
        have b2 := I (x := .int i) rfl i2
        clear I
        walk_at "dx"
        exact ⟨_, rfl, by simp⟩
      | str s =>
        have b1 := I (x := .str s) rfl s2
        clear I
        walk_at "dx"
        exact ⟨_, rfl, by simp⟩
      | tup ds =>
        have b1 := I (x := .tup ds) rfl t2
        clear I
        walk_at "dx"
        exact ⟨_, rfl, by simp⟩
      | _ => simp [noB] at hx
    | str j =>
      have a1 := I (x := .str j) rfl s1
      have a2 := I (x := .str j) rfl s2
      have a3 := I (x := .str j) rfl s3
      cases x with
      | non =>
        have b1 := I (x := .non) rfl n3
        clear I
        walk_at "dx"
        exact ⟨_, rfl, by simp⟩
      | int i =>
        have b1 := I (x := .int i) rfl i3
        clear I
        walk_at "dx"
        exact ⟨_, rfl, by simp⟩
      | str s =>
        have b1 := I (x := .str s) rfl s3
        clear I
        walk_at "dx"
        exact ⟨_, rfl, by simp⟩
      | tup ds =>
        have b1 := I (x := .tup ds) rfl t3
        clear I
        walk_at "dx"
        exact ⟨_, rfl, by simp⟩
      | _ => simp [noB] at hx
    | tup ys =>
      have a1 := I (x := .tup ys) rfl t1
      have a2 := I (x := .tup ys) rfl t2
      have a3 := I (x := .tup ys) rfl t3
      have a4 := I (x := .tup ys) rfl t4
      have a5 := I (x := .tup ys) rfl t5
      cases x with
      | non =>
        have b1 := I (x := .non) rfl n4
        clear I
        walk_at "dx"
        exact ⟨_, rfl, by simp⟩
      | int i =>
        have b1 := I (x := .int i) rfl i4
        clear I
        walk_at "dx"
        exact ⟨_, rfl, by simp⟩
      | str s =>
        have b1 := I (x := .str s) rfl s4
        clear I
        walk_at "dx"
        exact ⟨_, rfl, by simp⟩
      | tup xs =>
        have b4 := I (x := .tup xs) rfl t4
        have hx : xs.all (noB n) = true := hx
        have hy : ys.all (noB n) = true := hy
        simp only [plainN, Bool.and_eq_true, decide_eq_true_eq] at px py
        obtain ⟨pz, px⟩ := px
        obtain ⟨qz, py⟩ := py
        have lx : lenD [.tup xs] M = .ok (.int xs.length) M := len_t
        have ly : lenD [.tup ys] M = .ok (.int ys.length) M := len_t
        clear I
        by_cases hl : xs.length = ys.length
        · have hl' : ((xs.length : Nat) : Int) = (ys.length : Nat) := by omega
          walk_at "dx"
          refine sforR_sat (n := ((ys.length : Nat) : Int)) (M' := M) (by simp only [eCall, aCons, aNil, eVar, List.getElem?_cons_zero, List.getElem?_cons_succ, bind_ok, ly]) (range_ok (by omega)) (fun i δ M' => M' = M ∧ (∀ j, j < i → xs[j]? = ys[j]?) ∧ ∃ o, δ = [some (.tup xs), some (.tup ys), o]) ⟨rfl, fun j h => by omega, none, rfl⟩ ?_ ?_
          · rintro j δ M' hj ⟨rfl, hj2, o, rfl⟩
            have h1 : j < ys.length := by omega
            have h2 : j < xs.length := by omega
            have ex : xs[j]? = some xs[j] := List.getElem?_eq_getElem h2
            have ey : ys[j]? = some ys[j] := List.getElem?_eq_getElem h1
            have x1 : ixD (.tup xs) (.int j) M' = .ok xs[j] M' := ixn ex
            have x2 : ixD (.tup ys) (.int j) M' = .ok ys[j] M' := ixn ey
            obtain ⟨b, eb, hb⟩ := same_dec (M := M') n xs[j] ys[j] (List.all_eq_true.mp hx _ (List.getElem_mem h2)) (List.all_eq_true.mp hy _ (List.getElem_mem h1)) (List.all_eq_true.mp px _ (List.getElem_mem h2)) (List.all_eq_true.mp py _ (List.getElem_mem h1))
            refine ⟨_, _, rfl, ?_⟩
            cases b with
            | true =>
              have eq := hb.mp rfl
              have nx : ∀ k, k < j + 1 → xs[k]? = ys[k]? := fun k hk => by
                by_cases e : k = j
                · rw [e, ex, ey, eq]
                · exact hj2 k (by omega)
              clear hx hy px py hb hj2 a1 a2 a3 a4 a5 b4 eq
              walk_at "dx"
              exact ⟨nx, _, rfl⟩
            | false =>
              have ne : xs ≠ ys := fun e => by
                subst e
                exact absurd (hb.mpr rfl) (by decide)
              clear hx hy px py hb hj2 a1 a2 a3 a4 a5 b4
              walk_at "dx"
              exact ⟨false, rfl, by simp [ne]⟩
          · rintro δ M' ⟨rfl, hj, o, rfl⟩
            walk_at "dx"
            refine ⟨true, rfl, by
              simp only [true_iff]
              congr 1
              refine List.ext_getElem? fun j => ?_
              by_cases h : j < ys.length
              · exact hj j (by omega)
              · rw [List.getElem?_eq_none (by omega), List.getElem?_eq_none (by omega)]⟩
        · have hl' : ¬ ((xs.length : Nat) : Int) = (ys.length : Nat) := by omega
          have ne : xs ≠ ys := fun e => hl (by rw [e])
          walk_at "dx"
          exact ⟨_, rfl, by simp [ne]⟩
      | _ => simp [noB] at hx
    | _ => simp [noB] at hy
end DL

set_option Elab.async false
set_option linter.all false
set_option maxRecDepth 100000
set_option maxHeartbeats 4000000
namespace DL
open PySem PySem.Spec L2
open PyProof.Rows hiding St
local macro_rules | `(tactic| walk_at "dx") => `(tactic| try simp (disch := first | decide | assumption | omega) only [sPut, sOset, sFldD, eMeth, eMake, ePr, eMt, eCh, sAug, oN, oS, eSl, eDic0, eCv, sSeq, sIf, sRet, sRetN, sNil, sSet, sExpr, sAsg, gTupN, gNms, gNm, tb, tNotF, tAndF, tOrF, eNot, eAnd, eOr, eIf, eTup, eLst, aCons, aNil, eCall, e1, e2, eVar, eC, negD, bind_ok, ro_ok, seq_nx, seq_rt, seq_ct, seq_bk, fin_rt, fin_nx, sat_ok, sat_bind, sat_fin, sat_seq, sat_ro, rsat_nx, rsat_rt, rsat_ct, rsat_bk, seqQ_nx, seqQ_rt, seqQ_ct, seqQ_bk, finQ_nx, finQ_rt, loopQ_nx, loopQ_ct, loopQ_bk, loopQ_rt, sSub, ixo0, ixo1, ixo2, ixo3, ixo4, puts1, puts2, puts3, puts4, List.map_cons, List.map_nil, List.length_cons, List.length_nil, Nat.reduceAdd, Nat.reduceSub, List.replicate_succ, List.replicate_zero, List.nil_append, List.cons_append, List.getElem?_cons_zero, List.getElem?_cons_succ, List.set_cons_zero, List.set_cons_succ, ix0, ix1, ix2, ix3, ix4, eq_ss, eq_ii, eq_bb, ne_ss, ne_ii, add_ii, sub_ii, mul_ii, mod_ii, fdiv_ii, ord_ii, isN_, isNonD, int_i, if_true, if_false, Bool.false_eq_true, Bool.true_eq_false, Bool.not_true, Bool.not_false, decide_eq_true_eq, Bool.and_true, Bool.true_and, Bool.and_false, Bool.false_and, Bool.or_true, Bool.or_false, Bool.true_or, Bool.false_or, ofString_inj, String.reduceEq, decide_true, decide_false, Int.reduceLT, Int.reduceLE, Int.reduceEq, Int.reduceNeg, Int.reduceSub, Int.reduceAdd, Int.reducePow, Int.reduceMul, true_or, or_true, false_or, or_false, true_and, and_true, false_and, and_false, not_true_eq_false, not_false_eq_true, *])
/-! ### _law_halved holds on normal words -/
theorem law_halved_eq {nk : List (Str × D)} {la : Nat} : ∀ (n f : Nat) {M : DM} {ws : List D}, n < f → M[la]? = some (.lst (nk.map fun q => .str q.1)) → (∀ d ∈ ws, NormA nk [] n d ∧ LeafN n d) → ws.length ≤ 1000 → g_law_halved f [.obj la, .tup ws] M = .ok (.bl true) M
  | n, 0, M, ws, h, _, _, _ => by omega
  | n, f + 1, M, ws, hf, hla, hw, hz => by
    suffices hs : (fnD 3 (f_law_halved (g_law_halved f)) [.obj la, .tup ws] M).sat fun d M' => M' = M ∧ d = .bl true by
      obtain ⟨d, M2, e, rfl, rfl⟩ := sat_get hs
      exact e
    have b0 := isi_t (ds := ws) (M := M)
    unfold fnD f_law_halved
    walk_at "dx"
    refine sforT_sat (ds := ws) (M' := M) rfl (fun i δ M' => M' = M ∧ ∃ o, δ = [some (.obj la), some (.tup ws), o]) ⟨rfl, _, rfl⟩ ?_ ?_
    · rintro j d δ M' hd ⟨rfl, o, rfl⟩
      obtain ⟨hN, hL⟩ := hw d (List.mem_of_getElem? hd)
      cases n with
      | zero => exact hN.elim
      | succ n =>
        obtain ⟨g, s, a, fs, rfl, hg, hs, ha, hfs, _, _, hfz⟩ := hN
        have ih := law_halved_eq n f (M := M') (ws := fs) (by omega) hla (fun x hx => ⟨hfs x hx, hL.2 x hx⟩) (by omega)
        have hleaf : g = "error" → fs = [] := hL.1
        have b1 := isi_t (ds := [.str g, .str s, a, .tup fs]) (M := M')
        have l4 : lenD [.tup [.str g, .str s, a, .tup fs]] M' = .ok (.int 4) M' := rfl
        have n1 : ninSeqD (.str g) (.tup [.str "done", .str "error"]) M' = .ok (.bl false) M' := by
          have := anyEq_strs (M := M') (s := g) (l := ["done", "error"])
          simp only [List.map_cons, List.map_nil] at this
          simp only [ninSeqD, itemsD, this, List.mem_cons, List.not_mem_nil, or_false, hg, decide_true, Bool.not_true]
        have hla' : M'[la]? = some (.lst ((nk.map (·.1)).map .str)) := by rw [List.map_map]; exact hla
        have n2 : ninD (.str s) (.obj la) M' = .ok (.bl false) M' := by
          rw [nin_strs hla', decide_eq_true hs]; rfl
        refine ⟨_, _, rfl, ?_⟩
        clear hw hla hla' hd hL hfs hs b0
        have lf : lenD [.tup fs] M' = .ok (.int fs.length) M' := len_t
        have gl : ¬ (0 : Int) < ((0 : Nat) : Int) := by decide
        have nn0 : isnN .non .non M' = .ok (.bl false) M' := rfl
        have nn1 : ∀ i, isnN (.int i) .non M' = .ok (.bl true) M' := fun _ => rfl
        rcases hg with rfl | rfl
        · rcases ha.ex with rfl | ⟨i, rfl, h0, h1⟩ | ⟨w, s', _, z, _⟩
          · clear ha hleaf
            walk_at "dx"
            exact ⟨_, rfl⟩
          · have c1 : isiD [.int i, .ty "int"] M' = .ok (.bl true) M' := isi_eq rfl isi_tab3.2.2.1
            have c2 : isiD [.int i, .ty "bool"] M' = .ok (.bl false) M' := isi_eq rfl isi_tab3.2.1
            have k1 : ¬ i < 0 := by omega
            have k2 : ¬ 999 < i := by omega
            clear ha hleaf
            walk_at "dx"
            exact ⟨_, rfl⟩
          · cases z
        · obtain rfl := hleaf rfl
          rcases ha.ex with rfl | ⟨i, rfl, h0, h1⟩ | ⟨w, s', _, z, _⟩
          · clear ha hleaf
            walk_at "dx"
            exact ⟨_, rfl⟩
          · have c1 : isiD [.int i, .ty "int"] M' = .ok (.bl true) M' := isi_eq rfl isi_tab3.2.2.1
            have c2 : isiD [.int i, .ty "bool"] M' = .ok (.bl false) M' := isi_eq rfl isi_tab3.2.1
            have k1 : ¬ i < 0 := by omega
            have k2 : ¬ 999 < i := by omega
            clear ha hleaf
            walk_at "dx"
            exact ⟨_, rfl⟩
          · cases z
    · rintro δ M' ⟨rfl, o, rfl⟩
      walk_at "dx"
/-! ### the exit behind a half -/
theorem after_pd {M : DM} {nk : List (Str × D)} {st s : Str} {pd kd : D} {ans : Int} (hp : PendOk pd s) (hk : KindOk kd) (hl : nk.lookup st = some kd) (ha : ans = 0 ∨ ans = 1) :
    ∃ p, g_law_after [pd, .str st, kd, .str s, .int ans] M = .ok p M ∧ PendOk p (if ans = 0 then "error" else if s = "done" ∨ ending nk st = true then "done" else "error") := by
  suffices h : (g_law_after [pd, .str st, kd, .str s, .int ans] M).sat fun p M' => M' = M ∧ PendOk p (if ans = 0 then "error" else if s = "done" ∨ ending nk st = true then "done" else "error") by
    obtain ⟨p, M2, e, e2, h2⟩ := sat_get h
    subst e2
    exact ⟨p, e, h2⟩
  have two := hp.two
  have he : ∀ {w : Str} {r : List D}, kd = .tup (.str w :: r) → ending nk st = decide (w = "heal" ∨ w = "jump") := fun e => by unfold ending; rw [hl, e]
  have pk : ∀ {w : Str} {x : D} {s : Str}, (s = if w = "raise" then "error" else "done") → PendOk (.tup [.str w, x]) s := fun e => ⟨_, _, rfl, e⟩
  unfold g_law_after f_law_after fnD
  cases hk with
  | plain =>
    rw [he rfl]; clear he hl
    rcases two with rfl | rfl <;> rcases ha with rfl | rfl <;> walk_at "dx" <;> first | exact hp | exact pk (by simp [ofString_inj])
  | answer n h =>
    rw [he rfl]; clear he hl
    rcases two with rfl | rfl <;> rcases ha with rfl | rfl <;> walk_at "dx" <;> first | exact hp | exact pk (by simp [ofString_inj])
  | heal n h =>
    rw [he rfl]; clear he hl
    rcases two with rfl | rfl <;> rcases ha with rfl | rfl <;> walk_at "dx" <;> first | exact hp | exact pk (by simp [ofString_inj])
  | jump n h =>
    rw [he rfl]; clear he hl
    rcases two with rfl | rfl <;> rcases ha with rfl | rfl <;> walk_at "dx" <;> first | exact hp | exact pk (by simp [ofString_inj])
  | swap n h =>
    rw [he rfl]; clear he hl
    rcases two with rfl | rfl <;> rcases ha with rfl | rfl <;> walk_at "dx" <;> first | exact hp | exact pk (by simp [ofString_inj])
/-! ### the top of a pile -/
theorem cut_last {q : List D} {h : D} : cutD (q ++ [h]) none (some (-1)) = q := by
  unfold cutD
  have e1 : HT.sIx (q ++ [h]).length 0 none = 0 := rfl
  have e2 : HT.sIx (q ++ [h]).length (q ++ [h]).length (some (-1)) = q.length := by
    show (if (-1 : Int) < 0 then ((-1 : Int) + ((q ++ [h]).length : Int)).toNat else min (-1 : Int).toNat (q ++ [h]).length) = _
    rw [if_pos (by decide), List.length_append]
    simp only [List.length_cons, List.length_nil]
    omega
  rw [e1, e2]
  simp
theorem law_top_sat {M : DM} {m : Nat} {p : List D} {s : Str} {Q : D → DM → Prop} (g : M[m]? = some (.lst p)) (hp : ∀ h ∈ p, IsA h) (hz : p.length < 1000)
    (q : ∀ m' p' t M', M'[m']? = some (.lst p') → p = p' ++ t → (∀ h ∈ t, grd h ≠ s) → (p' = [] ∨ ∃ r h, p' = r ++ [h] ∧ grd h = s) → Kept M M' → Q (.obj m') M') : (g_law_top [.obj m, .str s] M).sat Q := by
  unfold g_law_top f_law_top fnD
  walk_at "dx"
  unfold sWhile
  refine whileF_sat (fun n δ M' => ∃ m' p' t, n = p'.length ∧ δ = [some (.obj m'), some (.str s)] ∧ M'[m']? = some (.lst p') ∧ p = p' ++ t ∧ (∀ h ∈ t, grd h ≠ s) ∧ Kept M M') ?_ _ p.length _ _ (by omega) ⟨m, p, [], rfl, rfl, g, by simp, by simp, .refl⟩
  rintro n δ M1 ⟨m', p', t, rfl, rfl, g1, e, ht, K⟩
  rcases List.eq_nil_or_concat p' with rfl | ⟨r, h, rfl⟩
  · have l0 : lenD [.obj m'] M1 = .ok (.int 0) M1 := len_o g1
    refine ⟨false, M1, ?_, (fun z => by cases z), fun _ => ?_⟩
    · walk_at "dx"
    · have fin := q m' [] t M1 g1 e ht (.inl rfl) K
      clear q
      walk_at "dx"
      all_goals exact fin
  · rw [List.concat_eq_append] at *
    obtain ⟨g', st, a, fs, rfl⟩ := hp h (by rw [e]; simp)
    have l1 : lenD [.obj m'] M1 = .ok (.int ((r.length : Int) + 1)) M1 := by rw [len_o g1]; simp
    have x1 : ixD (.obj m') (.int ((r.length : Int) + 1 - 1)) M1 = .ok (mkA g' st a fs) M1 := by
      have : ((r.length : Int) + 1 - 1) = (r.length : Int) := by omega
      rw [this]
      exact ixo g1 (by simp)
    have gt : (0 : Int) < (r.length : Int) + 1 := by omega
    by_cases eg : g' = s
    · refine ⟨false, M1, ?_, (fun z => by cases z), fun _ => ?_⟩
      · clear q g1 e ht K hp
        walk_at "dx"
      · have fin := q m' _ t M1 g1 e ht (.inr ⟨r, _, rfl, eg⟩) K
        clear q
        walk_at "dx"
        all_goals exact fin
    · refine ⟨true, M1, ?_, fun _ => ?_, (fun z => by cases z)⟩
      · clear q g1 e ht K hp
        walk_at "dx"
      · have sl : sliceD (.obj m') none (some (-1)) M1 = .ok (.obj M1.length) (M1 ++ [.lst r]) := by
          simp only [sliceD, g1, cut_last]
        have gn : (M1 ++ [.lst r])[M1.length]? = some (.lst r) := get_new
        have fin : ∃ n', n' < (r ++ [mkA g' st a fs]).length ∧ ∃ m' p' t, n' = p'.length ∧ ([some (.obj M1.length), some (.str s)] : DSt) = [some (.obj m'), some (.str s)] ∧ (M1 ++ [.lst r])[m']? = some (.lst p') ∧ p = p' ++ t ∧ (∀ h ∈ t, grd h ≠ s) ∧ Kept M (M1 ++ [.lst r]) :=
          ⟨r.length, by simp, M1.length, r, mkA g' st a fs :: t, rfl, rfl, gn, by rw [e]; simp, fun h hh => by
            rcases List.mem_cons.mp hh with rfl | hh
            · exact eg
            · exact ht h hh, K.app _⟩
        clear q g1 e ht K hp gn
        generalize (M1 ++ [MO.lst r]) = M2 at *
        walk_at "dx"
        all_goals exact fin
end DL

set_option Elab.async false
set_option linter.all false
set_option maxRecDepth 100000
set_option maxHeartbeats 4000000
namespace DL
open PySem PySem.Spec L2
open PyProof.Rows hiding St
local macro_rules | `(tactic| walk_at "dx") => `(tactic| try simp (disch := first | decide | assumption | omega) only [sPut, sOset, sFldD, eMeth, eMake, ePr, eMt, eCh, sAug, oN, oS, eSl, eDic0, eCv, sSeq, sIf, sRet, sRetN, sNil, sSet, sExpr, sAsg, gTupN, gNms, gNm, tb, tNotF, tAndF, tOrF, eNot, eAnd, eOr, eIf, eTup, eLst, aCons, aNil, eCall, e1, e2, eVar, eC, negD, bind_ok, ro_ok, seq_nx, seq_rt, seq_ct, seq_bk, fin_rt, fin_nx, sat_ok, sat_bind, sat_fin, sat_seq, sat_ro, rsat_nx, rsat_rt, rsat_ct, rsat_bk, seqQ_nx, seqQ_rt, seqQ_ct, seqQ_bk, finQ_nx, finQ_rt, loopQ_nx, loopQ_ct, loopQ_bk, loopQ_rt, sSub, ixo0, ixo1, ixo2, ixo3, ixo4, puts1, puts2, puts3, puts4, List.map_cons, List.map_nil, List.length_cons, List.length_nil, Nat.reduceAdd, Nat.reduceSub, List.replicate_succ, List.replicate_zero, List.nil_append, List.cons_append, List.getElem?_cons_zero, List.getElem?_cons_succ, List.set_cons_zero, List.set_cons_succ, ix0, ix1, ix2, ix3, ix4, eq_ss, eq_ii, eq_bb, ne_ss, ne_ii, add_ii, sub_ii, mul_ii, mod_ii, fdiv_ii, ord_ii, isN_, isNonD, int_i, if_true, if_false, Bool.false_eq_true, Bool.true_eq_false, Bool.not_true, Bool.not_false, decide_eq_true_eq, Bool.and_true, Bool.true_and, Bool.and_false, Bool.false_and, Bool.or_true, Bool.or_false, Bool.true_or, Bool.false_or, ofString_inj, String.reduceEq, decide_true, decide_false, Int.reduceLT, Int.reduceLE, Int.reduceEq, Int.reduceNeg, Int.reduceSub, Int.reduceAdd, Int.reducePow, Int.reduceMul, true_or, or_true, false_or, or_false, true_and, and_true, false_and, and_false, not_true_eq_false, not_false_eq_true, *])
/-! ### trees of told piles -/
theorem Hv.succ {nk : List (Str × D)} {cs : List (Str × Int)} {n : Nat} {h : D} (H : Hv nk cs n h) : Hv nk cs (n + 1) h := by
  obtain ⟨g, s, a, fs, e, hg, hs, ha, hf, hz, he⟩ := H
  exact ⟨g, s, a, fs, e, hg, hs, ha, fun f h => (hf f h).succ, hz, he⟩
theorem Hv.isA {nk : List (Str × D)} {cs : List (Str × Int)} {n : Nat} {h : D} (H : Hv nk cs n h) : IsA h := by
  obtain ⟨g, s, a, fs, e, _⟩ := H
  exact ⟨g, s, a, fs, e⟩
theorem Hv.kids2 {nk : List (Str × D)} {cs : List (Str × Int)} {h : D} (H : Hv nk cs 2 h) : ∀ x ∈ splitP (fur h), Hv nk cs 1 x := fun x hx => by
  obtain ⟨m, e, h2⟩ := H.kids hx
  obtain rfl : m = 1 := by omega
  exact h2
theorem Hv.furA {nk : List (Str × D)} {cs : List (Str × Int)} {h : D} {n : Nat} (H : Hv nk cs n h) : (∀ d ∈ fur h, IsA d) ∧ (fur h).length ≤ 3 := by
  obtain ⟨g, s, a, fs, rfl, hg, hs, ha, hf, hz, he⟩ := H
  exact ⟨fun d hd => (hf d hd).isA, hz⟩
theorem hv_tell {nk : List (Str × D)} {cs : List (Str × Int)} {vs : List D} {n : Nat} {h : D} (hv : StoreOk cs vs) (H : Hv nk cs n h) : Hv nk [] n (tellD cs vs h) := by
  obtain ⟨g, s, a, fs, rfl, hg, hs, ha, hf, hz, he⟩ := H
  refine ⟨g, s, valP cs vs a, fs.map (tellD cs vs), tell_mk, hg, hs, valP_ok ha hv, fun f h => ?_, by rw [List.length_map]; exact hz, fun z => by rw [he z]; rfl⟩
  obtain ⟨x, hx, rfl⟩ := List.mem_map.mp h
  exact act_tell hv (hf x hx)
abbrev runT (nk : List (Str × D)) (cs : List (Str × Int)) (vs : List D) (p : List D) (s : Str) : Tr := runR nk 3 (p.map (tellD cs vs)).reverse stopK s
theorem run_top {nk : List (Str × D)} {cs : List (Str × Int)} {vs : List D} {r : List D} {h : D} {s : Str} (hv : StoreOk cs vs) (H : Hv nk cs 2 h) (e : grd h = s) :
    runT nk cs vs (r ++ [h]) s = .ask (stp h) (valP cs vs (arg h)) (runT nk cs vs r "error") (runT nk cs vs (r ++ splitP (fur h)) (aft nk h s)) := by
  obtain ⟨e1, e2, e3, e4⟩ := grd_tell (cs := cs) (vs := vs) H.isA
  have HT := hv_tell hv H
  unfold runT
  rw [List.map_append, List.reverse_append]
  show runH nk 3 (tellD cs vs h) (runR nk 3 (r.map (tellD cs vs)).reverse stopK) s = _
  simp only [runH]
  rw [e1, if_pos e, e2, e3, e4, split_tell H.furA.1, List.map_append, List.reverse_append, runR_app]
  congr 1
  have ea : aft nk (tellD cs vs h) s = aft nk h s := by unfold aft; rw [e2]
  rw [ea]
  refine congrFun (runR_stay (n := 2) (m := 2) (k := 3) (fun x hx => ?_) (Nat.le_refl _) (by omega) _) _
  obtain ⟨y, hy, rfl⟩ := List.mem_map.mp (List.mem_reverse.mp hx)
  exact (hv_tell hv (H.kids2 y hy)).deep
theorem run_cut {nk : List (Str × D)} {cs : List (Str × Int)} {vs : List D} {p t : List D} {s : Str} (hA : ∀ h ∈ t, IsA h) (ht : ∀ h ∈ t, grd h ≠ s) : runT nk cs vs (p ++ t) s = runT nk cs vs p s := by
  unfold runT
  rw [List.map_append, List.reverse_append, runR_app]
  refine runR_skip fun h hh => ?_
  obtain ⟨y, hy, rfl⟩ := List.mem_map.mp (List.mem_reverse.mp hh)
  rw [(grd_tell (hA y hy)).1]
  exact ht y hy
theorem run_nil {nk : List (Str × D)} {cs : List (Str × Int)} {vs : List D} {s : Str} : runT nk cs vs [] s = .stop := rfl
theorem wt_top {nk : List (Str × D)} {cs : List (Str × Int)} {r : List D} {h : D} (H : Hv nk cs 2 h) : wtP 3 (r ++ [h]) = wtP 3 r + wtP 3 (splitP (fur h)) + 1 := by
  rw [wtP_app]
  have e1 : wtP 3 [h] = 1 + ((splitP (fur h)).map (wtH 2)).sum := by
    show (List.map (wtH 3) [h]).sum = _
    simp [wtH]
  have e2 : (splitP (fur h)).map (wtH 3) = (splitP (fur h)).map (wtH 2) := List.map_congr_left fun x hx => wtH_stay ((H.kids2 x hx).deep) (by omega)
  rw [e1]
  unfold wtP
  rw [e2]
  omega
theorem len_wt {n : Nat} {p : List D} : p.length ≤ wtP (n + 1) p := by
  induction p with
  | nil => simp
  | cons x p ih =>
    have : wtP (n + 1) (x :: p) = wtH (n + 1) x + wtP (n + 1) p := by simp [wtP]
    have : wtH (n + 1) x = 1 + ((splitP (fur x)).map (wtH n)).sum := rfl
    simp only [List.length_cons]
    omega
theorem ne_val {x y : D} {M : DM} (hx : ArgOk [] x) (hy : ArgOk [] y) : ∃ b : Bool, neD x y M = .ok (.bl b) M ∧ (b = true ↔ x ≠ y) := by
  rcases hx.ex with rfl | ⟨i, rfl, _⟩ | ⟨w, s, _, z, _⟩
  · rcases hy.ex with rfl | ⟨j, rfl, _⟩ | ⟨w, s, _, z, _⟩
    · exact ⟨false, rfl, by simp⟩
    · exact ⟨true, rfl, by simp⟩
    · cases z
  · rcases hy.ex with rfl | ⟨j, rfl, _⟩ | ⟨w, s, _, z, _⟩
    · exact ⟨true, rfl, by simp⟩
    · exact ⟨_, ne_ii, by simp⟩
    · cases z
  · cases z
/-! ### one answer -/
def fbA (G : List D → DM → Rs D) : FS :=
  (sSeq (sSet 8 (eSl (eVar 2) oN (oS (e1 negD (eC (D.int 1))))))
 (sSeq (sSet 9 (eSl (eVar 3) oN (oS (e1 negD (eC (D.int 1))))))
 (sSeq (sIf (tb (e2 eqD (eVar 7) (eC (D.int 1))))
  (sSeq (sSet 8 (e2 addD (eVar 8) (eCall g_law_split (aCons (e2 ixD (eVar 5) (eC (D.int 3))) aNil))))
 (sSet 9 (e2 addD (eVar 9) (eCall g_law_split (aCons (e2 ixD (eVar 6) (eC (D.int 3))) aNil)))))
  sNil)
 (sSeq (sSet 10 (eCall g_law_after (aCons (eVar 4) (aCons (e2 ixD (eVar 5) (eC (D.int 1))) (aCons (e2 gixD (e2 ixD (eVar 0) (eC (D.int 1))) (e2 ixD (eVar 5) (eC (D.int 1)))) (aCons (e2 ixD (eVar 5) (eC (D.int 0))) (aCons (eVar 7) aNil)))))))
 (sIf (tb (eCall G (aCons (eVar 0) (aCons (eVar 1) (aCons (eVar 8) (aCons (eVar 9) (aCons (eVar 10) aNil)))))))
  (sRet (eC (D.bl true)))
  sNil)))))
theorem fbA_sat {G : List D → DM → Rs D} {M : DM} {l m1 m2 : Nat} {nk : List (Str × D)} {cs : List (Str × Int)} {vs q1 q2 : List D} {h1 h2 pd : D} {s : Str} {ans : Int} {X : Prop} {o8 o9 o10 : Option D} {R : Ro → Prop}
    (hk : KindsOk nk) (L : LoreAt M l nk cs) (g1 : M[m1]? = some (.lst (q1 ++ [h1]))) (g2 : M[m2]? = some (.lst (q2 ++ [h2]))) (H1 : Hv nk cs 2 h1) (H2 : Hv nk cs 2 h2) (e1 : grd h1 = s) (z1 : q1.length ≤ 5000) (z2 : q2.length ≤ 5000) (hp : PendOk pd s) (ha : ans = 0 ∨ ans = 1)
    (hG : ∀ n1 n2 pd2 M2, Kept M M2 → M2[n1]? = some (.lst (if ans = 0 then q1 else q1 ++ splitP (fur h1))) → M2[n2]? = some (.lst (if ans = 0 then q2 else q2 ++ splitP (fur h2))) → PendOk pd2 (if ans = 0 then "error" else aft nk h1 s) →
      (G [.obj l, .tup vs, .obj n1, .obj n2, pd2] M2).sat fun d M3 => ∃ b : Bool, d = .bl b ∧ Kept M2 M3 ∧ (b = true ↔ X))
    (yes : X → ∀ M', Kept M M' → R (.rt (.bl true) M')) (no : ¬ X → ∀ o8 o9 o10 M', Kept M M' → R (.nx [some (.obj l), some (.tup vs), some (.obj m1), some (.obj m2), some pd, some h1, some h2, some (.int ans), o8, o9, o10] M')) :
    (fbA G [some (.obj l), some (.tup vs), some (.obj m1), some (.obj m2), some pd, some h1, some h2, some (.int ans), o8, o9, o10] M).sat R := by
  have hA1 := H1.furA
  have hA2 := H2.furA
  obtain ⟨g, st, a, fs, rfl, hg, hst, ha1, hf1, hz1, he1⟩ := H1
  obtain ⟨g', st', a', fs', rfl, hg', hst', ha', hf', hz', he'⟩ := H2
  obtain rfl : g = s := e1
  obtain ⟨kd, hlk, hmem⟩ := lookup_mem hst
  have hkd := hk _ hmem
  obtain ⟨la, lb, lp, g0, gl, _, gb, _⟩ := L.ex
  have sl1 : sliceD (.obj m1) none (some (-1)) M = .ok (.obj M.length) (M ++ [.lst q1]) := by simp only [sliceD, g1, cut_last]
  have K1 : Kept M (M ++ [.lst q1]) := Kept.refl.app _
  have gn1 : (M ++ [.lst q1])[M.length]? = some (.lst q1) := get_new
  unfold fbA
  generalize hM1 : (M ++ [MO.lst q1]) = M1 at *
  have sl2 : sliceD (.obj m2) none (some (-1)) M1 = .ok (.obj M1.length) (M1 ++ [.lst q2]) := by simp only [sliceD, K1.at_ g2, cut_last]
  have K2 : Kept M1 (M1 ++ [.lst q2]) := Kept.refl.app _
  have gn2 : (M1 ++ [.lst q2])[M1.length]? = some (.lst q2) := get_new
  generalize hM2 : (M1 ++ [MO.lst q2]) = M2 at *
  have KA := K1.trans K2
  rcases ha with rfl | rfl
  · obtain ⟨p2, ep, hp2⟩ := after_pd (M := M2) (ans := 0) hp hkd hlk (.inl rfl)
    rw [if_pos rfl] at hp2
    have gd := gix_dic (KA.at_ gb) hlk
    have il : ixD (.obj l) (.int 1) M2 = .ok (.obj lb) M2 := ixo (k := 1) (KA.at_ gl) rfl
    obtain ⟨d, M3, eG, b, rfl, K3, hb⟩ := sat_get (hG M.length M1.length p2 M2 KA (by rw [if_pos rfl]; exact K2.at_ gn1) (by rw [if_pos rfl]; exact gn2) (by rw [if_pos rfl]; exact hp2))
    have yes := fun x => yes x M3 (KA.trans K3)
    have no := fun x o8 o9 o10 => no x o8 o9 o10 M3 (KA.trans K3)
    clear hG L gl gb g1 g2 K1 K2 KA K3 gn1 gn2 hlk hmem hk hkd hf1 hf' he1 he' hst hst' hA1 hA2 hg hg' ha1 ha'
    cases b with
    | true =>
      have yes := yes (hb.mp rfl)
      clear no hb
      walk_at "dx"
      all_goals exact yes
    | false =>
      have no := no (fun x => by have := hb.mpr x; cases this)
      clear yes hb
      walk_at "dx"
      all_goals exact no _ _ _
  · obtain ⟨d2, M3, es1, n1, h2a, h2b, rfl, K3⟩ := sat_get (law_split_sat (M := M2) (x := .tup fs) (ws := fs) (Q := fun d M => ∃ n, M2.length ≤ n ∧ M[n]? = some (.lst (splitP fs)) ∧ d = .obj n ∧ Kept M2 M) rfl hA1.1 (by omega) fun n M' h1 h2 h3 => ⟨n, h1, h2, rfl, h3⟩)
    have zs : (splitP fs).length ≤ 6 := by
      have := splitP_len (ws := fs)
      omega
    have ad1 := add_oo ((K2.trans K3).at_ gn1) h2b (by omega)
    have gn3 : (M3 ++ [.lst (q1 ++ splitP fs)])[M3.length]? = some (.lst (q1 ++ splitP fs)) := get_new
    have K4 : Kept M3 (M3 ++ [.lst (q1 ++ splitP fs)]) := Kept.refl.app _
    generalize hM4 : (M3 ++ [MO.lst (q1 ++ splitP fs)]) = M4 at *
    obtain ⟨d3, M5, es2, n2, h3a, h3b, rfl, K5⟩ := sat_get (law_split_sat (M := M4) (x := .tup fs') (ws := fs') (Q := fun d M => ∃ n, M4.length ≤ n ∧ M[n]? = some (.lst (splitP fs')) ∧ d = .obj n ∧ Kept M4 M) rfl hA2.1 (by omega) fun n M' h1 h2 h3 => ⟨n, h1, h2, rfl, h3⟩)
    have zs' : (splitP fs').length ≤ 6 := by
      have := splitP_len (ws := fs')
      omega
    have KB := (K3.trans K4).trans K5
    have ad2 := add_oo (KB.at_ gn2) h3b (by omega)
    have gn4 : (M5 ++ [.lst (q2 ++ splitP fs')])[M5.length]? = some (.lst (q2 ++ splitP fs')) := get_new
    have K6 : Kept M5 (M5 ++ [.lst (q2 ++ splitP fs')]) := Kept.refl.app _
    generalize hM6 : (M5 ++ [MO.lst (q2 ++ splitP fs')]) = M6 at *
    have KC := (KA.trans KB).trans K6
    obtain ⟨p2, ep, hp2⟩ := after_pd (M := M6) (ans := 1) hp hkd hlk (.inr rfl)
    rw [if_neg (by decide)] at hp2
    have gd := gix_dic (KC.at_ gb) hlk
    have il : ixD (.obj l) (.int 1) M6 = .ok (.obj lb) M6 := ixo (k := 1) (KC.at_ gl) rfl
    obtain ⟨d, M7, eG, b, rfl, K7, hb⟩ := sat_get (hG M3.length M5.length p2 M6 KC (by rw [if_neg (by decide)]; exact (K5.trans K6).at_ gn3) (by rw [if_neg (by decide)]; exact gn4) (by rw [if_neg (by decide)]; exact hp2))
    have yes := fun x => yes x M7 (KC.trans K7)
    have no := fun x o8 o9 o10 => no x o8 o9 o10 M7 (KC.trans K7)
    clear hG L gl gb g1 g2 K1 K2 KA K3 K4 K5 K6 K7 KB KC gn1 gn2 gn3 gn4 h2b h3b hlk hmem hk hkd hf1 hf' he1 he' hst hst' hA1 hA2 hg hg' ha1 ha'
    cases b with
    | true =>
      have yes := yes (hb.mp rfl)
      clear no hb
      walk_at "dx"
      all_goals exact yes
    | false =>
      have no := no (fun x => by have := hb.mpr x; cases this)
      clear yes hb
      walk_at "dx"
      all_goals exact no _ _ _
end DL

set_option Elab.async false
set_option linter.all false
set_option maxRecDepth 100000
set_option maxHeartbeats 4000000
namespace DL
open PySem PySem.Spec L2
open PyProof.Rows hiding St
local macro_rules | `(tactic| walk_at "dx") => `(tactic| try simp (disch := first | decide | assumption | omega) only [sPut, sOset, sFldD, eMeth, eMake, ePr, eMt, eCh, sAug, oN, oS, eSl, eDic0, eCv, sSeq, sIf, sRet, sRetN, sNil, sSet, sExpr, sAsg, gTupN, gNms, gNm, tb, tNotF, tAndF, tOrF, eNot, eAnd, eOr, eIf, eTup, eLst, aCons, aNil, eCall, e1, e2, eVar, eC, negD, bind_ok, ro_ok, seq_nx, seq_rt, seq_ct, seq_bk, fin_rt, fin_nx, sat_ok, sat_bind, sat_fin, sat_seq, sat_ro, rsat_nx, rsat_rt, rsat_ct, rsat_bk, seqQ_nx, seqQ_rt, seqQ_ct, seqQ_bk, finQ_nx, finQ_rt, loopQ_nx, loopQ_ct, loopQ_bk, loopQ_rt, sSub, ixo0, ixo1, ixo2, ixo3, ixo4, puts1, puts2, puts3, puts4, List.map_cons, List.map_nil, List.length_cons, List.length_nil, Nat.reduceAdd, Nat.reduceSub, List.replicate_succ, List.replicate_zero, List.nil_append, List.cons_append, List.getElem?_cons_zero, List.getElem?_cons_succ, List.set_cons_zero, List.set_cons_succ, ix0, ix1, ix2, ix3, ix4, eq_ss, eq_ii, eq_bb, ne_ss, ne_ii, add_ii, sub_ii, mul_ii, mod_ii, fdiv_ii, ord_ii, isN_, isNonD, int_i, if_true, if_false, Bool.false_eq_true, Bool.true_eq_false, Bool.not_true, Bool.not_false, decide_eq_true_eq, Bool.and_true, Bool.true_and, Bool.and_false, Bool.false_and, Bool.or_true, Bool.or_false, Bool.true_or, Bool.false_or, ofString_inj, String.reduceEq, decide_true, decide_false, Int.reduceLT, Int.reduceLE, Int.reduceEq, Int.reduceNeg, Int.reduceSub, Int.reduceAdd, Int.reducePow, Int.reduceMul, true_or, or_true, false_or, or_false, true_and, and_true, false_and, and_false, not_true_eq_false, not_false_eq_true, *])
theorem law_apart_sat {nk : List (Str × D)} {cs : List (Str × Int)} {vs : List D} {l : Nat} (hk : KindsOk nk) (hl : cs.length ≤ 2) (hv : StoreOk cs vs) : ∀ (f : Nat) {M : DM} {m1 m2 : Nat} {p q : List D} {pd : D} {s : Str} {Q : D → DM → Prop}, f ≤ 64 → wtP 3 p < f → LoreAt M l nk cs → M[m1]? = some (.lst p) → M[m2]? = some (.lst q) → (∀ h ∈ p, Hv nk cs 2 h) → (∀ h ∈ q, Hv nk cs 2 h) → q.length + 6 * f ≤ 900 → PendOk pd s →
    (∀ b M', Kept M M' → (b = true ↔ runT nk cs vs p s ≠ runT nk cs vs q s) → Q (.bl b) M') → (g_law_apart f [.obj l, .tup vs, .obj m1, .obj m2, pd] M).sat Q
  | 0, M, m1, m2, p, q, pd, s, Q, _, h, _, _, _, _, _, _, _, _ => by omega
  | f + 1, M, m1, m2, p, q, pd, s, Q, hf, hw, L, g1, g2, hp, hq, hz, hpd, fin => by
    have st := fun M => law_state_eq (M := M) hpd
    have two := hpd.two
    have lz : p.length ≤ wtP 3 p := len_wt
    show (fnD 11 (f_law_apart (g_law_apart f)) [.obj l, .tup vs, .obj m1, .obj m2, pd] M).sat Q
    unfold fnD f_law_apart
    rw [← fbA]
    obtain ⟨d1, M1, et1, m1', p', t1, rfl, g1', ep, ht1, hp', K1⟩ := sat_get (law_top_sat (s := s) (Q := fun d M' => ∃ m' p' t, d = .obj m' ∧ M'[m']? = some (.lst p') ∧ p = p' ++ t ∧ (∀ h ∈ t, grd h ≠ s) ∧ (p' = [] ∨ ∃ r h, p' = r ++ [h] ∧ grd h = s) ∧ Kept M M') g1 (fun h hh => (hp h hh).isA) (by omega) fun m' p' t M' a b c d e => ⟨m', p', t, rfl, a, b, c, d, e⟩)
    obtain ⟨d2, M2, et2, m2', q', t2, rfl, g2', eq, ht2, hq', K2⟩ := sat_get (law_top_sat (s := s) (Q := fun d M' => ∃ m' p' t, d = .obj m' ∧ M'[m']? = some (.lst p') ∧ q = p' ++ t ∧ (∀ h ∈ t, grd h ≠ s) ∧ (p' = [] ∨ ∃ r h, p' = r ++ [h] ∧ grd h = s) ∧ Kept M1 M') (K1.at_ g2) (fun h hh => (hq h hh).isA) (by omega) fun m' p' t M' a b c d e => ⟨m', p', t, rfl, a, b, c, d, e⟩)
    have K := K1.trans K2
    have g1' := K2.at_ g1'
    have r1 : runT nk cs vs p s = runT nk cs vs p' s := by rw [ep]; exact run_cut (fun h hh => (hp h (by rw [ep]; exact List.mem_append_right _ hh)).isA) ht1
    have r2 : runT nk cs vs q s = runT nk cs vs q' s := by rw [eq]; exact run_cut (fun h hh => (hq h (by rw [eq]; exact List.mem_append_right _ hh)).isA) ht2
    rw [r1, r2] at fin
    have hpp : ∀ h ∈ p', Hv nk cs 2 h := fun h hh => hp h (by rw [ep]; exact List.mem_append_left _ hh)
    have hqq : ∀ h ∈ q', Hv nk cs 2 h := fun h hh => hq h (by rw [eq]; exact List.mem_append_left _ hh)
    have wp : wtP 3 p' ≤ wtP 3 p := by rw [ep, wtP_app]; omega
    have zq : q'.length ≤ q.length := by rw [eq, List.length_append]; omega
    clear hp hq r1 r2 ht1 ht2 ep eq g1 g2
    have l1 : lenD [.obj m1'] M2 = .ok (.int p'.length) M2 := len_o g1'
    have l2 : lenD [.obj m2'] M2 = .ok (.int q'.length) M2 := len_o g2'
    rcases hp' with rfl | ⟨r1, h1, rfl, e1⟩
    · have fin := fin (!decide (((0 : Nat) : Int) = (q'.length : Int))) M2 K (by
        rcases hq' with rfl | ⟨r2, h2, rfl, e2⟩
        · simp
        · have : ¬ ((0 : Nat) : Int) = ((r2 ++ [h2]).length : Int) := by simp; omega
          rw [run_top hv (hqq h2 (by simp)) e2, run_nil]
          simp only [this, decide_false, Bool.not_false, true_iff]
          intro z; cases z)
      have z0 : (((0 : Nat) : Int) = 0) = True := by simp
      have l1 : lenD [.obj m1'] M2 = .ok (.int ((0 : Nat) : Int)) M2 := l1
      clear hpp hqq hq' g1' g2' K1 K2 K L st
      have st := fun M => law_state_eq (M := M) hpd
      walk_at "dx"
      all_goals exact fin
    · rcases hq' with rfl | ⟨r2, h2, rfl, e2⟩
      · have n1 : ¬ ((r1 ++ [h1]).length : Int) = 0 := by simp; omega
        have fin := fin true M2 K (by
          rw [run_top hv (hpp h1 (by simp)) e1, run_nil]
          simp)
        have z0 : (((0 : Nat) : Int) = 0) = True := by simp
        have n2 : ¬ ((r1 ++ [h1]).length : Int) = ((0 : Nat) : Int) := n1
        have l2 : lenD [.obj m2'] M2 = .ok (.int ((0 : Nat) : Int)) M2 := l2
        generalize ((r1 ++ [h1]).length : Int) = Z at *
        clear hpp hqq g1' g2' K1 K2 K L
        walk_at "dx"
        all_goals exact fin
      · have n1 : ¬ ((r1 ++ [h1]).length : Int) = 0 := by simp; omega
        have n2 : ¬ ((r2 ++ [h2]).length : Int) = 0 := by simp; omega
        have H1 := hpp h1 (by simp)
        have H2 := hqq h2 (by simp)
        have x1 : ixD (.obj m1') (.int (((r1 ++ [h1]).length : Int) - 1)) M2 = .ok h1 M2 := by
          have : (((r1 ++ [h1]).length : Int) - 1) = (r1.length : Int) := by simp
          rw [this]
          exact ixo g1' (by simp)
        have x2 : ixD (.obj m2') (.int (((r2 ++ [h2]).length : Int) - 1)) M2 = .ok h2 M2 := by
          have : (((r2 ++ [h2]).length : Int) - 1) = (r2.length : Int) := by simp
          rw [this]
          exact ixo g2' (by simp)
        rw [run_top hv H1 e1, run_top hv H2 e2] at fin
        have wt := wt_top (r := r1) H1
        have zz : (r2 ++ [h2]).length = r2.length + 1 := by simp
        have zr : (r1 ++ [h1]).length = r1.length + 1 := by simp
        have lz2 : (r1 ++ [h1]).length ≤ wtP 3 (r1 ++ [h1]) := len_wt
        have a1 : ArgOk cs (arg h1) := by obtain ⟨g, s, a, fs, rfl, _, _, ha, _⟩ := H1; exact ha
        have a2 : ArgOk cs (arg h2) := by obtain ⟨g, s, a, fs, rfl, _, _, ha, _⟩ := H2; exact ha
        have i11 : ∀ M : DM, ixD h1 (.int 1) M = .ok (.str (stp h1)) M := by obtain ⟨g, s, a, fs, rfl, _⟩ := H1; exact fun _ => rfl
        have i21 : ∀ M : DM, ixD h2 (.int 1) M = .ok (.str (stp h2)) M := by obtain ⟨g, s, a, fs, rfl, _⟩ := H2; exact fun _ => rfl
        have i12 : ∀ M : DM, ixD h1 (.int 2) M = .ok (arg h1) M := by obtain ⟨g, s, a, fs, rfl, _⟩ := H1; exact fun _ => rfl
        have i22 : ∀ M : DM, ixD h2 (.int 2) M = .ok (arg h2) M := by obtain ⟨g, s, a, fs, rfl, _⟩ := H2; exact fun _ => rfl
        have hfur1 : (splitP (fur h1)).length ≤ 6 := by
          have := splitP_len (ws := fur h1)
          have := H1.furA.2
          omega
        have hfur2 : (splitP (fur h2)).length ≤ 6 := by
          have := splitP_len (ws := fur h2)
          have := H2.furA.2
          omega
        obtain ⟨la, lb, lp, g0, gl, _, _, gp⟩ := (L.kept K).ex
        have il : ixD (.obj l) (.int 2) M2 = .ok (.obj lp) M2 := ixo (k := 2) gl rfl
        obtain ⟨v1, M3, ev1, rfl, rfl⟩ := sat_get (law_val_sat (M := M2) (Q := fun d M' => d = valP cs vs (arg h1) ∧ M' = M2) gp hl hv a1 ⟨rfl, rfl⟩)
        obtain ⟨v2, M3, ev2, rfl, rfl⟩ := sat_get (law_val_sat (M := M3) (Q := fun d M' => d = valP cs vs (arg h2) ∧ M' = M3) gp hl hv a2 ⟨rfl, rfl⟩)
        obtain ⟨bn, en, hbn⟩ := ne_val (M := M3) (valP_ok a1 hv) (valP_ok a2 hv)
        have hpd' := hpd
        by_cases es : stp h1 = stp h2
        · cases bn with
          | true =>
            have fin := fin true M3 K (by
              simp only [true_iff]
              intro z
              exact hbn.mp rfl (Tr.ask.inj z).2.1)
            generalize ((r1 ++ [h1]).length : Int) = Z1 at *
            generalize ((r2 ++ [h2]).length : Int) = Z2 at *
            clear hpp hqq g1' g2' K1 K2 K L H1 H2 hbn gp gl a1 a2
            walk_at "dx"
            all_goals exact fin
          | false =>
            have ev : valP cs vs (arg h1) = valP cs vs (arg h2) := Classical.byContradiction fun z => by have := hbn.mpr z; cases this
            have ga : (M3 ++ [.lst [.int 0, .int 1]])[M3.length]? = some (.lst [.int 0, .int 1]) := get_new
            have K3 : Kept M3 (M3 ++ [.lst [.int 0, .int 1]]) := Kept.refl.app _
            have KK := K.trans K3
            have ask_ne : ∀ {a b c d : Tr}, (Tr.ask (stp h1) (valP cs vs (arg h1)) a b ≠ Tr.ask (stp h2) (valP cs vs (arg h2)) c d) ↔ ¬ (a = c ∧ b = d) := by
              intro a b c d
              rw [es, ev]
              simp
            rw [ask_ne] at fin
            have ea : aft nk h2 s = aft nk h1 s := by unfold aft; rw [es]
            rw [ea] at fin
            have eL : ∀ δ, (eLst (aCons (eC (D.int 0)) (aCons (eC (D.int 1)) aNil))) δ M3 = .ok (.obj M3.length) (M3 ++ [.lst [.int 0, .int 1]]) := fun _ => rfl
            have main : (sFor (fun _ _ => 0) (eLst (aCons (eC (D.int 0)) (aCons (eC (D.int 1)) aNil))) (gNm 7) (fbA (g_law_apart f)) [some (.obj l), some (.tup vs), some (.obj m1'), some (.obj m2'), some pd, some h1, some h2, none, none, none, none] M3).sat (seqQ (sRet (eC (D.bl false))) (finQ Q)) := by
              refine sforO_sat [.int 0, .int 1] (eL _) (fun i δ M' => Kept (M3 ++ [.lst [.int 0, .int 1]]) M' ∧ (0 < i → runT nk cs vs r1 "error" = runT nk cs vs r2 "error") ∧ (1 < i → runT nk cs vs (r1 ++ splitP (fur h1)) (aft nk h1 s) = runT nk cs vs (r2 ++ splitP (fur h2)) (aft nk h1 s)) ∧ ∃ o7 o8 o9 o10, δ = [some (.obj l), some (.tup vs), some (.obj m1'), some (.obj m2'), some pd, some h1, some h2, o7, o8, o9, o10]) (fun i δ M' h => h.1.at_ ga) ⟨.refl, by omega, by omega, _, _, _, _, rfl⟩ ?_ ?_
              · rintro j d δ M4 hd ⟨K4, c0, c1, o7, o8, o9, o10, rfl⟩
                have KF := (KK.trans K4)
                have K34 := K3.trans K4
                obtain ⟨ans, rfl, hj, hans⟩ : ∃ ans : Int, d = .int ans ∧ ans = (j : Int) ∧ (ans = 0 ∨ ans = 1) := by
                  match j, hd with
                  | 0, hd => exact ⟨0, by simpa using hd.symm, rfl, .inl rfl⟩
                  | 1, hd => exact ⟨1, by simpa using hd.symm, rfl, .inr rfl⟩
                  | j + 2, hd => simp at hd
                refine ⟨_, _, rfl, ?_⟩
                refine fbA_sat (X := runT nk cs vs (if ans = 0 then r1 else r1 ++ splitP (fur h1)) (if ans = 0 then "error" else aft nk h1 s) ≠ runT nk cs vs (if ans = 0 then r2 else r2 ++ splitP (fur h2)) (if ans = 0 then "error" else aft nk h1 s)) hk (L.kept KF) (K34.at_ g1') (K34.at_ g2') H1 H2 e1 (by omega) (by omega) hpd hans ?_ ?_ ?_
                · intro n1 n2 pd2 M5 K5 gn1 gn2 hp2
                  refine law_apart_sat hk hl hv f (by omega) ?_ (L.kept (KF.trans K5)) gn1 gn2 ?_ ?_ ?_ hp2 fun b M6 K6 hb => ⟨b, rfl, K6, hb⟩
                  · rcases hans with rfl | rfl
                    · rw [if_pos rfl]; omega
                    · rw [if_neg (by decide), wtP_app]; omega
                  · intro h hh
                    rcases hans with rfl | rfl
                    · rw [if_pos rfl] at hh; exact hpp h (List.mem_append_left _ hh)
                    · rw [if_neg (by decide)] at hh
                      rcases List.mem_append.mp hh with z | z
                      · exact hpp h (List.mem_append_left _ z)
                      · exact (H1.kids2 h z).succ
                  · intro h hh
                    rcases hans with rfl | rfl
                    · rw [if_pos rfl] at hh; exact hqq h (List.mem_append_left _ hh)
                    · rw [if_neg (by decide)] at hh
                      rcases List.mem_append.mp hh with z | z
                      · exact hqq h (List.mem_append_left _ z)
                      · exact (H2.kids2 h z).succ
                  · rcases hans with rfl | rfl
                    · rw [if_pos rfl]; omega
                    · rw [if_neg (by decide), List.length_append]; omega
                · intro hx M5 K5
                  have := fin true M5 (KF.trans K5) (by
                    simp only [true_iff]
                    rintro ⟨z0, z1⟩
                    rcases hans with rfl | rfl
                    · rw [if_pos rfl, if_pos rfl, if_pos rfl] at hx; exact hx z0
                    · rw [if_neg (by decide), if_neg (by decide), if_neg (by decide)] at hx; exact hx z1)
                  exact this
                · intro hx o8 o9 o10 M5 K5
                  have hx := Classical.not_not.mp hx
                  refine ⟨K4.trans K5, fun _ => ?_, fun h1 => ?_, _, _, _, _, rfl⟩
                  · rcases hans with rfl | rfl
                    · rw [if_pos rfl, if_pos rfl, if_pos rfl] at hx; exact hx
                    · exact c0 (by omega)
                  · rcases hans with rfl | rfl
                    · omega
                    · rw [if_neg (by decide), if_neg (by decide), if_neg (by decide)] at hx; exact hx
              · rintro δ M4 ⟨K4, c0, c1, o7, o8, o9, o10, rfl⟩
                have := fin false M4 (KK.trans K4) (by
                  have c0 := c0 (by simp)
                  have c1 := c1 (by simp)
                  simp [c0, c1])
                exact this
            generalize ((r1 ++ [h1]).length : Int) = Z1 at *
            generalize ((r2 ++ [h2]).length : Int) = Z2 at *
            generalize fbA (g_law_apart f) = BODY at *
            clear hpp hqq g1' g2' K1 K2 K L H1 H2 hbn gp gl a1 a2 fin ga K3 KK ask_ne eL ea ev
            walk_at "dx"
            all_goals exact main
        · have fin := fin true M3 K (by
            simp only [true_iff]
            intro z
            exact es (Tr.ask.inj z).1)
          generalize ((r1 ++ [h1]).length : Int) = Z1 at *
          generalize ((r2 ++ [h2]).length : Int) = Z2 at *
          clear hpp hqq g1' g2' K1 K2 K L H1 H2 hbn gp gl a1 a2
          walk_at "dx"
          all_goals exact fin
end DL

set_option Elab.async false
set_option linter.all false
set_option maxRecDepth 100000
set_option maxHeartbeats 4000000
namespace DL
open PySem PySem.Spec L2
open PyProof.Rows hiding St
local macro_rules | `(tactic| walk_at "dx") => `(tactic| try simp (disch := first | decide | assumption | omega) only [sPut, sOset, sFldD, eMeth, eMake, ePr, eMt, eCh, sAug, oN, oS, eSl, eDic0, eCv, sSeq, sIf, sRet, sRetN, sNil, sSet, sExpr, sAsg, gTupN, gNms, gNm, tb, tNotF, tAndF, tOrF, eNot, eAnd, eOr, eIf, eTup, eLst, aCons, aNil, eCall, e1, e2, eVar, eC, negD, bind_ok, ro_ok, seq_nx, seq_rt, seq_ct, seq_bk, fin_rt, fin_nx, sat_ok, sat_bind, sat_fin, sat_seq, sat_ro, rsat_nx, rsat_rt, rsat_ct, rsat_bk, seqQ_nx, seqQ_rt, seqQ_ct, seqQ_bk, finQ_nx, finQ_rt, loopQ_nx, loopQ_ct, loopQ_bk, loopQ_rt, sSub, ixo0, ixo1, ixo2, ixo3, ixo4, puts1, puts2, puts3, puts4, List.map_cons, List.map_nil, List.length_cons, List.length_nil, Nat.reduceAdd, Nat.reduceSub, List.replicate_succ, List.replicate_zero, List.nil_append, List.cons_append, List.getElem?_cons_zero, List.getElem?_cons_succ, List.set_cons_zero, List.set_cons_succ, ix0, ix1, ix2, ix3, ix4, eq_ss, eq_ii, eq_bb, ne_ss, ne_ii, add_ii, sub_ii, mul_ii, mod_ii, fdiv_ii, ord_ii, isN_, isNonD, int_i, if_true, if_false, Bool.false_eq_true, Bool.true_eq_false, Bool.not_true, Bool.not_false, decide_eq_true_eq, Bool.and_true, Bool.true_and, Bool.and_false, Bool.false_and, Bool.or_true, Bool.or_false, Bool.true_or, Bool.false_or, ofString_inj, String.reduceEq, decide_true, decide_false, Int.reduceLT, Int.reduceLE, Int.reduceEq, Int.reduceNeg, Int.reduceSub, Int.reduceAdd, Int.reducePow, Int.reduceMul, true_or, or_true, false_or, or_false, true_and, and_true, false_and, and_false, not_true_eq_false, not_false_eq_true, *])
theorem ne_bb {a b : Bool} {M : DM} : neD (.bl a) (.bl b) M = .ok (.bl (!decide (a = b))) M := by
  simp only [neD, toPy, PyData.eqv]
  rfl
theorem NormA.noB {nk : List (Str × D)} {cs : List (Str × Int)} : ∀ {n : Nat} {d : D}, NormA nk cs n d → ∀ {k : Nat}, 2 * n + 1 ≤ k → DL.noB k d = true
  | 0, d, h, _, _ => h.elim
  | n + 1, d, h, k, hk => by
    obtain ⟨g, s, a, fs, rfl, hg, hs, ha, hf, _⟩ := h
    obtain ⟨k, rfl⟩ : ∃ j, k = j + 2 := ⟨k - 2, by omega⟩
    exact mkA_noB (ha.noB (by omega)) fun f hf' => (hf f hf').noB (by omega)
def agP (nk : List (Str × D)) (cs : List (Str × Int)) (vs : List D) (s : Str) (ws : List D) : List D := keepP nk [s] (normP nk 6 (ws.map (tellD cs vs)))
structure AgOk (nk : List (Str × D)) (cs : List (Str × Int)) (vs : List D) (s : Str) (A : List D) : Prop where
  nrm : ∀ d ∈ A, NormA nk [] 3 d ∧ LeafN 3 d
  len : A.length ≤ 900
  kp : keepP nk [s] A = A
theorem AgOk.noB {nk : List (Str × D)} {cs : List (Str × Int)} {vs : List D} {s : Str} {A : List D} (h : AgOk nk cs vs s A) : DL.noB 10 (.tup A) = true ∧ plainN 10 (.tup A) = true := by
  have h9 : ∀ d ∈ A, DL.noB 9 d = true := fun d hd => (h.nrm d hd).1.noB (by omega)
  refine ⟨List.all_eq_true.mpr h9, ?_⟩
  simp only [plainN, Bool.and_eq_true, decide_eq_true_eq]
  exact ⟨by have := h.len; omega, List.all_eq_true.mpr fun d hd => (h.nrm d hd).1.plain (by omega)⟩
theorem map_act {nk : List (Str × D)} {cs : List (Str × Int)} {vs ws : List D} (hv : StoreOk cs vs) (hw : ∀ d ∈ ws, ActOk nk cs 3 d) : ∀ d ∈ ws.map (tellD cs vs), ActOk nk [] 3 d := fun d hd => by
  obtain ⟨x, hx, rfl⟩ := List.mem_map.mp hd
  exact act_tell hv (hw x hx)
theorem agP_ok {nk : List (Str × D)} {cs : List (Str × Int)} {vs ws : List D} {s : Str} (hv : StoreOk cs vs) (hw : ∀ d ∈ ws, ActOk nk cs 3 d) (hz : ws.length ≤ 5) : AgOk nk cs vs s (agP nk cs vs s ws) := by
  have hu := map_act hv hw
  have dom := dom_act (m := 5) (n := 3) (by omega) hu (by rw [List.length_map]; exact hz) (by omega)
  obtain ⟨n1, n2⟩ := norm_ok (m := 6) (n := 3) (w := ws.map (tellD cs vs)) (by omega) hu (by omega)
  have n4 := norm_leaf (m := 6) (n := 3) (w := ws.map (tellD cs vs)) hu (by omega)
  have n3 : (normP nk 6 (ws.map (tellD cs vs))).length ≤ 900 := (dom_len dom).2
  exact ⟨fun d hd => ⟨n1 d (keepP_mem hd), n4 d (keepP_mem hd)⟩, Nat.le_trans keepP_len n3, keepP_idem⟩
theorem TellOk.succ {cs : List (Str × Int)} : ∀ {n : Nat} {d : D}, TellOk cs n d → TellOk cs (n + 1) d
  | 0, d, h => h.elim
  | n + 1, d, ⟨g, s, a, fs, e, ha, hf, hz⟩ => ⟨g, s, a, fs, e, ha, fun f h => (hf f h).succ, hz⟩
theorem agenda_tup {M : DM} {nk : List (Str × D)} {cs : List (Str × Int)} {b : Nat} {pd : D} {ws vs : List D} {s : Str} {Q : D → DM → Prop} (hk : KindsOk nk) (B : CellsB M b nk cs) (hl : cs.length ≤ 2) (hv : StoreOk cs vs) (hp : PendOk pd s) (hw : ∀ d ∈ ws, ActOk nk cs 3 d) (hz : ws.length ≤ 5)
    (q : ∀ M', Kept M M' → Q (.tup (agP nk cs vs s ws)) M') : (g_agenda [.tup ws, .tup [pd, .tup vs], .obj b] M).sat Q := by
  have hu := map_act hv hw
  have dom := dom_act (m := 5) (n := 3) (by omega) hu (by rw [List.length_map]; exact hz) (by omega)
  obtain ⟨n1, n2⟩ := norm_ok (m := 6) (n := 3) (w := ws.map (tellD cs vs)) (by omega) hu (by omega)
  exact agenda_sat hk B hl hv hp rfl (fun _ _ => rfl) ⟨itS ws, rfl, rfl, fun _ _ _ => rfl⟩ (fun d hd => (hw d hd).tell.succ.succ.succ) (by omega) dom (fun d hd => (n1 d hd).isK) q
theorem agenda_obj {M : DM} {nk : List (Str × D)} {cs : List (Str × Int)} {b r : Nat} {pd : D} {ws vs : List D} {s : Str} {Q : D → DM → Prop} (hk : KindsOk nk) (B : CellsB M b nk cs) (hl : cs.length ≤ 2) (hv : StoreOk cs vs) (hp : PendOk pd s) (hw : ∀ d ∈ ws, ActOk nk cs 3 d) (hz : ws.length ≤ 5) (hr : M[r]? = some (.lst ws))
    (q : ∀ M', Kept M M' → Q (.tup (agP nk cs vs s ws)) M') : (g_agenda [.obj r, .tup [pd, .tup vs], .obj b] M).sat Q := by
  have hu := map_act hv hw
  have dom := dom_act (m := 5) (n := 3) (by omega) hu (by rw [List.length_map]; exact hz) (by omega)
  obtain ⟨n1, n2⟩ := norm_ok (m := 6) (n := 3) (w := ws.map (tellD cs vs)) (by omega) hu (by omega)
  refine agenda_sat hk B hl hv hp (by simp only [itemsD, hr]) (fun M1 K => by simp only [itemsD, K.at_ hr]) ⟨itL r (ws.length + 1), ?_, rfl, fun M1 i K => by simp only [itL, K.at_ hr]⟩ (fun d hd => (hw d hd).tell.succ.succ.succ) (by omega) dom (fun d hd => (n1 d hd).isK) q
  simp only [iV, eVar, List.getElem?_cons_zero, bind_ok, iVal, hr]
theorem agenda_ag {M : DM} {nk : List (Str × D)} {cs : List (Str × Int)} {b : Nat} {pd : D} {A vs : List D} {s : Str} {Q : D → DM → Prop} (hk : KindsOk nk) (B : CellsB M b nk cs) (hl : cs.length ≤ 2) (hv : StoreOk cs vs) (hp : PendOk pd s) (hA : AgOk nk cs vs s A)
    (q : ∀ M', Kept M M' → Q (.tup A) M') : (g_agenda [.tup A, .tup [pd, .tup vs], .obj b] M).sat Q := by
  have k1 : ∀ d ∈ A, NormA nk [] 3 d := fun d hd => (hA.nrm d hd).1
  have em : A.map (tellD cs vs) = A := (List.map_congr_left (g := id) fun x hx => tell_id (k1 x hx)).trans (List.map_id _)
  have dom2 := dom_norm (m := 5) k1 hA.len (by omega)
  have e6 : normP nk 6 A = A := norm_id k1 (by omega) (by omega)
  refine agenda_sat hk B hl hv hp rfl (fun _ _ => rfl) ⟨itS A, rfl, rfl, fun _ _ _ => rfl⟩ (fun d hd => (k1 d hd).tell.succ.succ.succ) hA.len ?_ ?_ ?_
  · rw [em]; exact dom2
  · rw [em, e6]; exact fun d hd => (k1 d hd).isK
  · rw [em, e6, hA.kp]; exact q
/-- the agenda of a word asks what the word asks -/
theorem ag_run {nk : List (Str × D)} {cs : List (Str × Int)} {vs ws : List D} {s : Str} (hv : StoreOk cs vs) (hw : ∀ d ∈ ws, ActOk nk cs 3 d) (hs : Two s) : runR nk 3 (agP nk cs vs s ws).reverse stopK s = runT nk cs vs (splitP ws) s := by
  have hu := map_act hv hw
  obtain ⟨n1, n2⟩ := norm_ok (m := 6) (n := 3) (w := ws.map (tellD cs vs)) (by omega) hu (by omega)
  have n4 := norm_leaf (m := 6) (n := 3) (w := ws.map (tellD cs vs)) hu (by omega)
  unfold runT agP keepP
  rw [List.reverse_reverse, ← split_tell fun d hd => (hw d hd).isA, ← norm_run 3 6 3 _ (by omega) hu (by omega) (by omega) stopK s hs]
  exact keep_run _ (fun h hh => ⟨(n1 h (List.mem_reverse.mp hh)).half, (n4 h (List.mem_reverse.mp hh)).1⟩) [s] (fun x hx => by rw [List.mem_singleton.mp hx]; exact hs) s (by simp)
theorem ag_same {nk : List (Str × D)} {cs : List (Str × Int)} {vs : List D} {s : Str} {A B : List D} (hA : AgOk nk cs vs s A) (hB : AgOk nk cs vs s B) (hs : Two s) (h : runR nk 3 A.reverse stopK s = runR nk 3 B.reverse stopK s) : A = B := by
  have kr : ∀ {A : List D}, keepP nk [s] A = A → keepR nk [s] A.reverse = A.reverse := fun {A} e => by
    have := congrArg List.reverse e
    unfold keepP at this
    rwa [List.reverse_reverse] at this
  have := same_runs _ A.reverse B.reverse s (Nat.le_refl _) (fun d hd => NL.of (hA.nrm d (List.mem_reverse.mp hd)).1 (hA.nrm d (List.mem_reverse.mp hd)).2) (fun d hd => NL.of (hB.nrm d (List.mem_reverse.mp hd)).1 (hB.nrm d (List.mem_reverse.mp hd)).2) (kr hA.kp) (kr hB.kp) hs h
  exact List.reverse_inj.mp this
theorem words_split {nk : List (Str × D)} {cs : List (Str × Int)} {ws : List D} (hw : ∀ d ∈ ws, ActOk nk cs 3 d) : ∀ h ∈ splitP ws, Hv nk cs 2 h := fun h hh => by
  obtain ⟨d, hd, hh⟩ := List.mem_flatMap.mp hh
  exact act_half (hw d hd) hh
theorem main_law (ns : List Int) (h : ns.length ≤ 63) : ∃ M, g_law [.rol (ns.map .int)] [] = .ok (.bl true) M := by
  suffices q : (g_law [.rol (ns.map .int)] []).sat fun d _ => d = .bl true by
    obtain ⟨d, M, e, rfl⟩ := sat_get q
    exact ⟨M, e⟩
  have p1 := law_pool_eq (ns := ns)
  have P0 := law_pool_at h
  unfold g_law f_law fnD
  generalize ns.map D.int = nsd at *
  walk_at "dx"
  clear p1
  generalize ([.lst nsd, .lst [.obj 0, .int 0, .int 0, .int 0, .int 0]] : DM) = M0 at *
  refine law_lore_sat P0 (by decide) (by decide) fun l M1 nk cs L O G1 => ?_
  have O : LoreOk nk cs 3 2 := O
  have hcl := O.clen
  have hk : KindsOk nk := fun q hq => (O.ok q hq).2
  walk_at "dx"
  refine law_word_sat O (by decide) (by decide) G1.pool L fun w1 M2 W G2 => ?_
  have L2 := L.grew G2
  walk_at "dx"
  refine law_exit_sat G2.pool fun pd s M3 hp D3 => ?_
  have L3 := L2.grew D3.grew
  walk_at "dx"
  refine law_store_sat O (by decide) D3.grew.pool L3 fun vs M4 hv G4 => ?_
  have L4 := L3.grew G4
  have two := hp.two
  walk_at "dx"
  refine law_second_sat O (by decide) (by decide) G4.pool L4 W hp fun w2 M5 W2 G5 => ?_
  have L5 := L4.grew G5
  walk_at "dx"
  refine law_draw_sat G5.pool (by decide) fun t M6 _ _ D6 => ?_
  have L6 := L5.grew D6.grew
  walk_at "dx"
  refine law_bookT_sat L6 O (by decide) (by decide) fun b M7 B K7 => ?_
  have L7 := L6.kept K7
  obtain ⟨hw1, hz1, hm1⟩ := W
  obtain ⟨hw2, hz2⟩ := W2
  obtain ⟨la, lb, lp, g0, gl, ga, gb, gp⟩ := L7.ex
  obtain ⟨d8, M8, e8, rfl, K8⟩ := sat_get (agenda_tup (M := M7) (Q := fun d M => d = .tup (agP nk cs vs s w1) ∧ Kept M7 M) hk B hcl hv hp hw1 (by omega) fun M' K => ⟨rfl, K⟩)
  obtain ⟨d9, M9, e9, rfl, K9⟩ := sat_get (agenda_tup (M := M8) (Q := fun d M => d = .tup (agP nk cs vs s w2) ∧ Kept M8 M) hk (B.kept K8) hcl hv hp hw2 hz2 fun M' K => ⟨rfl, K⟩)
  have KA := K8.trans K9
  have A1 := agP_ok (s := s) hv hw1 (by omega)
  have A2 := agP_ok (s := s) hv hw2 hz2
  have r1 := ag_run hv hw1 two
  have r2 := ag_run hv hw2 two
  have i9 : ixD (.obj l) (.int 0) M9 = .ok (.obj la) M9 := ixo (k := 0) (KA.at_ gl) rfl
  have hv1 := law_halved_eq (M := M9) 3 6 (by omega) (KA.at_ ga) A1.nrm (by have := A1.len; omega)
  have hv2 := law_halved_eq (M := M9) 3 6 (by omega) (KA.at_ ga) A2.nrm (by have := A2.len; omega)
  obtain ⟨d10, M10, e10, rfl, K10⟩ := sat_get (agenda_tup (M := M9) (Q := fun d M => d = .tup (agP nk cs vs s w1) ∧ Kept M9 M) hk (B.kept KA) hcl hv hp hw1 (by omega) fun M' K => ⟨rfl, K⟩)
  have KB := KA.trans K10
  generalize ha1 : agP nk cs vs s w1 = a1 at *
  generalize ha2 : agP nk cs vs s w2 = a2 at *
  have s11 : ∀ M, g_law_same 10 [.tup a1, .tup a1] M = .ok (.bl true) M := fun M => law_same_true 10 _ _ (SameP.refl 10 _ A1.noB.2)
  have s22 : ∀ M, g_law_same 10 [.tup a2, .tup a2] M = .ok (.bl true) M := fun M => law_same_true 10 _ _ (SameP.refl 10 _ A2.noB.2)
  obtain ⟨d11, M11, e11, rfl, K11⟩ := sat_get (agenda_ag (M := M10) (Q := fun d M => d = .tup a1 ∧ Kept M10 M) hk (B.kept KB) hcl hv hp A1 fun M' K => ⟨rfl, K⟩)
  have KC := KB.trans K11
  have lst : listD [.tup w2] M11 = .ok (.obj M11.length) (M11 ++ [.lst w2]) := rfl
  have gw : (M11 ++ [.lst w2])[M11.length]? = some (.lst w2) := get_new
  have KD := KC.app [.lst w2]
  obtain ⟨d12, M12, e12, hd12, K12⟩ := sat_get (agenda_obj (M := M11 ++ [.lst w2]) (Q := fun d M => d = .tup (agP nk cs vs s w2) ∧ Kept (M11 ++ [.lst w2]) M) hk (B.kept KD) hcl hv hp hw2 hz2 gw fun M' K => ⟨rfl, K⟩)
  rw [ha2] at hd12
  subst hd12
  generalize (M11 ++ [MO.lst w2]) = M11' at *
  have KE := KD.trans K12
  obtain ⟨d13, M13, e13, n1, rfl, gn1, K13⟩ := sat_get (law_split_sat (M := M12) (x := .tup w1) (ws := w1) (Q := fun d M => ∃ n, d = .obj n ∧ M[n]? = some (.lst (splitP w1)) ∧ Kept M12 M) rfl (fun d hd => (hw1 d hd).isA) (by omega) fun n M' h1 h2 h3 => ⟨n, rfl, h2, h3⟩)
  obtain ⟨d14, M14, e14, n2, rfl, gn2, K14⟩ := sat_get (law_split_sat (M := M13) (x := .tup w2) (ws := w2) (Q := fun d M => ∃ n, d = .obj n ∧ M[n]? = some (.lst (splitP w2)) ∧ Kept M13 M) rfl (fun d hd => (hw2 d hd).isA) (by omega) fun n M' h1 h2 h3 => ⟨n, rfl, h2, h3⟩)
  have KF := (KE.trans K13).trans K14
  have wz := wt_mz 3 w1 hw1
  have sz2 := splitP_len (ws := w2)
  have mz : mzL 3 w1 ≤ 9 := hm1
  obtain ⟨d15, M15, e15, ba, rfl, hba⟩ := sat_get (law_apart_sat hk hcl hv 64 (M := M14) (m1 := n1) (m2 := n2) (Q := fun d M => ∃ b : Bool, d = .bl b ∧ (b = true ↔ runT nk cs vs (splitP w1) s ≠ runT nk cs vs (splitP w2) s)) (by omega) (by omega) (L7.kept KF) (K14.at_ gn1) gn2 (words_split hw1) (words_split hw2) (by omega) hp fun b M' _ hb => ⟨b, rfl, hb⟩)
  obtain ⟨bs, es, hbs⟩ := same_dec (M := M15) 10 (.tup a1) (.tup a2) A1.noB.1 A2.noB.1 A1.noB.2 A2.noB.2
  have key : (!decide (bs = ba)) = true := by
    have h1 : bs = true ↔ runT nk cs vs (splitP w1) s = runT nk cs vs (splitP w2) s := by
      rw [hbs, ← r1, ← r2]
      constructor
      · intro z
        have z : a1 = a2 := by simpa using z
        rw [z]
      · intro z
        rw [ag_same A1 A2 two z]
    cases bs <;> cases ba <;> simp_all
  have iP : ∀ M, ixD (.tup [pd, .tup vs]) (.int 0) M = .ok pd M := fun _ => rfl
  have iS : ∀ M, ixD (.tup [pd, .tup vs]) (.int 1) M = .ok (.tup vs) M := fun _ => rfl
  have nb : neD (.bl bs) (.bl ba) M15 = .ok (.bl true) M15 := by rw [ne_bb, key]
  clear hw1 hw2 hm1 wz sz2 mz hba hbs key r1 r2 ha1 ha2 A1 A2 gn1 gn2 gw K8 K9 K10 K11 K12 K13 K14 KA KB KC KD KE KF L L2 L3 L4 L5 L6 L7 G1 G2 G4 G5 D3 D6 K7 B O hk hv hp hcl two g0 gl ga gb gp P0
  walk_at "dx"
end DL

set_option Elab.async false
set_option linter.all false
set_option maxRecDepth 100000
set_option maxHeartbeats 4000000
namespace DL
open PySem PySem.Spec L2
open PyProof.Rows hiding St
theorem txt_mk {c : Ctx} {K : PySem.W.Frag} {mg : Str → Option Value} {h : Heap} (X : K.In h) (G : h.Ns mainGlobals mg) (eK : c.K = K) (em : c.mg = mg)
    {A_Book : Addr} (a_Book : PySem.W.nsIn K mainGlobals "Book" = some (some (.ref A_Book)))
    (pg_Book : PySem.W.plainGet K A_Book Str.empty = true)
    (hd_Book : PySem.W.hasDictIn K A_Book = true)
    (po_Book : PySem.W.plainOver K A_Book = true)
    (sa_Book : PySem.W.findIn K (.ref A_Book) "__setattr__" = some (some (.builtin "object.__setattr__")))
    (rd_Book : PySem.W.readsIn K A_Book (.type "type") = true)
    (ga_Book : PySem.W.specialIn K (.ref A_Book) "__getattribute__" = some (some (.builtin "type.__getattribute__")))
    {tk_Book_CELLS : Tok} (cv_Book_CELLS : PySem.W.findCls K (.ref A_Book) (.type "type") "CELLS" = some (.val (.int 2 tk_Book_CELLS)))
    {tk_Book_STEPS : Tok} (cv_Book_STEPS : PySem.W.findCls K (.ref A_Book) (.type "type") "STEPS" = some (.val (.int 12 tk_Book_STEPS)))
    (na_Book__kinds : PySem.W.findIn K (.ref A_Book) "_kinds" = some none)
    (na_Book__sizes : PySem.W.findIn K (.ref A_Book) "_sizes" = some none)
    {A_BOTH : Addr} (z_BOTH : PySem.W.nsIn K mainGlobals "BOTH" = some (some (.ref A_BOTH)))
    {od_BOTH : Option Addr} {n_BOTH : Nat} {t0_BOTH t1_BOTH : Tok} {sl_BOTH : Array (Option Value)} (l_BOTH : K.lookup A_BOTH = some ⟨.type "tuple", od_BOTH, .seq #[.str "done" t0_BOTH, .str "error" t1_BOTH] n_BOTH, sl_BOTH⟩)
    {t_DIGITS : Tok} (z_DIGITS : PySem.W.nsIn K mainGlobals "DIGITS" = some (some (.str "0123456789" t_DIGITS)))
    {t_DONE : Tok} (z_DONE : PySem.W.nsIn K mainGlobals "DONE" = some (some (.str "done" t_DONE)))
    {A_ENDING : Addr} (z_ENDING : PySem.W.nsIn K mainGlobals "ENDING" = some (some (.ref A_ENDING)))
    {od_ENDING : Option Addr} {n_ENDING : Nat} {t0_ENDING t1_ENDING : Tok} {sl_ENDING : Array (Option Value)} (l_ENDING : K.lookup A_ENDING = some ⟨.type "tuple", od_ENDING, .seq #[.str "heal" t0_ENDING, .str "jump" t1_ENDING] n_ENDING, sl_ENDING⟩)
    {t_ERROR : Tok} (z_ERROR : PySem.W.nsIn K mainGlobals "ERROR" = some (some (.str "error" t_ERROR)))
    {t_GREATEST : Tok} (z_GREATEST : PySem.W.nsIn K mainGlobals "GREATEST" = some (some (.int 999 t_GREATEST)))
    {t_LETTERS : Tok} (z_LETTERS : PySem.W.nsIn K mainGlobals "LETTERS" = some (some (.str "abcdefghijklmnopqrstuvwxyz" t_LETTERS)))
    {t_LONGEST : Tok} (z_LONGEST : PySem.W.nsIn K mainGlobals "LONGEST" = some (some (.int 12 t_LONGEST)))
    {A_NAMED : Addr} (z_NAMED : PySem.W.nsIn K mainGlobals "NAMED" = some (some (.ref A_NAMED)))
    {od_NAMED : Option Addr} {n_NAMED : Nat} {t0_NAMED t1_NAMED : Tok} {sl_NAMED : Array (Option Value)} (l_NAMED : K.lookup A_NAMED = some ⟨.type "tuple", od_NAMED, .seq #[.str "jump" t0_NAMED, .str "swap" t1_NAMED] n_NAMED, sl_NAMED⟩)
    {A_NUMBERED : Addr} (z_NUMBERED : PySem.W.nsIn K mainGlobals "NUMBERED" = some (some (.ref A_NUMBERED)))
    {od_NUMBERED : Option Addr} {n_NUMBERED : Nat} {t0_NUMBERED t1_NUMBERED : Tok} {sl_NUMBERED : Array (Option Value)} (l_NUMBERED : K.lookup A_NUMBERED = some ⟨.type "tuple", od_NUMBERED, .seq #[.str "answer" t0_NUMBERED, .str "heal" t1_NUMBERED] n_NUMBERED, sl_NUMBERED⟩)
    (z_bool : PySem.W.nsIn K mainGlobals "bool" = some none)
    (z_dict : PySem.W.nsIn K mainGlobals "dict" = some none)
    (z_int : PySem.W.nsIn K mainGlobals "int" = some none)
    (z_isinstance : PySem.W.nsIn K mainGlobals "isinstance" = some none)
    (z_len : PySem.W.nsIn K mainGlobals "len" = some none)
    (z_list : PySem.W.nsIn K mainGlobals "list" = some none)
    (z_range : PySem.W.nsIn K mainGlobals "range" = some none)
    (z_reversed : PySem.W.nsIn K mainGlobals "reversed" = some none)
    (z_sorted : PySem.W.nsIn K mainGlobals "sorted" = some none)
    (z_str : PySem.W.nsIn K mainGlobals "str" = some none)
    (z_tuple : PySem.W.nsIn K mainGlobals "tuple" = some none)
    (ns_Book : PySem.W.noSeq K A_Book = true)
    {f_law_pool : Addr} (a_law_pool : PySem.W.nsIn K mainGlobals "_law_pool" = some (some (.ref f_law_pool)))
    {od_law_pool an_law_pool : Option Addr} {sl_law_pool : Array (Option Value)} {oc_law_pool kV_law_pool dc_law_pool pm_law_pool cd_law_pool ct_law_pool : Value} (l_law_pool : K.lookup f_law_pool = some ⟨oc_law_pool, od_law_pool, .func (PySem.W.fnOf "_law_pool" "_law_pool" (defArgs (topS 42)) (defBody (topS 42)) (defScope (topS 42)) .none kV_law_pool dc_law_pool pm_law_pool an_law_pool cd_law_pool ct_law_pool), sl_law_pool⟩)
    (c_law_pool : PySem.W.codeIn K cd_law_pool "_law_pool" = true)
    (k_law_pool : PySem.W.keepIn K (.ref f_law_pool) = true)
    {f_law_mixed : Addr} (a_law_mixed : PySem.W.nsIn K mainGlobals "_law_mixed" = some (some (.ref f_law_mixed)))
    {od_law_mixed an_law_mixed : Option Addr} {sl_law_mixed : Array (Option Value)} {oc_law_mixed kV_law_mixed dc_law_mixed pm_law_mixed cd_law_mixed ct_law_mixed : Value} (l_law_mixed : K.lookup f_law_mixed = some ⟨oc_law_mixed, od_law_mixed, .func (PySem.W.fnOf "_law_mixed" "_law_mixed" (defArgs (topS 43)) (defBody (topS 43)) (defScope (topS 43)) .none kV_law_mixed dc_law_mixed pm_law_mixed an_law_mixed cd_law_mixed ct_law_mixed), sl_law_mixed⟩)
    (c_law_mixed : PySem.W.codeIn K cd_law_mixed "_law_mixed" = true)
    (k_law_mixed : PySem.W.keepIn K (.ref f_law_mixed) = true)
    {f_law_draw : Addr} (a_law_draw : PySem.W.nsIn K mainGlobals "_law_draw" = some (some (.ref f_law_draw)))
    {od_law_draw an_law_draw : Option Addr} {sl_law_draw : Array (Option Value)} {oc_law_draw kV_law_draw dc_law_draw pm_law_draw cd_law_draw ct_law_draw : Value} (l_law_draw : K.lookup f_law_draw = some ⟨oc_law_draw, od_law_draw, .func (PySem.W.fnOf "_law_draw" "_law_draw" (defArgs (topS 44)) (defBody (topS 44)) (defScope (topS 44)) .none kV_law_draw dc_law_draw pm_law_draw an_law_draw cd_law_draw ct_law_draw), sl_law_draw⟩)
    (c_law_draw : PySem.W.codeIn K cd_law_draw "_law_draw" = true)
    (k_law_draw : PySem.W.keepIn K (.ref f_law_draw) = true)
    {f_law_letters : Addr} (a_law_letters : PySem.W.nsIn K mainGlobals "_law_letters" = some (some (.ref f_law_letters)))
    {od_law_letters an_law_letters : Option Addr} {sl_law_letters : Array (Option Value)} {oc_law_letters kV_law_letters dc_law_letters pm_law_letters cd_law_letters ct_law_letters : Value} (l_law_letters : K.lookup f_law_letters = some ⟨oc_law_letters, od_law_letters, .func (PySem.W.fnOf "_law_letters" "_law_letters" (defArgs (topS 45)) (defBody (topS 45)) (defScope (topS 45)) .none kV_law_letters dc_law_letters pm_law_letters an_law_letters cd_law_letters ct_law_letters), sl_law_letters⟩)
    (c_law_letters : PySem.W.codeIn K cd_law_letters "_law_letters" = true)
    (k_law_letters : PySem.W.keepIn K (.ref f_law_letters) = true)
    {f_law_name : Addr} (a_law_name : PySem.W.nsIn K mainGlobals "_law_name" = some (some (.ref f_law_name)))
    {od_law_name an_law_name : Option Addr} {sl_law_name : Array (Option Value)} {oc_law_name kV_law_name dc_law_name pm_law_name cd_law_name ct_law_name : Value} (l_law_name : K.lookup f_law_name = some ⟨oc_law_name, od_law_name, .func (PySem.W.fnOf "_law_name" "_law_name" (defArgs (topS 46)) (defBody (topS 46)) (defScope (topS 46)) .none kV_law_name dc_law_name pm_law_name an_law_name cd_law_name ct_law_name), sl_law_name⟩)
    (c_law_name : PySem.W.codeIn K cd_law_name "_law_name" = true)
    (k_law_name : PySem.W.keepIn K (.ref f_law_name) = true)
    {f_law_fresh : Addr} (a_law_fresh : PySem.W.nsIn K mainGlobals "_law_fresh" = some (some (.ref f_law_fresh)))
    {od_law_fresh an_law_fresh : Option Addr} {sl_law_fresh : Array (Option Value)} {oc_law_fresh kV_law_fresh dc_law_fresh pm_law_fresh cd_law_fresh ct_law_fresh : Value} (l_law_fresh : K.lookup f_law_fresh = some ⟨oc_law_fresh, od_law_fresh, .func (PySem.W.fnOf "_law_fresh" "_law_fresh" (defArgs (topS 47)) (defBody (topS 47)) (defScope (topS 47)) .none kV_law_fresh dc_law_fresh pm_law_fresh an_law_fresh cd_law_fresh ct_law_fresh), sl_law_fresh⟩)
    (c_law_fresh : PySem.W.codeIn K cd_law_fresh "_law_fresh" = true)
    (k_law_fresh : PySem.W.keepIn K (.ref f_law_fresh) = true)
    {f_law_number : Addr} (a_law_number : PySem.W.nsIn K mainGlobals "_law_number" = some (some (.ref f_law_number)))
    {od_law_number an_law_number : Option Addr} {sl_law_number : Array (Option Value)} {oc_law_number kV_law_number dc_law_number pm_law_number cd_law_number ct_law_number : Value} (l_law_number : K.lookup f_law_number = some ⟨oc_law_number, od_law_number, .func (PySem.W.fnOf "_law_number" "_law_number" (defArgs (topS 48)) (defBody (topS 48)) (defScope (topS 48)) .none kV_law_number dc_law_number pm_law_number an_law_number cd_law_number ct_law_number), sl_law_number⟩)
    (c_law_number : PySem.W.codeIn K cd_law_number "_law_number" = true)
    (k_law_number : PySem.W.keepIn K (.ref f_law_number) = true)
    {f_law_kind : Addr} (a_law_kind : PySem.W.nsIn K mainGlobals "_law_kind" = some (some (.ref f_law_kind)))
    {od_law_kind an_law_kind : Option Addr} {sl_law_kind : Array (Option Value)} {oc_law_kind kV_law_kind dc_law_kind pm_law_kind cd_law_kind ct_law_kind : Value} (l_law_kind : K.lookup f_law_kind = some ⟨oc_law_kind, od_law_kind, .func (PySem.W.fnOf "_law_kind" "_law_kind" (defArgs (topS 49)) (defBody (topS 49)) (defScope (topS 49)) .none kV_law_kind dc_law_kind pm_law_kind an_law_kind cd_law_kind ct_law_kind), sl_law_kind⟩)
    (c_law_kind : PySem.W.codeIn K cd_law_kind "_law_kind" = true)
    (k_law_kind : PySem.W.keepIn K (.ref f_law_kind) = true)
    {f_law_lore : Addr} (a_law_lore : PySem.W.nsIn K mainGlobals "_law_lore" = some (some (.ref f_law_lore)))
    {od_law_lore an_law_lore : Option Addr} {sl_law_lore : Array (Option Value)} {oc_law_lore kV_law_lore dc_law_lore pm_law_lore cd_law_lore ct_law_lore : Value} (l_law_lore : K.lookup f_law_lore = some ⟨oc_law_lore, od_law_lore, .func (PySem.W.fnOf "_law_lore" "_law_lore" (defArgs (topS 50)) (defBody (topS 50)) (defScope (topS 50)) .none kV_law_lore dc_law_lore pm_law_lore an_law_lore cd_law_lore ct_law_lore), sl_law_lore⟩)
    (c_law_lore : PySem.W.codeIn K cd_law_lore "_law_lore" = true)
    (k_law_lore : PySem.W.keepIn K (.ref f_law_lore) = true)
    {f_law_cut : Addr} (a_law_cut : PySem.W.nsIn K mainGlobals "_law_cut" = some (some (.ref f_law_cut)))
    {od_law_cut an_law_cut : Option Addr} {sl_law_cut : Array (Option Value)} {oc_law_cut kV_law_cut dc_law_cut pm_law_cut cd_law_cut ct_law_cut : Value} (l_law_cut : K.lookup f_law_cut = some ⟨oc_law_cut, od_law_cut, .func (PySem.W.fnOf "_law_cut" "_law_cut" (defArgs (topS 62)) (defBody (topS 62)) (defScope (topS 62)) .none kV_law_cut dc_law_cut pm_law_cut an_law_cut cd_law_cut ct_law_cut), sl_law_cut⟩)
    (c_law_cut : PySem.W.codeIn K cd_law_cut "_law_cut" = true)
    (k_law_cut : PySem.W.keepIn K (.ref f_law_cut) = true)
    {f_law_argument : Addr} (a_law_argument : PySem.W.nsIn K mainGlobals "_law_argument" = some (some (.ref f_law_argument)))
    {od_law_argument an_law_argument : Option Addr} {sl_law_argument : Array (Option Value)} {oc_law_argument kV_law_argument dc_law_argument pm_law_argument cd_law_argument ct_law_argument : Value} (l_law_argument : K.lookup f_law_argument = some ⟨oc_law_argument, od_law_argument, .func (PySem.W.fnOf "_law_argument" "_law_argument" (defArgs (topS 52)) (defBody (topS 52)) (defScope (topS 52)) .none kV_law_argument dc_law_argument pm_law_argument an_law_argument cd_law_argument ct_law_argument), sl_law_argument⟩)
    (c_law_argument : PySem.W.codeIn K cd_law_argument "_law_argument" = true)
    (k_law_argument : PySem.W.keepIn K (.ref f_law_argument) = true)
    {f_law_actionB : Addr} (a_law_actionB : PySem.W.nsIn K mainGlobals "_law_action" = some (some (.ref f_law_actionB)))
    {od_law_actionB an_law_actionB : Option Addr} {sl_law_actionB : Array (Option Value)} {oc_law_actionB kV_law_actionB dc_law_actionB pm_law_actionB cd_law_actionB ct_law_actionB : Value} (l_law_actionB : K.lookup f_law_actionB = some ⟨oc_law_actionB, od_law_actionB, .func (PySem.W.fnOf "_law_action" "_law_action" (defArgs (topS 53)) (defBody (topS 53)) (defScope (topS 53)) .none kV_law_actionB dc_law_actionB pm_law_actionB an_law_actionB cd_law_actionB ct_law_actionB), sl_law_actionB⟩)
    (c_law_actionB : PySem.W.codeIn K cd_law_actionB "_law_action" = true)
    (k_law_actionB : PySem.W.keepIn K (.ref f_law_actionB) = true)
    {f_law_richB : Addr} (a_law_richB : PySem.W.nsIn K mainGlobals "_law_rich" = some (some (.ref f_law_richB)))
    {od_law_richB an_law_richB : Option Addr} {sl_law_richB : Array (Option Value)} {oc_law_richB kV_law_richB dc_law_richB pm_law_richB cd_law_richB ct_law_richB : Value} (l_law_richB : K.lookup f_law_richB = some ⟨oc_law_richB, od_law_richB, .func (PySem.W.fnOf "_law_rich" "_law_rich" (defArgs (topS 61)) (defBody (topS 61)) (defScope (topS 61)) .none kV_law_richB dc_law_richB pm_law_richB an_law_richB cd_law_richB ct_law_richB), sl_law_richB⟩)
    (c_law_richB : PySem.W.codeIn K cd_law_richB "_law_rich" = true)
    (k_law_richB : PySem.W.keepIn K (.ref f_law_richB) = true)
    {f_law_word : Addr} (a_law_word : PySem.W.nsIn K mainGlobals "_law_word" = some (some (.ref f_law_word)))
    {od_law_word an_law_word : Option Addr} {sl_law_word : Array (Option Value)} {oc_law_word kV_law_word dc_law_word pm_law_word cd_law_word ct_law_word : Value} (l_law_word : K.lookup f_law_word = some ⟨oc_law_word, od_law_word, .func (PySem.W.fnOf "_law_word" "_law_word" (defArgs (topS 66)) (defBody (topS 66)) (defScope (topS 66)) .none kV_law_word dc_law_word pm_law_word an_law_word cd_law_word ct_law_word), sl_law_word⟩)
    (c_law_word : PySem.W.codeIn K cd_law_word "_law_word" = true)
    (k_law_word : PySem.W.keepIn K (.ref f_law_word) = true)
    {f_law_exit : Addr} (a_law_exit : PySem.W.nsIn K mainGlobals "_law_exit" = some (some (.ref f_law_exit)))
    {od_law_exit an_law_exit : Option Addr} {sl_law_exit : Array (Option Value)} {oc_law_exit kV_law_exit dc_law_exit pm_law_exit cd_law_exit ct_law_exit : Value} (l_law_exit : K.lookup f_law_exit = some ⟨oc_law_exit, od_law_exit, .func (PySem.W.fnOf "_law_exit" "_law_exit" (defArgs (topS 64)) (defBody (topS 64)) (defScope (topS 64)) .none kV_law_exit dc_law_exit pm_law_exit an_law_exit cd_law_exit ct_law_exit), sl_law_exit⟩)
    (c_law_exit : PySem.W.codeIn K cd_law_exit "_law_exit" = true)
    (k_law_exit : PySem.W.keepIn K (.ref f_law_exit) = true)
    {f_law_store : Addr} (a_law_store : PySem.W.nsIn K mainGlobals "_law_store" = some (some (.ref f_law_store)))
    {od_law_store an_law_store : Option Addr} {sl_law_store : Array (Option Value)} {oc_law_store kV_law_store dc_law_store pm_law_store cd_law_store ct_law_store : Value} (l_law_store : K.lookup f_law_store = some ⟨oc_law_store, od_law_store, .func (PySem.W.fnOf "_law_store" "_law_store" (defArgs (topS 65)) (defBody (topS 65)) (defScope (topS 65)) .none kV_law_store dc_law_store pm_law_store an_law_store cd_law_store ct_law_store), sl_law_store⟩)
    (c_law_store : PySem.W.codeIn K cd_law_store "_law_store" = true)
    (k_law_store : PySem.W.keepIn K (.ref f_law_store) = true)
    {f_law_put_twin : Addr} (a_law_put_twin : PySem.W.nsIn K mainGlobals "_law_put_twin" = some (some (.ref f_law_put_twin)))
    {od_law_put_twin an_law_put_twin : Option Addr} {sl_law_put_twin : Array (Option Value)} {oc_law_put_twin kV_law_put_twin dc_law_put_twin pm_law_put_twin cd_law_put_twin ct_law_put_twin : Value} (l_law_put_twin : K.lookup f_law_put_twin = some ⟨oc_law_put_twin, od_law_put_twin, .func (PySem.W.fnOf "_law_put_twin" "_law_put_twin" (defArgs (topS 54)) (defBody (topS 54)) (defScope (topS 54)) .none kV_law_put_twin dc_law_put_twin pm_law_put_twin an_law_put_twin cd_law_put_twin ct_law_put_twin), sl_law_put_twin⟩)
    (c_law_put_twin : PySem.W.codeIn K cd_law_put_twin "_law_put_twin" = true)
    (k_law_put_twin : PySem.W.keepIn K (.ref f_law_put_twin) = true)
    {f_law_state : Addr} (a_law_state : PySem.W.nsIn K mainGlobals "_law_state" = some (some (.ref f_law_state)))
    {od_law_state an_law_state : Option Addr} {sl_law_state : Array (Option Value)} {oc_law_state kV_law_state dc_law_state pm_law_state cd_law_state ct_law_state : Value} (l_law_state : K.lookup f_law_state = some ⟨oc_law_state, od_law_state, .func (PySem.W.fnOf "_law_state" "_law_state" (defArgs (topS 57)) (defBody (topS 57)) (defScope (topS 57)) .none kV_law_state dc_law_state pm_law_state an_law_state cd_law_state ct_law_state), sl_law_state⟩)
    (c_law_state : PySem.W.codeIn K cd_law_state "_law_state" = true)
    (k_law_state : PySem.W.keepIn K (.ref f_law_state) = true)
    {f_law_second : Addr} (a_law_second : PySem.W.nsIn K mainGlobals "_law_second" = some (some (.ref f_law_second)))
    {od_law_second an_law_second : Option Addr} {sl_law_second : Array (Option Value)} {oc_law_second kV_law_second dc_law_second pm_law_second cd_law_second ct_law_second : Value} (l_law_second : K.lookup f_law_second = some ⟨oc_law_second, od_law_second, .func (PySem.W.fnOf "_law_second" "_law_second" (defArgs (topS 67)) (defBody (topS 67)) (defScope (topS 67)) .none kV_law_second dc_law_second pm_law_second an_law_second cd_law_second ct_law_second), sl_law_second⟩)
    (c_law_second : PySem.W.codeIn K cd_law_second "_law_second" = true)
    (k_law_second : PySem.W.keepIn K (.ref f_law_second) = true)
    {f_Book_init : Addr} (a_Book_init : PySem.W.findIn K (.ref A_Book) "__init__" = some (some (.ref f_Book_init)))
    (fn_Book_init : PySem.W.isFn K (.ref f_Book_init) = true)
    {dV_Book_init : Addr} {od_Book_init an_Book_init : Option Addr} {sl_Book_init : Array (Option Value)} {oc_Book_init kV_Book_init dc_Book_init pm_Book_init cd_Book_init ct_Book_init : Value} (l_Book_init : K.lookup f_Book_init = some ⟨oc_Book_init, od_Book_init, .func (PySem.W.fnOf "__init__" "Book.__init__" (defArgs (mthS 21 2)) (defBody (mthS 21 2)) (defScope (mthS 21 2)) (.ref dV_Book_init) kV_Book_init dc_Book_init pm_Book_init an_Book_init cd_Book_init ct_Book_init), sl_Book_init⟩)
    (c_Book_init : PySem.W.codeIn K cd_Book_init "Book.__init__" = true)
    (k_Book_init : PySem.W.keepIn K (.ref f_Book_init) = true)
    (mk_Book : PySem.W.makesIn K A_Book = true)
    (ck_Book : PySem.W.keepIn K (.ref A_Book) = true)
    {dod_Book_init : Option Addr} {doc_Book_init : Value} {dn_Book_init : Nat} {T0 T1 : Addr} {dsl_Book_init : Array (Option Value)} (d_Book_init : K.lookup dV_Book_init = some ⟨doc_Book_init, dod_Book_init, .seq #[.ref T0, .ref T1] dn_Book_init, dsl_Book_init⟩)
    {tn_0 : Nat} {tsl_0 : Array (Option Value)} (t_0 : K.lookup T0 = some ⟨.type "tuple", none, .seq #[] tn_0, tsl_0⟩)
    {tn_1 : Nat} {tsl_1 : Array (Option Value)} (t_1 : K.lookup T1 = some ⟨.type "tuple", none, .seq #[] tn_1, tsl_1⟩)
    {f_is_name : Addr} (a_is_name : PySem.W.nsIn K mainGlobals "is_name" = some (some (.ref f_is_name)))
    {od_is_name an_is_name : Option Addr} {sl_is_name : Array (Option Value)} {oc_is_name kV_is_name dc_is_name pm_is_name cd_is_name ct_is_name : Value} (l_is_name : K.lookup f_is_name = some ⟨oc_is_name, od_is_name, .func (PySem.W.fnOf "is_name" "is_name" (defArgs (topS 14)) (defBody (topS 14)) (defScope (topS 14)) .none kV_is_name dc_is_name pm_is_name an_is_name cd_is_name ct_is_name), sl_is_name⟩)
    (c_is_name : PySem.W.codeIn K cd_is_name "is_name" = true)
    (k_is_name : PySem.W.keepIn K (.ref f_is_name) = true)
    {f_check_name : Addr} (a_check_name : PySem.W.nsIn K mainGlobals "check_name" = some (some (.ref f_check_name)))
    {od_check_name an_check_name : Option Addr} {sl_check_name : Array (Option Value)} {oc_check_name kV_check_name dc_check_name pm_check_name cd_check_name ct_check_name : Value} (l_check_name : K.lookup f_check_name = some ⟨oc_check_name, od_check_name, .func (PySem.W.fnOf "check_name" "check_name" (defArgs (topS 15)) (defBody (topS 15)) (defScope (topS 15)) .none kV_check_name dc_check_name pm_check_name an_check_name cd_check_name ct_check_name), sl_check_name⟩)
    (c_check_name : PySem.W.codeIn K cd_check_name "check_name" = true)
    (k_check_name : PySem.W.keepIn K (.ref f_check_name) = true)
    {f_check_number : Addr} (a_check_number : PySem.W.nsIn K mainGlobals "check_number" = some (some (.ref f_check_number)))
    {od_check_number an_check_number : Option Addr} {sl_check_number : Array (Option Value)} {oc_check_number kV_check_number dc_check_number pm_check_number cd_check_number ct_check_number : Value} (l_check_number : K.lookup f_check_number = some ⟨oc_check_number, od_check_number, .func (PySem.W.fnOf "check_number" "check_number" (defArgs (topS 16)) (defBody (topS 16)) (defScope (topS 16)) .none kV_check_number dc_check_number pm_check_number an_check_number cd_check_number ct_check_number), sl_check_number⟩)
    (c_check_number : PySem.W.codeIn K cd_check_number "check_number" = true)
    (k_check_number : PySem.W.keepIn K (.ref f_check_number) = true)
    {f_check_kind : Addr} (a_check_kind : PySem.W.nsIn K mainGlobals "check_kind" = some (some (.ref f_check_kind)))
    {od_check_kind an_check_kind : Option Addr} {sl_check_kind : Array (Option Value)} {oc_check_kind kV_check_kind dc_check_kind pm_check_kind cd_check_kind ct_check_kind : Value} (l_check_kind : K.lookup f_check_kind = some ⟨oc_check_kind, od_check_kind, .func (PySem.W.fnOf "check_kind" "check_kind" (defArgs (topS 20)) (defBody (topS 20)) (defScope (topS 20)) .none kV_check_kind dc_check_kind pm_check_kind an_check_kind cd_check_kind ct_check_kind), sl_check_kind⟩)
    (c_check_kind : PySem.W.codeIn K cd_check_kind "check_kind" = true)
    (k_check_kind : PySem.W.keepIn K (.ref f_check_kind) = true)
    {f_Book_setitem : Addr} (a_Book_setitem : PySem.W.findIn K (.ref A_Book) "__setitem__" = some (some (.ref f_Book_setitem)))
    (fn_Book_setitem : PySem.W.isFn K (.ref f_Book_setitem) = true)
    {od_Book_setitem an_Book_setitem : Option Addr} {sl_Book_setitem : Array (Option Value)} {oc_Book_setitem kV_Book_setitem dc_Book_setitem pm_Book_setitem cd_Book_setitem ct_Book_setitem : Value} (l_Book_setitem : K.lookup f_Book_setitem = some ⟨oc_Book_setitem, od_Book_setitem, .func (PySem.W.fnOf "__setitem__" "Book.__setitem__" (defArgs (mthS 21 5)) (defBody (mthS 21 5)) (defScope (mthS 21 5)) .none kV_Book_setitem dc_Book_setitem pm_Book_setitem an_Book_setitem cd_Book_setitem ct_Book_setitem), sl_Book_setitem⟩)
    (c_Book_setitem : PySem.W.codeIn K cd_Book_setitem "Book.__setitem__" = true)
    (k_Book_setitem : PySem.W.keepIn K (.ref f_Book_setitem) = true)
    {f_Book_add_cell : Addr} (a_Book_add_cell : PySem.W.findIn K (.ref A_Book) "add_cell" = some (some (.ref f_Book_add_cell)))
    (fn_Book_add_cell : PySem.W.isFn K (.ref f_Book_add_cell) = true)
    {od_Book_add_cell an_Book_add_cell : Option Addr} {sl_Book_add_cell : Array (Option Value)} {oc_Book_add_cell kV_Book_add_cell dc_Book_add_cell pm_Book_add_cell cd_Book_add_cell ct_Book_add_cell : Value} (l_Book_add_cell : K.lookup f_Book_add_cell = some ⟨oc_Book_add_cell, od_Book_add_cell, .func (PySem.W.fnOf "add_cell" "Book.add_cell" (defArgs (mthS 21 11)) (defBody (mthS 21 11)) (defScope (mthS 21 11)) .none kV_Book_add_cell dc_Book_add_cell pm_Book_add_cell an_Book_add_cell cd_Book_add_cell ct_Book_add_cell), sl_Book_add_cell⟩)
    (c_Book_add_cell : PySem.W.codeIn K cd_Book_add_cell "Book.add_cell" = true)
    (k_Book_add_cell : PySem.W.keepIn K (.ref f_Book_add_cell) = true)
    {f_law_bookT : Addr} (a_law_bookT : PySem.W.nsIn K mainGlobals "_law_book" = some (some (.ref f_law_bookT)))
    {od_law_bookT an_law_bookT : Option Addr} {sl_law_bookT : Array (Option Value)} {oc_law_bookT kV_law_bookT dc_law_bookT pm_law_bookT cd_law_bookT ct_law_bookT : Value} (l_law_bookT : K.lookup f_law_bookT = some ⟨oc_law_bookT, od_law_bookT, .func (PySem.W.fnOf "_law_book" "_law_book" (defArgs (topS 51)) (defBody (topS 51)) (defScope (topS 51)) .none kV_law_bookT dc_law_bookT pm_law_bookT an_law_bookT cd_law_bookT ct_law_bookT), sl_law_bookT⟩)
    (c_law_bookT : PySem.W.codeIn K cd_law_bookT "_law_book" = true)
    (k_law_bookT : PySem.W.keepIn K (.ref f_law_bookT) = true)
    {f_Book_getitem : Addr} (a_Book_getitem : PySem.W.findIn K (.ref A_Book) "__getitem__" = some (some (.ref f_Book_getitem)))
    (fn_Book_getitem : PySem.W.isFn K (.ref f_Book_getitem) = true)
    {od_Book_getitem an_Book_getitem : Option Addr} {sl_Book_getitem : Array (Option Value)} {oc_Book_getitem kV_Book_getitem dc_Book_getitem pm_Book_getitem cd_Book_getitem ct_Book_getitem : Value} (l_Book_getitem : K.lookup f_Book_getitem = some ⟨oc_Book_getitem, od_Book_getitem, .func (PySem.W.fnOf "__getitem__" "Book.__getitem__" (defArgs (mthS 21 4)) (defBody (mthS 21 4)) (defScope (mthS 21 4)) .none kV_Book_getitem dc_Book_getitem pm_Book_getitem an_Book_getitem cd_Book_getitem ct_Book_getitem), sl_Book_getitem⟩)
    (c_Book_getitem : PySem.W.codeIn K cd_Book_getitem "Book.__getitem__" = true)
    (k_Book_getitem : PySem.W.keepIn K (.ref f_Book_getitem) = true)
    {f_below : Addr} (a_below : PySem.W.nsIn K mainGlobals "below" = some (some (.ref f_below)))
    {od_below an_below : Option Addr} {sl_below : Array (Option Value)} {oc_below kV_below dc_below pm_below cd_below ct_below : Value} (l_below : K.lookup f_below = some ⟨oc_below, od_below, .func (PySem.W.fnOf "below" "below" (defArgs (topS 34)) (defBody (topS 34)) (defScope (topS 34)) .none kV_below dc_below pm_below an_below cd_below ct_below), sl_below⟩)
    (c_below : PySem.W.codeIn K cd_below "below" = true)
    (k_below : PySem.W.keepIn K (.ref f_below) = true)
    {f_keep_live : Addr} (a_keep_live : PySem.W.nsIn K mainGlobals "keep_live" = some (some (.ref f_keep_live)))
    {od_keep_live an_keep_live : Option Addr} {sl_keep_live : Array (Option Value)} {oc_keep_live kV_keep_live dc_keep_live pm_keep_live cd_keep_live ct_keep_live : Value} (l_keep_live : K.lookup f_keep_live = some ⟨oc_keep_live, od_keep_live, .func (PySem.W.fnOf "keep_live" "keep_live" (defArgs (topS 36)) (defBody (topS 36)) (defScope (topS 36)) .none kV_keep_live dc_keep_live pm_keep_live an_keep_live cd_keep_live ct_keep_live), sl_keep_live⟩)
    (c_keep_live : PySem.W.codeIn K cd_keep_live "keep_live" = true)
    (k_keep_live : PySem.W.keepIn K (.ref f_keep_live) = true)
    {f_halves : Addr} (a_halves : PySem.W.nsIn K mainGlobals "halves" = some (some (.ref f_halves)))
    {od_halves an_halves : Option Addr} {sl_halves : Array (Option Value)} {oc_halves kV_halves dc_halves pm_halves cd_halves ct_halves : Value} (l_halves : K.lookup f_halves = some ⟨oc_halves, od_halves, .func (PySem.W.fnOf "halves" "halves" (defArgs (topS 24)) (defBody (topS 24)) (defScope (topS 24)) .none kV_halves dc_halves pm_halves an_halves cd_halves ct_halves), sl_halves⟩)
    (c_halves : PySem.W.codeIn K cd_halves "halves" = true)
    (k_halves : PySem.W.keepIn K (.ref f_halves) = true)
    {f_split : Addr} (a_split : PySem.W.nsIn K mainGlobals "split" = some (some (.ref f_split)))
    {od_split an_split : Option Addr} {sl_split : Array (Option Value)} {oc_split kV_split dc_split pm_split cd_split ct_split : Value} (l_split : K.lookup f_split = some ⟨oc_split, od_split, .func (PySem.W.fnOf "split" "split" (defArgs (topS 35)) (defBody (topS 35)) (defScope (topS 35)) .none kV_split dc_split pm_split an_split cd_split ct_split), sl_split⟩)
    (c_split : PySem.W.codeIn K cd_split "split" = true)
    (k_split : PySem.W.keepIn K (.ref f_split) = true)
    {f_normal_half : Addr} (a_normal_half : PySem.W.nsIn K mainGlobals "normal_half" = some (some (.ref f_normal_half)))
    {od_normal_half an_normal_half : Option Addr} {sl_normal_half : Array (Option Value)} {oc_normal_half kV_normal_half dc_normal_half pm_normal_half cd_normal_half ct_normal_half : Value} (l_normal_half : K.lookup f_normal_half = some ⟨oc_normal_half, od_normal_half, .func (PySem.W.fnOf "normal_half" "normal_half" (defArgs (topS 37)) (defBody (topS 37)) (defScope (topS 37)) .none kV_normal_half dc_normal_half pm_normal_half an_normal_half cd_normal_half ct_normal_half), sl_normal_half⟩)
    (c_normal_half : PySem.W.codeIn K cd_normal_half "normal_half" = true)
    (k_normal_half : PySem.W.keepIn K (.ref f_normal_half) = true)
    {f_normal : Addr} (a_normal : PySem.W.nsIn K mainGlobals "normal" = some (some (.ref f_normal)))
    {od_normal an_normal : Option Addr} {sl_normal : Array (Option Value)} {oc_normal kV_normal dc_normal pm_normal cd_normal ct_normal : Value} (l_normal : K.lookup f_normal = some ⟨oc_normal, od_normal, .func (PySem.W.fnOf "normal" "normal" (defArgs (topS 38)) (defBody (topS 38)) (defScope (topS 38)) .none kV_normal dc_normal pm_normal an_normal cd_normal ct_normal), sl_normal⟩)
    (c_normal : PySem.W.codeIn K cd_normal "normal" = true)
    (k_normal : PySem.W.keepIn K (.ref f_normal) = true)
    {f_live : Addr} (a_live : PySem.W.nsIn K mainGlobals "live" = some (some (.ref f_live)))
    {od_live an_live : Option Addr} {sl_live : Array (Option Value)} {oc_live kV_live dc_live pm_live cd_live ct_live : Value} (l_live : K.lookup f_live = some ⟨oc_live, od_live, .func (PySem.W.fnOf "live" "live" (defArgs (topS 39)) (defBody (topS 39)) (defScope (topS 39)) .none kV_live dc_live pm_live an_live cd_live ct_live), sl_live⟩)
    (c_live : PySem.W.codeIn K cd_live "live" = true)
    (k_live : PySem.W.keepIn K (.ref f_live) = true)
    {p_Book_cells : Addr} (a_Book_cells : PySem.W.findIn K (.ref A_Book) "cells" = some (some (.ref p_Book_cells)))
    (pg_Book_cells : PySem.W.specialIn K (.ref p_Book_cells) "__get__" = some (some (.builtin "property.__get__")))
    (pt_Book_cells : PySem.W.takesIn K (.ref p_Book_cells) = some true)
    {f_Book_cells : Addr} {rs_Book_cells : List Value} (pr_Book_cells : PySem.W.recIn K p_Book_cells "property" = some (.ref f_Book_cells :: rs_Book_cells))
    {od_Book_cells an_Book_cells : Option Addr} {sl_Book_cells : Array (Option Value)} {oc_Book_cells kV_Book_cells dc_Book_cells pm_Book_cells cd_Book_cells ct_Book_cells : Value} (l_Book_cells : K.lookup f_Book_cells = some ⟨oc_Book_cells, od_Book_cells, .func (PySem.W.fnOf "cells" "Book.cells" (defArgs (mthS 21 12)) (defBody (mthS 21 12)) (defScope (mthS 21 12)) .none kV_Book_cells dc_Book_cells pm_Book_cells an_Book_cells cd_Book_cells ct_Book_cells), sl_Book_cells⟩)
    (c_Book_cells : PySem.W.codeIn K cd_Book_cells "Book.cells" = true)
    (k_Book_cells : PySem.W.keepIn K (.ref f_Book_cells) = true)
    {f_cell_names : Addr} (a_cell_names : PySem.W.nsIn K mainGlobals "cell_names" = some (some (.ref f_cell_names)))
    {od_cell_names an_cell_names : Option Addr} {sl_cell_names : Array (Option Value)} {oc_cell_names kV_cell_names dc_cell_names pm_cell_names cd_cell_names ct_cell_names : Value} (l_cell_names : K.lookup f_cell_names = some ⟨oc_cell_names, od_cell_names, .func (PySem.W.fnOf "cell_names" "cell_names" (defArgs (topS 22)) (defBody (topS 22)) (defScope (topS 22)) .none kV_cell_names dc_cell_names pm_cell_names an_cell_names cd_cell_names ct_cell_names), sl_cell_names⟩)
    (c_cell_names : PySem.W.codeIn K cd_cell_names "cell_names" = true)
    (k_cell_names : PySem.W.keepIn K (.ref f_cell_names) = true)
    {f_value_of : Addr} (a_value_of : PySem.W.nsIn K mainGlobals "value_of" = some (some (.ref f_value_of)))
    {od_value_of an_value_of : Option Addr} {sl_value_of : Array (Option Value)} {oc_value_of kV_value_of dc_value_of pm_value_of cd_value_of ct_value_of : Value} (l_value_of : K.lookup f_value_of = some ⟨oc_value_of, od_value_of, .func (PySem.W.fnOf "value_of" "value_of" (defArgs (topS 25)) (defBody (topS 25)) (defScope (topS 25)) .none kV_value_of dc_value_of pm_value_of an_value_of cd_value_of ct_value_of), sl_value_of⟩)
    (c_value_of : PySem.W.codeIn K cd_value_of "value_of" = true)
    (k_value_of : PySem.W.keepIn K (.ref f_value_of) = true)
    {f_told : Addr} (a_told : PySem.W.nsIn K mainGlobals "told" = some (some (.ref f_told)))
    {od_told an_told : Option Addr} {sl_told : Array (Option Value)} {oc_told kV_told dc_told pm_told cd_told ct_told : Value} (l_told : K.lookup f_told = some ⟨oc_told, od_told, .func (PySem.W.fnOf "told" "told" (defArgs (topS 26)) (defBody (topS 26)) (defScope (topS 26)) .none kV_told dc_told pm_told an_told cd_told ct_told), sl_told⟩)
    (c_told : PySem.W.codeIn K cd_told "told" = true)
    (k_told : PySem.W.keepIn K (.ref f_told) = true)
    {f_state : Addr} (a_state : PySem.W.nsIn K mainGlobals "state" = some (some (.ref f_state)))
    {od_state an_state : Option Addr} {sl_state : Array (Option Value)} {oc_state kV_state dc_state pm_state cd_state ct_state : Value} (l_state : K.lookup f_state = some ⟨oc_state, od_state, .func (PySem.W.fnOf "state" "state" (defArgs (topS 30)) (defBody (topS 30)) (defScope (topS 30)) .none kV_state dc_state pm_state an_state cd_state ct_state), sl_state⟩)
    (c_state : PySem.W.codeIn K cd_state "state" = true)
    (k_state : PySem.W.keepIn K (.ref f_state) = true)
    {f_agenda : Addr} (a_agenda : PySem.W.nsIn K mainGlobals "agenda" = some (some (.ref f_agenda)))
    {od_agenda an_agenda : Option Addr} {sl_agenda : Array (Option Value)} {oc_agenda kV_agenda dc_agenda pm_agenda cd_agenda ct_agenda : Value} (l_agenda : K.lookup f_agenda = some ⟨oc_agenda, od_agenda, .func (PySem.W.fnOf "agenda" "agenda" (defArgs (topS 40)) (defBody (topS 40)) (defScope (topS 40)) .none kV_agenda dc_agenda pm_agenda an_agenda cd_agenda ct_agenda), sl_agenda⟩)
    (c_agenda : PySem.W.codeIn K cd_agenda "agenda" = true)
    (k_agenda : PySem.W.keepIn K (.ref f_agenda) = true)
    {f_law_halved : Addr} (a_law_halved : PySem.W.nsIn K mainGlobals "_law_halved" = some (some (.ref f_law_halved)))
    {od_law_halved an_law_halved : Option Addr} {sl_law_halved : Array (Option Value)} {oc_law_halved kV_law_halved dc_law_halved pm_law_halved cd_law_halved ct_law_halved : Value} (l_law_halved : K.lookup f_law_halved = some ⟨oc_law_halved, od_law_halved, .func (PySem.W.fnOf "_law_halved" "_law_halved" (defArgs (topS 63)) (defBody (topS 63)) (defScope (topS 63)) .none kV_law_halved dc_law_halved pm_law_halved an_law_halved cd_law_halved ct_law_halved), sl_law_halved⟩)
    (c_law_halved : PySem.W.codeIn K cd_law_halved "_law_halved" = true)
    (k_law_halved : PySem.W.keepIn K (.ref f_law_halved) = true)
    {f_law_same : Addr} (a_law_same : PySem.W.nsIn K mainGlobals "_law_same" = some (some (.ref f_law_same)))
    {od_law_same an_law_same : Option Addr} {sl_law_same : Array (Option Value)} {oc_law_same kV_law_same dc_law_same pm_law_same cd_law_same ct_law_same : Value} (l_law_same : K.lookup f_law_same = some ⟨oc_law_same, od_law_same, .func (PySem.W.fnOf "_law_same" "_law_same" (defArgs (topS 60)) (defBody (topS 60)) (defScope (topS 60)) .none kV_law_same dc_law_same pm_law_same an_law_same cd_law_same ct_law_same), sl_law_same⟩)
    (c_law_same : PySem.W.codeIn K cd_law_same "_law_same" = true)
    (k_law_same : PySem.W.keepIn K (.ref f_law_same) = true)
    {f_law_top : Addr} (a_law_top : PySem.W.nsIn K mainGlobals "_law_top" = some (some (.ref f_law_top)))
    {od_law_top an_law_top : Option Addr} {sl_law_top : Array (Option Value)} {oc_law_top kV_law_top dc_law_top pm_law_top cd_law_top ct_law_top : Value} (l_law_top : K.lookup f_law_top = some ⟨oc_law_top, od_law_top, .func (PySem.W.fnOf "_law_top" "_law_top" (defArgs (topS 68)) (defBody (topS 68)) (defScope (topS 68)) .none kV_law_top dc_law_top pm_law_top an_law_top cd_law_top ct_law_top), sl_law_top⟩)
    (c_law_top : PySem.W.codeIn K cd_law_top "_law_top" = true)
    (k_law_top : PySem.W.keepIn K (.ref f_law_top) = true)
    {f_law_value : Addr} (a_law_value : PySem.W.nsIn K mainGlobals "_law_value" = some (some (.ref f_law_value)))
    {od_law_value an_law_value : Option Addr} {sl_law_value : Array (Option Value)} {oc_law_value kV_law_value dc_law_value pm_law_value cd_law_value ct_law_value : Value} (l_law_value : K.lookup f_law_value = some ⟨oc_law_value, od_law_value, .func (PySem.W.fnOf "_law_value" "_law_value" (defArgs (topS 55)) (defBody (topS 55)) (defScope (topS 55)) .none kV_law_value dc_law_value pm_law_value an_law_value cd_law_value ct_law_value), sl_law_value⟩)
    (c_law_value : PySem.W.codeIn K cd_law_value "_law_value" = true)
    (k_law_value : PySem.W.keepIn K (.ref f_law_value) = true)
    {f_law_halves : Addr} (a_law_halves : PySem.W.nsIn K mainGlobals "_law_halves" = some (some (.ref f_law_halves)))
    {od_law_halves an_law_halves : Option Addr} {sl_law_halves : Array (Option Value)} {oc_law_halves kV_law_halves dc_law_halves pm_law_halves cd_law_halves ct_law_halves : Value} (l_law_halves : K.lookup f_law_halves = some ⟨oc_law_halves, od_law_halves, .func (PySem.W.fnOf "_law_halves" "_law_halves" (defArgs (topS 56)) (defBody (topS 56)) (defScope (topS 56)) .none kV_law_halves dc_law_halves pm_law_halves an_law_halves cd_law_halves ct_law_halves), sl_law_halves⟩)
    (c_law_halves : PySem.W.codeIn K cd_law_halves "_law_halves" = true)
    (k_law_halves : PySem.W.keepIn K (.ref f_law_halves) = true)
    {f_law_split : Addr} (a_law_split : PySem.W.nsIn K mainGlobals "_law_split" = some (some (.ref f_law_split)))
    {od_law_split an_law_split : Option Addr} {sl_law_split : Array (Option Value)} {oc_law_split kV_law_split dc_law_split pm_law_split cd_law_split ct_law_split : Value} (l_law_split : K.lookup f_law_split = some ⟨oc_law_split, od_law_split, .func (PySem.W.fnOf "_law_split" "_law_split" (defArgs (topS 59)) (defBody (topS 59)) (defScope (topS 59)) .none kV_law_split dc_law_split pm_law_split an_law_split cd_law_split ct_law_split), sl_law_split⟩)
    (c_law_split : PySem.W.codeIn K cd_law_split "_law_split" = true)
    (k_law_split : PySem.W.keepIn K (.ref f_law_split) = true)
    {f_law_after : Addr} (a_law_after : PySem.W.nsIn K mainGlobals "_law_after" = some (some (.ref f_law_after)))
    {od_law_after an_law_after : Option Addr} {sl_law_after : Array (Option Value)} {oc_law_after kV_law_after dc_law_after pm_law_after cd_law_after ct_law_after : Value} (l_law_after : K.lookup f_law_after = some ⟨oc_law_after, od_law_after, .func (PySem.W.fnOf "_law_after" "_law_after" (defArgs (topS 58)) (defBody (topS 58)) (defScope (topS 58)) .none kV_law_after dc_law_after pm_law_after an_law_after cd_law_after ct_law_after), sl_law_after⟩)
    (c_law_after : PySem.W.codeIn K cd_law_after "_law_after" = true)
    (k_law_after : PySem.W.keepIn K (.ref f_law_after) = true)
    {f_law_apart : Addr} (a_law_apart : PySem.W.nsIn K mainGlobals "_law_apart" = some (some (.ref f_law_apart)))
    {od_law_apart an_law_apart : Option Addr} {sl_law_apart : Array (Option Value)} {oc_law_apart kV_law_apart dc_law_apart pm_law_apart cd_law_apart ct_law_apart : Value} (l_law_apart : K.lookup f_law_apart = some ⟨oc_law_apart, od_law_apart, .func (PySem.W.fnOf "_law_apart" "_law_apart" (defArgs (topS 69)) (defBody (topS 69)) (defScope (topS 69)) .none kV_law_apart dc_law_apart pm_law_apart an_law_apart cd_law_apart ct_law_apart), sl_law_apart⟩)
    (c_law_apart : PySem.W.codeIn K cd_law_apart "_law_apart" = true)
    (k_law_apart : PySem.W.keepIn K (.ref f_law_apart) = true)
    {f_law : Addr} (a_law : PySem.W.nsIn K mainGlobals "law" = some (some (.ref f_law)))
    {od_law an_law : Option Addr} {sl_law : Array (Option Value)} {oc_law kV_law dc_law pm_law cd_law ct_law : Value} (l_law : K.lookup f_law = some ⟨oc_law, od_law, .func (PySem.W.fnOf "law" "law" (defArgs (topS 70)) (defBody (topS 70)) (defScope (topS 70)) .none kV_law dc_law pm_law an_law cd_law ct_law), sl_law⟩)
    (c_law : PySem.W.codeIn K cd_law "law" = true)
    (k_law : PySem.W.keepIn K (.ref f_law) = true)
    (fi_Book : PySem.W.fnIn K f_Book_getitem = true)
    (ec_0 : c.cl 0 = A_Book) (ec_1000 : c.cl 1000 = T0) (ec_1001 : c.cl 1001 = T1)
    : Txt c := by
  subst eK em
  exact ⟨⟨.ref A_Book, _, PySem.W.mg_of X G a_Book, rfl, fun _ _ => by simp only [RD]; rw [ec_0]⟩,
    ⟨.type "type", .int 2, _, by rw [ec_0]; exact ⟨rd_Book, ga_Book⟩, by rw [ec_0]; exact ⟨cv_Book_CELLS, ⟨_, rfl⟩⟩, fun _ _ => by simp only [RD]⟩,
    ⟨.type "type", .int 12, _, by rw [ec_0]; exact ⟨rd_Book, ga_Book⟩, by rw [ec_0]; exact ⟨cv_Book_STEPS, ⟨_, rfl⟩⟩, fun _ _ => by simp only [RD]⟩,
    (by
    intro C h
    simp only [List.mem_cons, List.not_mem_nil, or_false] at h
    subst h
    · exact ⟨(show Cls c.K (c.cl 0) by rw [ec_0]; exact ⟨pg_Book, hd_Book, po_Book, sa_Book⟩), by rw [ec_0]; exact na_Book__kinds⟩),
    (by
    intro C h
    simp only [List.mem_cons, List.not_mem_nil, or_false] at h
    subst h
    · exact ⟨(show Cls c.K (c.cl 0) by rw [ec_0]; exact ⟨pg_Book, hd_Book, po_Book, sa_Book⟩), by rw [ec_0]; exact na_Book__sizes⟩),
    ⟨.ref A_BOTH, _, PySem.W.mg_of X G z_BOTH, rfl, fun _ _ => by simp only [RD]; exact ⟨A_BOTH, [.str "done", .str "error"], rfl, .inr ⟨_, _, n_BOTH, l_BOTH, rfl, rfl, by show 2 ≤ sizeLine; decide, (.cons ⟨_, rfl⟩ (.cons ⟨_, rfl⟩ .nil))⟩, by simp only [RDs]; exact ⟨_, _, rfl, by simp only [RD], _, _, rfl, by simp only [RD], rfl⟩⟩⟩,
    ⟨.str "0123456789", _, PySem.W.mg_of X G z_DIGITS, ⟨_, rfl⟩, fun _ _ => by simp only [RD]⟩,
    ⟨.str "done", _, PySem.W.mg_of X G z_DONE, ⟨_, rfl⟩, fun _ _ => by simp only [RD]⟩,
    ⟨.ref A_ENDING, _, PySem.W.mg_of X G z_ENDING, rfl, fun _ _ => by simp only [RD]; exact ⟨A_ENDING, [.str "heal", .str "jump"], rfl, .inr ⟨_, _, n_ENDING, l_ENDING, rfl, rfl, by show 2 ≤ sizeLine; decide, (.cons ⟨_, rfl⟩ (.cons ⟨_, rfl⟩ .nil))⟩, by simp only [RDs]; exact ⟨_, _, rfl, by simp only [RD], _, _, rfl, by simp only [RD], rfl⟩⟩⟩,
    ⟨.str "error", _, PySem.W.mg_of X G z_ERROR, ⟨_, rfl⟩, fun _ _ => by simp only [RD]⟩,
    ⟨.int 999, _, PySem.W.mg_of X G z_GREATEST, ⟨_, rfl⟩, fun _ _ => by simp only [RD]⟩,
    ⟨.str "abcdefghijklmnopqrstuvwxyz", _, PySem.W.mg_of X G z_LETTERS, ⟨_, rfl⟩, fun _ _ => by simp only [RD]⟩,
    ⟨.int 12, _, PySem.W.mg_of X G z_LONGEST, ⟨_, rfl⟩, fun _ _ => by simp only [RD]⟩,
    ⟨.ref A_NAMED, _, PySem.W.mg_of X G z_NAMED, rfl, fun _ _ => by simp only [RD]; exact ⟨A_NAMED, [.str "jump", .str "swap"], rfl, .inr ⟨_, _, n_NAMED, l_NAMED, rfl, rfl, by show 2 ≤ sizeLine; decide, (.cons ⟨_, rfl⟩ (.cons ⟨_, rfl⟩ .nil))⟩, by simp only [RDs]; exact ⟨_, _, rfl, by simp only [RD], _, _, rfl, by simp only [RD], rfl⟩⟩⟩,
    ⟨.ref A_NUMBERED, _, PySem.W.mg_of X G z_NUMBERED, rfl, fun _ _ => by simp only [RD]; exact ⟨A_NUMBERED, [.str "answer", .str "heal"], rfl, .inr ⟨_, _, n_NUMBERED, l_NUMBERED, rfl, rfl, by show 2 ≤ sizeLine; decide, (.cons ⟨_, rfl⟩ (.cons ⟨_, rfl⟩ .nil))⟩, by simp only [RDs]; exact ⟨_, _, rfl, by simp only [RD], _, _, rfl, by simp only [RD], rfl⟩⟩⟩,
    PySem.W.mg_none_of X G z_bool,
    PySem.W.mg_none_of X G z_dict,
    PySem.W.mg_none_of X G z_int,
    PySem.W.mg_none_of X G z_isinstance,
    PySem.W.mg_none_of X G z_len,
    PySem.W.mg_none_of X G z_list,
    PySem.W.mg_none_of X G z_range,
    PySem.W.mg_none_of X G z_reversed,
    PySem.W.mg_none_of X G z_sorted,
    PySem.W.mg_none_of X G z_str,
    PySem.W.mg_none_of X G z_tuple,
    by rw [ec_0]; exact ns_Book,
    ⟨_, _, PySem.W.mg_of X G a_law_pool, (fun_mk (st := (topS 42)) l_law_pool c_law_pool k_law_pool), ((fun_mk (st := (topS 42)) l_law_pool c_law_pool k_law_pool).binds (ps := ["script"]) fun _ _ _ _ _ _ us hl => match us, hl with | [_], _ => rfl)⟩,
    ⟨_, _, PySem.W.mg_of X G a_law_mixed, (fun_mk (st := (topS 43)) l_law_mixed c_law_mixed k_law_mixed), ((fun_mk (st := (topS 43)) l_law_mixed c_law_mixed k_law_mixed).binds (ps := ["cell", "turn", "limit"]) fun _ _ _ _ _ _ us hl => match us, hl with | [_, _, _], _ => rfl)⟩,
    ⟨_, _, PySem.W.mg_of X G a_law_draw, (fun_mk (st := (topS 44)) l_law_draw c_law_draw k_law_draw), ((fun_mk (st := (topS 44)) l_law_draw c_law_draw k_law_draw).binds (ps := ["pool", "limit"]) fun _ _ _ _ _ _ us hl => match us, hl with | [_, _], _ => rfl)⟩,
    ⟨_, _, PySem.W.mg_of X G a_law_letters, (fun_mk (st := (topS 45)) l_law_letters c_law_letters k_law_letters), ((fun_mk (st := (topS 45)) l_law_letters c_law_letters k_law_letters).binds (ps := []) fun _ _ _ _ _ _ us hl => match us, hl with | [], _ => rfl)⟩,
    ⟨_, _, PySem.W.mg_of X G a_law_name, (fun_mk (st := (topS 46)) l_law_name c_law_name k_law_name), ((fun_mk (st := (topS 46)) l_law_name c_law_name k_law_name).binds (ps := ["pool"]) fun _ _ _ _ _ _ us hl => match us, hl with | [_], _ => rfl)⟩,
    ⟨_, _, PySem.W.mg_of X G a_law_fresh, (fun_mk (st := (topS 47)) l_law_fresh c_law_fresh k_law_fresh), ((fun_mk (st := (topS 47)) l_law_fresh c_law_fresh k_law_fresh).binds (ps := ["pool", "used"]) fun _ _ _ _ _ _ us hl => match us, hl with | [_, _], _ => rfl)⟩,
    ⟨_, _, PySem.W.mg_of X G a_law_number, (fun_mk (st := (topS 48)) l_law_number c_law_number k_law_number), ((fun_mk (st := (topS 48)) l_law_number c_law_number k_law_number).binds (ps := ["pool"]) fun _ _ _ _ _ _ us hl => match us, hl with | [_], _ => rfl)⟩,
    ⟨_, _, PySem.W.mg_of X G a_law_kind, (fun_mk (st := (topS 49)) l_law_kind c_law_kind k_law_kind), ((fun_mk (st := (topS 49)) l_law_kind c_law_kind k_law_kind).binds (ps := ["pool"]) fun _ _ _ _ _ _ us hl => match us, hl with | [_], _ => rfl)⟩,
    ⟨_, _, PySem.W.mg_of X G a_law_lore, (fun_mk (st := (topS 50)) l_law_lore c_law_lore k_law_lore), ((fun_mk (st := (topS 50)) l_law_lore c_law_lore k_law_lore).binds (ps := ["pool", "steps", "cells"]) fun _ _ _ _ _ _ us hl => match us, hl with | [_, _, _], _ => rfl)⟩,
    ⟨_, _, PySem.W.mg_of X G a_law_cut, (fun_mk (st := (topS 62)) l_law_cut c_law_cut k_law_cut), ((fun_mk (st := (topS 62)) l_law_cut c_law_cut k_law_cut).binds (ps := ["action", "room"]) fun _ _ _ _ _ _ us hl => match us, hl with | [_, _], _ => rfl)⟩,
    ⟨_, _, PySem.W.mg_of X G a_law_argument, (fun_mk (st := (topS 52)) l_law_argument c_law_argument k_law_argument), ((fun_mk (st := (topS 52)) l_law_argument c_law_argument k_law_argument).binds (ps := ["pool", "lore", "late"]) fun _ _ _ _ _ _ us hl => match us, hl with | [_, _, _], _ => rfl)⟩,
    ⟨_, _, PySem.W.mg_of X G a_law_actionB, (fun_mk (st := (topS 53)) l_law_actionB c_law_actionB k_law_actionB), ((fun_mk (st := (topS 53)) l_law_actionB c_law_actionB k_law_actionB).binds (ps := ["pool", "lore", "depth"]) fun _ _ _ _ _ _ us hl => match us, hl with | [_, _, _], _ => rfl)⟩,
    ⟨_, _, PySem.W.mg_of X G a_law_richB, (fun_mk (st := (topS 61)) l_law_richB c_law_richB k_law_richB), ((fun_mk (st := (topS 61)) l_law_richB c_law_richB k_law_richB).binds (ps := ["pool", "lore"]) fun _ _ _ _ _ _ us hl => match us, hl with | [_, _], _ => rfl)⟩,
    ⟨_, _, PySem.W.mg_of X G a_law_word, (fun_mk (st := (topS 66)) l_law_word c_law_word k_law_word), ((fun_mk (st := (topS 66)) l_law_word c_law_word k_law_word).binds (ps := ["pool", "lore"]) fun _ _ _ _ _ _ us hl => match us, hl with | [_, _], _ => rfl)⟩,
    ⟨_, _, PySem.W.mg_of X G a_law_exit, (fun_mk (st := (topS 64)) l_law_exit c_law_exit k_law_exit), ((fun_mk (st := (topS 64)) l_law_exit c_law_exit k_law_exit).binds (ps := ["pool"]) fun _ _ _ _ _ _ us hl => match us, hl with | [_], _ => rfl)⟩,
    ⟨_, _, PySem.W.mg_of X G a_law_store, (fun_mk (st := (topS 65)) l_law_store c_law_store k_law_store), ((fun_mk (st := (topS 65)) l_law_store c_law_store k_law_store).binds (ps := ["pool", "lore"]) fun _ _ _ _ _ _ us hl => match us, hl with | [_, _], _ => rfl)⟩,
    ⟨_, _, PySem.W.mg_of X G a_law_put_twin, (fun_mk (st := (topS 54)) l_law_put_twin c_law_put_twin k_law_put_twin), ((fun_mk (st := (topS 54)) l_law_put_twin c_law_put_twin k_law_put_twin).binds (ps := ["action", "unset"]) fun _ _ _ _ _ _ us hl => match us, hl with | [_, _], _ => rfl)⟩,
    ⟨_, _, PySem.W.mg_of X G a_law_state, (fun_mk (st := (topS 57)) l_law_state c_law_state k_law_state), ((fun_mk (st := (topS 57)) l_law_state c_law_state k_law_state).binds (ps := ["pending"]) fun _ _ _ _ _ _ us hl => match us, hl with | [_], _ => rfl)⟩,
    ⟨_, _, PySem.W.mg_of X G a_law_second, (fun_mk (st := (topS 67)) l_law_second c_law_second k_law_second), ((fun_mk (st := (topS 67)) l_law_second c_law_second k_law_second).binds (ps := ["pool", "lore", "word", "pending"]) fun _ _ _ _ _ _ us hl => match us, hl with | [_, _, _, _], _ => rfl)⟩,
    mkat_dfl2 (by rw [ec_0]; exact ⟨mk_Book, a_Book_init, fn_Book_init, ck_Book⟩) (by rw [ec_0]; exact PySem.W.mg_of X G a_Book) l_Book_init c_Book_init k_Book_init d_Book_init ec_1000 ec_1001 (fun T kV doc pm an cdv ct us its h1 h2 => match us, its, h1, h2 with | [_], [_, _], _, _ => ⟨_, rfl, rfl⟩),
    ⟨_, _, PySem.W.mg_of X G a_is_name, (fun_mk (st := (topS 14)) l_is_name c_is_name k_is_name), ((fun_mk (st := (topS 14)) l_is_name c_is_name k_is_name).binds (ps := ["text"]) fun _ _ _ _ _ _ us hl => match us, hl with | [_], _ => rfl)⟩,
    ⟨_, _, PySem.W.mg_of X G a_check_name, (fun_mk (st := (topS 15)) l_check_name c_check_name k_check_name), ((fun_mk (st := (topS 15)) l_check_name c_check_name k_check_name).binds (ps := ["name"]) fun _ _ _ _ _ _ us hl => match us, hl with | [_], _ => rfl)⟩,
    ⟨_, _, PySem.W.mg_of X G a_check_number, (fun_mk (st := (topS 16)) l_check_number c_check_number k_check_number), ((fun_mk (st := (topS 16)) l_check_number c_check_number k_check_number).binds (ps := ["number"]) fun _ _ _ _ _ _ us hl => match us, hl with | [_], _ => rfl)⟩,
    ⟨_, _, PySem.W.mg_of X G a_check_kind, (fun_mk (st := (topS 20)) l_check_kind c_check_kind k_check_kind), ((fun_mk (st := (topS 20)) l_check_kind c_check_kind k_check_kind).binds (ps := ["kind"]) fun _ _ _ _ _ _ us hl => match us, hl with | [_], _ => rfl)⟩,
    ⟨f_Book_setitem, _, (show Cls c.K (c.cl 0) by rw [ec_0]; exact ⟨pg_Book, hd_Book, po_Book, sa_Book⟩), by rw [ec_0]; exact ⟨a_Book_setitem, fn_Book_setitem, k_Book_setitem⟩, (fun_mk (st := (mthS 21 5)) l_Book_setitem c_Book_setitem k_Book_setitem), ((fun_mk (st := (mthS 21 5)) l_Book_setitem c_Book_setitem k_Book_setitem).binds (ps := ["self", "name", "kind"]) fun _ _ _ _ _ _ us hl => match us, hl with | [_, _, _], _ => rfl)⟩,
    ⟨f_Book_add_cell, _, (show Cls c.K (c.cl 0) by rw [ec_0]; exact ⟨pg_Book, hd_Book, po_Book, sa_Book⟩), by rw [ec_0]; exact ⟨a_Book_add_cell, fn_Book_add_cell, k_Book_add_cell⟩, (fun_mk (st := (mthS 21 11)) l_Book_add_cell c_Book_add_cell k_Book_add_cell), ((fun_mk (st := (mthS 21 11)) l_Book_add_cell c_Book_add_cell k_Book_add_cell).binds (ps := ["self", "name", "size"]) fun _ _ _ _ _ _ us hl => match us, hl with | [_, _, _], _ => rfl)⟩,
    ⟨_, _, PySem.W.mg_of X G a_law_bookT, (fun_mk (st := (topS 51)) l_law_bookT c_law_bookT k_law_bookT), ((fun_mk (st := (topS 51)) l_law_bookT c_law_bookT k_law_bookT).binds (ps := ["lore", "turned"]) fun _ _ _ _ _ _ us hl => match us, hl with | [_, _], _ => rfl)⟩,
    ⟨f_Book_getitem, _, (show Cls c.K (c.cl 0) by rw [ec_0]; exact ⟨pg_Book, hd_Book, po_Book, sa_Book⟩), by rw [ec_0]; exact ⟨a_Book_getitem, fn_Book_getitem, k_Book_getitem⟩, (fun_mk (st := (mthS 21 4)) l_Book_getitem c_Book_getitem k_Book_getitem), ((fun_mk (st := (mthS 21 4)) l_Book_getitem c_Book_getitem k_Book_getitem).binds (ps := ["self", "name"]) fun _ _ _ _ _ _ us hl => match us, hl with | [_, _], _ => rfl)⟩,
    ⟨_, _, PySem.W.mg_of X G a_below, (fun_mk (st := (topS 34)) l_below c_below k_below), ((fun_mk (st := (topS 34)) l_below c_below k_below).binds (ps := ["half", "states", "book"]) fun _ _ _ _ _ _ us hl => match us, hl with | [_, _, _], _ => rfl)⟩,
    ⟨_, _, PySem.W.mg_of X G a_keep_live, (fun_mk (st := (topS 36)) l_keep_live c_keep_live k_keep_live), ((fun_mk (st := (topS 36)) l_keep_live c_keep_live k_keep_live).binds (ps := ["word", "states", "book"]) fun _ _ _ _ _ _ us hl => match us, hl with | [_, _, _], _ => rfl)⟩,
    ⟨_, _, PySem.W.mg_of X G a_halves, (fun_mk (st := (topS 24)) l_halves c_halves k_halves), ((fun_mk (st := (topS 24)) l_halves c_halves k_halves).binds (ps := ["action"]) fun _ _ _ _ _ _ us hl => match us, hl with | [_], _ => rfl)⟩,
    ⟨_, _, PySem.W.mg_of X G a_split, (fun_mk (st := (topS 35)) l_split c_split k_split), ((fun_mk (st := (topS 35)) l_split c_split k_split).binds (ps := ["word"]) fun _ _ _ _ _ _ us hl => match us, hl with | [_], _ => rfl)⟩,
    ⟨_, _, PySem.W.mg_of X G a_normal_half, (fun_mk (st := (topS 37)) l_normal_half c_normal_half k_normal_half), ((fun_mk (st := (topS 37)) l_normal_half c_normal_half k_normal_half).binds (ps := ["half", "book"]) fun _ _ _ _ _ _ us hl => match us, hl with | [_, _], _ => rfl)⟩,
    ⟨_, _, PySem.W.mg_of X G a_normal, (fun_mk (st := (topS 38)) l_normal c_normal k_normal), ((fun_mk (st := (topS 38)) l_normal c_normal k_normal).binds (ps := ["word", "book"]) fun _ _ _ _ _ _ us hl => match us, hl with | [_, _], _ => rfl)⟩,
    ⟨_, _, PySem.W.mg_of X G a_live, (fun_mk (st := (topS 39)) l_live c_live k_live), ((fun_mk (st := (topS 39)) l_live c_live k_live).binds (ps := ["word", "states", "book"]) fun _ _ _ _ _ _ us hl => match us, hl with | [_, _, _], _ => rfl)⟩,
    ⟨p_Book_cells, f_Book_cells, _, (show Cls c.K (c.cl 0) by rw [ec_0]; exact ⟨pg_Book, hd_Book, po_Book, sa_Book⟩), by rw [ec_0]; exact ⟨a_Book_cells, pg_Book_cells, pt_Book_cells, ⟨_, pr_Book_cells⟩⟩, (fun_mk (st := (mthS 21 12)) l_Book_cells c_Book_cells k_Book_cells), ((fun_mk (st := (mthS 21 12)) l_Book_cells c_Book_cells k_Book_cells).binds (ps := ["self"]) fun _ _ _ _ _ _ us hl => match us, hl with | [_], _ => rfl)⟩,
    ⟨_, _, PySem.W.mg_of X G a_cell_names, (fun_mk (st := (topS 22)) l_cell_names c_cell_names k_cell_names), ((fun_mk (st := (topS 22)) l_cell_names c_cell_names k_cell_names).binds (ps := ["book"]) fun _ _ _ _ _ _ us hl => match us, hl with | [_], _ => rfl)⟩,
    ⟨_, _, PySem.W.mg_of X G a_value_of, (fun_mk (st := (topS 25)) l_value_of c_value_of k_value_of), ((fun_mk (st := (topS 25)) l_value_of c_value_of k_value_of).binds (ps := ["argument", "book", "store"]) fun _ _ _ _ _ _ us hl => match us, hl with | [_, _, _], _ => rfl)⟩,
    ⟨_, _, PySem.W.mg_of X G a_told, (fun_mk (st := (topS 26)) l_told c_told k_told), ((fun_mk (st := (topS 26)) l_told c_told k_told).binds (ps := ["action", "book", "store"]) fun _ _ _ _ _ _ us hl => match us, hl with | [_, _, _], _ => rfl)⟩,
    ⟨_, _, PySem.W.mg_of X G a_state, (fun_mk (st := (topS 30)) l_state c_state k_state), ((fun_mk (st := (topS 30)) l_state c_state k_state).binds (ps := ["pending"]) fun _ _ _ _ _ _ us hl => match us, hl with | [_], _ => rfl)⟩,
    ⟨_, _, PySem.W.mg_of X G a_agenda, (fun_mk (st := (topS 40)) l_agenda c_agenda k_agenda), ((fun_mk (st := (topS 40)) l_agenda c_agenda k_agenda).binds (ps := ["word", "leaving", "book"]) fun _ _ _ _ _ _ us hl => match us, hl with | [_, _, _], _ => rfl)⟩,
    ⟨_, _, PySem.W.mg_of X G a_law_halved, (fun_mk (st := (topS 63)) l_law_halved c_law_halved k_law_halved), ((fun_mk (st := (topS 63)) l_law_halved c_law_halved k_law_halved).binds (ps := ["names", "word"]) fun _ _ _ _ _ _ us hl => match us, hl with | [_, _], _ => rfl)⟩,
    ⟨_, _, PySem.W.mg_of X G a_law_same, (fun_mk (st := (topS 60)) l_law_same c_law_same k_law_same), ((fun_mk (st := (topS 60)) l_law_same c_law_same k_law_same).binds (ps := ["actual", "expected"]) fun _ _ _ _ _ _ us hl => match us, hl with | [_, _], _ => rfl)⟩,
    ⟨_, _, PySem.W.mg_of X G a_law_top, (fun_mk (st := (topS 68)) l_law_top c_law_top k_law_top), ((fun_mk (st := (topS 68)) l_law_top c_law_top k_law_top).binds (ps := ["pile", "one"]) fun _ _ _ _ _ _ us hl => match us, hl with | [_, _], _ => rfl)⟩,
    ⟨_, _, PySem.W.mg_of X G a_law_value, (fun_mk (st := (topS 55)) l_law_value c_law_value k_law_value), ((fun_mk (st := (topS 55)) l_law_value c_law_value k_law_value).binds (ps := ["argument", "cells", "store"]) fun _ _ _ _ _ _ us hl => match us, hl with | [_, _, _], _ => rfl)⟩,
    ⟨_, _, PySem.W.mg_of X G a_law_halves, (fun_mk (st := (topS 56)) l_law_halves c_law_halves k_law_halves), ((fun_mk (st := (topS 56)) l_law_halves c_law_halves k_law_halves).binds (ps := ["action"]) fun _ _ _ _ _ _ us hl => match us, hl with | [_], _ => rfl)⟩,
    ⟨_, _, PySem.W.mg_of X G a_law_split, (fun_mk (st := (topS 59)) l_law_split c_law_split k_law_split), ((fun_mk (st := (topS 59)) l_law_split c_law_split k_law_split).binds (ps := ["word"]) fun _ _ _ _ _ _ us hl => match us, hl with | [_], _ => rfl)⟩,
    ⟨_, _, PySem.W.mg_of X G a_law_after, (fun_mk (st := (topS 58)) l_law_after c_law_after k_law_after), ((fun_mk (st := (topS 58)) l_law_after c_law_after k_law_after).binds (ps := ["pending", "step", "kind", "guard", "answer"]) fun _ _ _ _ _ _ us hl => match us, hl with | [_, _, _, _, _], _ => rfl)⟩,
    ⟨_, _, PySem.W.mg_of X G a_law_apart, (fun_mk (st := (topS 69)) l_law_apart c_law_apart k_law_apart), ((fun_mk (st := (topS 69)) l_law_apart c_law_apart k_law_apart).binds (ps := ["lore", "store", "first", "second", "pending"]) fun _ _ _ _ _ _ us hl => match us, hl with | [_, _, _, _, _], _ => rfl)⟩,
    ⟨_, _, PySem.W.mg_of X G a_law, (fun_mk (st := (topS 70)) l_law c_law k_law), ((fun_mk (st := (topS 70)) l_law c_law k_law).binds (ps := ["script"]) fun _ _ _ _ _ _ us hl => match us, hl with | [_], _ => rfl)⟩,
    fun f h => by
    rw [ec_0] at h
    have e := h.at_.symm.trans a_Book_getitem
    cases e
    exact fi_Book,
    fun i hi => by
    rcases hi with rfl | rfl
    · exact ⟨_, tn_0, by rw [ec_1000]; exact t_0, rfl, rfl, rfl⟩
    · exact ⟨_, tn_1, by rw [ec_1001]; exact t_1, rfl, rfl, rfl⟩⟩
theorem law_mk {P : Program} {w : World} {K : PySem.W.Frag} {mg : Str → Option Value} {h : Heap} {fa : Addr} (X : K.In h) (G : h.Ns mainGlobals mg) (hfa : mg "law" = some (.ref fa))
    {A_Book : Addr} (a_Book : PySem.W.nsIn K mainGlobals "Book" = some (some (.ref A_Book)))
    (pg_Book : PySem.W.plainGet K A_Book Str.empty = true)
    (hd_Book : PySem.W.hasDictIn K A_Book = true)
    (po_Book : PySem.W.plainOver K A_Book = true)
    (sa_Book : PySem.W.findIn K (.ref A_Book) "__setattr__" = some (some (.builtin "object.__setattr__")))
    (rd_Book : PySem.W.readsIn K A_Book (.type "type") = true)
    (ga_Book : PySem.W.specialIn K (.ref A_Book) "__getattribute__" = some (some (.builtin "type.__getattribute__")))
    {tk_Book_CELLS : Tok} (cv_Book_CELLS : PySem.W.findCls K (.ref A_Book) (.type "type") "CELLS" = some (.val (.int 2 tk_Book_CELLS)))
    {tk_Book_STEPS : Tok} (cv_Book_STEPS : PySem.W.findCls K (.ref A_Book) (.type "type") "STEPS" = some (.val (.int 12 tk_Book_STEPS)))
    (na_Book__kinds : PySem.W.findIn K (.ref A_Book) "_kinds" = some none)
    (na_Book__sizes : PySem.W.findIn K (.ref A_Book) "_sizes" = some none)
    {A_BOTH : Addr} (z_BOTH : PySem.W.nsIn K mainGlobals "BOTH" = some (some (.ref A_BOTH)))
    {od_BOTH : Option Addr} {n_BOTH : Nat} {t0_BOTH t1_BOTH : Tok} {sl_BOTH : Array (Option Value)} (l_BOTH : K.lookup A_BOTH = some ⟨.type "tuple", od_BOTH, .seq #[.str "done" t0_BOTH, .str "error" t1_BOTH] n_BOTH, sl_BOTH⟩)
    {t_DIGITS : Tok} (z_DIGITS : PySem.W.nsIn K mainGlobals "DIGITS" = some (some (.str "0123456789" t_DIGITS)))
    {t_DONE : Tok} (z_DONE : PySem.W.nsIn K mainGlobals "DONE" = some (some (.str "done" t_DONE)))
    {A_ENDING : Addr} (z_ENDING : PySem.W.nsIn K mainGlobals "ENDING" = some (some (.ref A_ENDING)))
    {od_ENDING : Option Addr} {n_ENDING : Nat} {t0_ENDING t1_ENDING : Tok} {sl_ENDING : Array (Option Value)} (l_ENDING : K.lookup A_ENDING = some ⟨.type "tuple", od_ENDING, .seq #[.str "heal" t0_ENDING, .str "jump" t1_ENDING] n_ENDING, sl_ENDING⟩)
    {t_ERROR : Tok} (z_ERROR : PySem.W.nsIn K mainGlobals "ERROR" = some (some (.str "error" t_ERROR)))
    {t_GREATEST : Tok} (z_GREATEST : PySem.W.nsIn K mainGlobals "GREATEST" = some (some (.int 999 t_GREATEST)))
    {t_LETTERS : Tok} (z_LETTERS : PySem.W.nsIn K mainGlobals "LETTERS" = some (some (.str "abcdefghijklmnopqrstuvwxyz" t_LETTERS)))
    {t_LONGEST : Tok} (z_LONGEST : PySem.W.nsIn K mainGlobals "LONGEST" = some (some (.int 12 t_LONGEST)))
    {A_NAMED : Addr} (z_NAMED : PySem.W.nsIn K mainGlobals "NAMED" = some (some (.ref A_NAMED)))
    {od_NAMED : Option Addr} {n_NAMED : Nat} {t0_NAMED t1_NAMED : Tok} {sl_NAMED : Array (Option Value)} (l_NAMED : K.lookup A_NAMED = some ⟨.type "tuple", od_NAMED, .seq #[.str "jump" t0_NAMED, .str "swap" t1_NAMED] n_NAMED, sl_NAMED⟩)
    {A_NUMBERED : Addr} (z_NUMBERED : PySem.W.nsIn K mainGlobals "NUMBERED" = some (some (.ref A_NUMBERED)))
    {od_NUMBERED : Option Addr} {n_NUMBERED : Nat} {t0_NUMBERED t1_NUMBERED : Tok} {sl_NUMBERED : Array (Option Value)} (l_NUMBERED : K.lookup A_NUMBERED = some ⟨.type "tuple", od_NUMBERED, .seq #[.str "answer" t0_NUMBERED, .str "heal" t1_NUMBERED] n_NUMBERED, sl_NUMBERED⟩)
    (z_bool : PySem.W.nsIn K mainGlobals "bool" = some none)
    (z_dict : PySem.W.nsIn K mainGlobals "dict" = some none)
    (z_int : PySem.W.nsIn K mainGlobals "int" = some none)
    (z_isinstance : PySem.W.nsIn K mainGlobals "isinstance" = some none)
    (z_len : PySem.W.nsIn K mainGlobals "len" = some none)
    (z_list : PySem.W.nsIn K mainGlobals "list" = some none)
    (z_range : PySem.W.nsIn K mainGlobals "range" = some none)
    (z_reversed : PySem.W.nsIn K mainGlobals "reversed" = some none)
    (z_sorted : PySem.W.nsIn K mainGlobals "sorted" = some none)
    (z_str : PySem.W.nsIn K mainGlobals "str" = some none)
    (z_tuple : PySem.W.nsIn K mainGlobals "tuple" = some none)
    (ns_Book : PySem.W.noSeq K A_Book = true)
    {f_law_pool : Addr} (a_law_pool : PySem.W.nsIn K mainGlobals "_law_pool" = some (some (.ref f_law_pool)))
    {od_law_pool an_law_pool : Option Addr} {sl_law_pool : Array (Option Value)} {oc_law_pool kV_law_pool dc_law_pool pm_law_pool cd_law_pool ct_law_pool : Value} (l_law_pool : K.lookup f_law_pool = some ⟨oc_law_pool, od_law_pool, .func (PySem.W.fnOf "_law_pool" "_law_pool" (defArgs (topS 42)) (defBody (topS 42)) (defScope (topS 42)) .none kV_law_pool dc_law_pool pm_law_pool an_law_pool cd_law_pool ct_law_pool), sl_law_pool⟩)
    (c_law_pool : PySem.W.codeIn K cd_law_pool "_law_pool" = true)
    (k_law_pool : PySem.W.keepIn K (.ref f_law_pool) = true)
    {f_law_mixed : Addr} (a_law_mixed : PySem.W.nsIn K mainGlobals "_law_mixed" = some (some (.ref f_law_mixed)))
    {od_law_mixed an_law_mixed : Option Addr} {sl_law_mixed : Array (Option Value)} {oc_law_mixed kV_law_mixed dc_law_mixed pm_law_mixed cd_law_mixed ct_law_mixed : Value} (l_law_mixed : K.lookup f_law_mixed = some ⟨oc_law_mixed, od_law_mixed, .func (PySem.W.fnOf "_law_mixed" "_law_mixed" (defArgs (topS 43)) (defBody (topS 43)) (defScope (topS 43)) .none kV_law_mixed dc_law_mixed pm_law_mixed an_law_mixed cd_law_mixed ct_law_mixed), sl_law_mixed⟩)
    (c_law_mixed : PySem.W.codeIn K cd_law_mixed "_law_mixed" = true)
    (k_law_mixed : PySem.W.keepIn K (.ref f_law_mixed) = true)
    {f_law_draw : Addr} (a_law_draw : PySem.W.nsIn K mainGlobals "_law_draw" = some (some (.ref f_law_draw)))
    {od_law_draw an_law_draw : Option Addr} {sl_law_draw : Array (Option Value)} {oc_law_draw kV_law_draw dc_law_draw pm_law_draw cd_law_draw ct_law_draw : Value} (l_law_draw : K.lookup f_law_draw = some ⟨oc_law_draw, od_law_draw, .func (PySem.W.fnOf "_law_draw" "_law_draw" (defArgs (topS 44)) (defBody (topS 44)) (defScope (topS 44)) .none kV_law_draw dc_law_draw pm_law_draw an_law_draw cd_law_draw ct_law_draw), sl_law_draw⟩)
    (c_law_draw : PySem.W.codeIn K cd_law_draw "_law_draw" = true)
    (k_law_draw : PySem.W.keepIn K (.ref f_law_draw) = true)
    {f_law_letters : Addr} (a_law_letters : PySem.W.nsIn K mainGlobals "_law_letters" = some (some (.ref f_law_letters)))
    {od_law_letters an_law_letters : Option Addr} {sl_law_letters : Array (Option Value)} {oc_law_letters kV_law_letters dc_law_letters pm_law_letters cd_law_letters ct_law_letters : Value} (l_law_letters : K.lookup f_law_letters = some ⟨oc_law_letters, od_law_letters, .func (PySem.W.fnOf "_law_letters" "_law_letters" (defArgs (topS 45)) (defBody (topS 45)) (defScope (topS 45)) .none kV_law_letters dc_law_letters pm_law_letters an_law_letters cd_law_letters ct_law_letters), sl_law_letters⟩)
    (c_law_letters : PySem.W.codeIn K cd_law_letters "_law_letters" = true)
    (k_law_letters : PySem.W.keepIn K (.ref f_law_letters) = true)
    {f_law_name : Addr} (a_law_name : PySem.W.nsIn K mainGlobals "_law_name" = some (some (.ref f_law_name)))
    {od_law_name an_law_name : Option Addr} {sl_law_name : Array (Option Value)} {oc_law_name kV_law_name dc_law_name pm_law_name cd_law_name ct_law_name : Value} (l_law_name : K.lookup f_law_name = some ⟨oc_law_name, od_law_name, .func (PySem.W.fnOf "_law_name" "_law_name" (defArgs (topS 46)) (defBody (topS 46)) (defScope (topS 46)) .none kV_law_name dc_law_name pm_law_name an_law_name cd_law_name ct_law_name), sl_law_name⟩)
    (c_law_name : PySem.W.codeIn K cd_law_name "_law_name" = true)
    (k_law_name : PySem.W.keepIn K (.ref f_law_name) = true)
    {f_law_fresh : Addr} (a_law_fresh : PySem.W.nsIn K mainGlobals "_law_fresh" = some (some (.ref f_law_fresh)))
    {od_law_fresh an_law_fresh : Option Addr} {sl_law_fresh : Array (Option Value)} {oc_law_fresh kV_law_fresh dc_law_fresh pm_law_fresh cd_law_fresh ct_law_fresh : Value} (l_law_fresh : K.lookup f_law_fresh = some ⟨oc_law_fresh, od_law_fresh, .func (PySem.W.fnOf "_law_fresh" "_law_fresh" (defArgs (topS 47)) (defBody (topS 47)) (defScope (topS 47)) .none kV_law_fresh dc_law_fresh pm_law_fresh an_law_fresh cd_law_fresh ct_law_fresh), sl_law_fresh⟩)
    (c_law_fresh : PySem.W.codeIn K cd_law_fresh "_law_fresh" = true)
    (k_law_fresh : PySem.W.keepIn K (.ref f_law_fresh) = true)
    {f_law_number : Addr} (a_law_number : PySem.W.nsIn K mainGlobals "_law_number" = some (some (.ref f_law_number)))
    {od_law_number an_law_number : Option Addr} {sl_law_number : Array (Option Value)} {oc_law_number kV_law_number dc_law_number pm_law_number cd_law_number ct_law_number : Value} (l_law_number : K.lookup f_law_number = some ⟨oc_law_number, od_law_number, .func (PySem.W.fnOf "_law_number" "_law_number" (defArgs (topS 48)) (defBody (topS 48)) (defScope (topS 48)) .none kV_law_number dc_law_number pm_law_number an_law_number cd_law_number ct_law_number), sl_law_number⟩)
    (c_law_number : PySem.W.codeIn K cd_law_number "_law_number" = true)
    (k_law_number : PySem.W.keepIn K (.ref f_law_number) = true)
    {f_law_kind : Addr} (a_law_kind : PySem.W.nsIn K mainGlobals "_law_kind" = some (some (.ref f_law_kind)))
    {od_law_kind an_law_kind : Option Addr} {sl_law_kind : Array (Option Value)} {oc_law_kind kV_law_kind dc_law_kind pm_law_kind cd_law_kind ct_law_kind : Value} (l_law_kind : K.lookup f_law_kind = some ⟨oc_law_kind, od_law_kind, .func (PySem.W.fnOf "_law_kind" "_law_kind" (defArgs (topS 49)) (defBody (topS 49)) (defScope (topS 49)) .none kV_law_kind dc_law_kind pm_law_kind an_law_kind cd_law_kind ct_law_kind), sl_law_kind⟩)
    (c_law_kind : PySem.W.codeIn K cd_law_kind "_law_kind" = true)
    (k_law_kind : PySem.W.keepIn K (.ref f_law_kind) = true)
    {f_law_lore : Addr} (a_law_lore : PySem.W.nsIn K mainGlobals "_law_lore" = some (some (.ref f_law_lore)))
    {od_law_lore an_law_lore : Option Addr} {sl_law_lore : Array (Option Value)} {oc_law_lore kV_law_lore dc_law_lore pm_law_lore cd_law_lore ct_law_lore : Value} (l_law_lore : K.lookup f_law_lore = some ⟨oc_law_lore, od_law_lore, .func (PySem.W.fnOf "_law_lore" "_law_lore" (defArgs (topS 50)) (defBody (topS 50)) (defScope (topS 50)) .none kV_law_lore dc_law_lore pm_law_lore an_law_lore cd_law_lore ct_law_lore), sl_law_lore⟩)
    (c_law_lore : PySem.W.codeIn K cd_law_lore "_law_lore" = true)
    (k_law_lore : PySem.W.keepIn K (.ref f_law_lore) = true)
    {f_law_cut : Addr} (a_law_cut : PySem.W.nsIn K mainGlobals "_law_cut" = some (some (.ref f_law_cut)))
    {od_law_cut an_law_cut : Option Addr} {sl_law_cut : Array (Option Value)} {oc_law_cut kV_law_cut dc_law_cut pm_law_cut cd_law_cut ct_law_cut : Value} (l_law_cut : K.lookup f_law_cut = some ⟨oc_law_cut, od_law_cut, .func (PySem.W.fnOf "_law_cut" "_law_cut" (defArgs (topS 62)) (defBody (topS 62)) (defScope (topS 62)) .none kV_law_cut dc_law_cut pm_law_cut an_law_cut cd_law_cut ct_law_cut), sl_law_cut⟩)
    (c_law_cut : PySem.W.codeIn K cd_law_cut "_law_cut" = true)
    (k_law_cut : PySem.W.keepIn K (.ref f_law_cut) = true)
    {f_law_argument : Addr} (a_law_argument : PySem.W.nsIn K mainGlobals "_law_argument" = some (some (.ref f_law_argument)))
    {od_law_argument an_law_argument : Option Addr} {sl_law_argument : Array (Option Value)} {oc_law_argument kV_law_argument dc_law_argument pm_law_argument cd_law_argument ct_law_argument : Value} (l_law_argument : K.lookup f_law_argument = some ⟨oc_law_argument, od_law_argument, .func (PySem.W.fnOf "_law_argument" "_law_argument" (defArgs (topS 52)) (defBody (topS 52)) (defScope (topS 52)) .none kV_law_argument dc_law_argument pm_law_argument an_law_argument cd_law_argument ct_law_argument), sl_law_argument⟩)
    (c_law_argument : PySem.W.codeIn K cd_law_argument "_law_argument" = true)
    (k_law_argument : PySem.W.keepIn K (.ref f_law_argument) = true)
    {f_law_actionB : Addr} (a_law_actionB : PySem.W.nsIn K mainGlobals "_law_action" = some (some (.ref f_law_actionB)))
    {od_law_actionB an_law_actionB : Option Addr} {sl_law_actionB : Array (Option Value)} {oc_law_actionB kV_law_actionB dc_law_actionB pm_law_actionB cd_law_actionB ct_law_actionB : Value} (l_law_actionB : K.lookup f_law_actionB = some ⟨oc_law_actionB, od_law_actionB, .func (PySem.W.fnOf "_law_action" "_law_action" (defArgs (topS 53)) (defBody (topS 53)) (defScope (topS 53)) .none kV_law_actionB dc_law_actionB pm_law_actionB an_law_actionB cd_law_actionB ct_law_actionB), sl_law_actionB⟩)
    (c_law_actionB : PySem.W.codeIn K cd_law_actionB "_law_action" = true)
    (k_law_actionB : PySem.W.keepIn K (.ref f_law_actionB) = true)
    {f_law_richB : Addr} (a_law_richB : PySem.W.nsIn K mainGlobals "_law_rich" = some (some (.ref f_law_richB)))
    {od_law_richB an_law_richB : Option Addr} {sl_law_richB : Array (Option Value)} {oc_law_richB kV_law_richB dc_law_richB pm_law_richB cd_law_richB ct_law_richB : Value} (l_law_richB : K.lookup f_law_richB = some ⟨oc_law_richB, od_law_richB, .func (PySem.W.fnOf "_law_rich" "_law_rich" (defArgs (topS 61)) (defBody (topS 61)) (defScope (topS 61)) .none kV_law_richB dc_law_richB pm_law_richB an_law_richB cd_law_richB ct_law_richB), sl_law_richB⟩)
    (c_law_richB : PySem.W.codeIn K cd_law_richB "_law_rich" = true)
    (k_law_richB : PySem.W.keepIn K (.ref f_law_richB) = true)
    {f_law_word : Addr} (a_law_word : PySem.W.nsIn K mainGlobals "_law_word" = some (some (.ref f_law_word)))
    {od_law_word an_law_word : Option Addr} {sl_law_word : Array (Option Value)} {oc_law_word kV_law_word dc_law_word pm_law_word cd_law_word ct_law_word : Value} (l_law_word : K.lookup f_law_word = some ⟨oc_law_word, od_law_word, .func (PySem.W.fnOf "_law_word" "_law_word" (defArgs (topS 66)) (defBody (topS 66)) (defScope (topS 66)) .none kV_law_word dc_law_word pm_law_word an_law_word cd_law_word ct_law_word), sl_law_word⟩)
    (c_law_word : PySem.W.codeIn K cd_law_word "_law_word" = true)
    (k_law_word : PySem.W.keepIn K (.ref f_law_word) = true)
    {f_law_exit : Addr} (a_law_exit : PySem.W.nsIn K mainGlobals "_law_exit" = some (some (.ref f_law_exit)))
    {od_law_exit an_law_exit : Option Addr} {sl_law_exit : Array (Option Value)} {oc_law_exit kV_law_exit dc_law_exit pm_law_exit cd_law_exit ct_law_exit : Value} (l_law_exit : K.lookup f_law_exit = some ⟨oc_law_exit, od_law_exit, .func (PySem.W.fnOf "_law_exit" "_law_exit" (defArgs (topS 64)) (defBody (topS 64)) (defScope (topS 64)) .none kV_law_exit dc_law_exit pm_law_exit an_law_exit cd_law_exit ct_law_exit), sl_law_exit⟩)
    (c_law_exit : PySem.W.codeIn K cd_law_exit "_law_exit" = true)
    (k_law_exit : PySem.W.keepIn K (.ref f_law_exit) = true)
    {f_law_store : Addr} (a_law_store : PySem.W.nsIn K mainGlobals "_law_store" = some (some (.ref f_law_store)))
    {od_law_store an_law_store : Option Addr} {sl_law_store : Array (Option Value)} {oc_law_store kV_law_store dc_law_store pm_law_store cd_law_store ct_law_store : Value} (l_law_store : K.lookup f_law_store = some ⟨oc_law_store, od_law_store, .func (PySem.W.fnOf "_law_store" "_law_store" (defArgs (topS 65)) (defBody (topS 65)) (defScope (topS 65)) .none kV_law_store dc_law_store pm_law_store an_law_store cd_law_store ct_law_store), sl_law_store⟩)
    (c_law_store : PySem.W.codeIn K cd_law_store "_law_store" = true)
    (k_law_store : PySem.W.keepIn K (.ref f_law_store) = true)
    {f_law_put_twin : Addr} (a_law_put_twin : PySem.W.nsIn K mainGlobals "_law_put_twin" = some (some (.ref f_law_put_twin)))
    {od_law_put_twin an_law_put_twin : Option Addr} {sl_law_put_twin : Array (Option Value)} {oc_law_put_twin kV_law_put_twin dc_law_put_twin pm_law_put_twin cd_law_put_twin ct_law_put_twin : Value} (l_law_put_twin : K.lookup f_law_put_twin = some ⟨oc_law_put_twin, od_law_put_twin, .func (PySem.W.fnOf "_law_put_twin" "_law_put_twin" (defArgs (topS 54)) (defBody (topS 54)) (defScope (topS 54)) .none kV_law_put_twin dc_law_put_twin pm_law_put_twin an_law_put_twin cd_law_put_twin ct_law_put_twin), sl_law_put_twin⟩)
    (c_law_put_twin : PySem.W.codeIn K cd_law_put_twin "_law_put_twin" = true)
    (k_law_put_twin : PySem.W.keepIn K (.ref f_law_put_twin) = true)
    {f_law_state : Addr} (a_law_state : PySem.W.nsIn K mainGlobals "_law_state" = some (some (.ref f_law_state)))
    {od_law_state an_law_state : Option Addr} {sl_law_state : Array (Option Value)} {oc_law_state kV_law_state dc_law_state pm_law_state cd_law_state ct_law_state : Value} (l_law_state : K.lookup f_law_state = some ⟨oc_law_state, od_law_state, .func (PySem.W.fnOf "_law_state" "_law_state" (defArgs (topS 57)) (defBody (topS 57)) (defScope (topS 57)) .none kV_law_state dc_law_state pm_law_state an_law_state cd_law_state ct_law_state), sl_law_state⟩)
    (c_law_state : PySem.W.codeIn K cd_law_state "_law_state" = true)
    (k_law_state : PySem.W.keepIn K (.ref f_law_state) = true)
    {f_law_second : Addr} (a_law_second : PySem.W.nsIn K mainGlobals "_law_second" = some (some (.ref f_law_second)))
    {od_law_second an_law_second : Option Addr} {sl_law_second : Array (Option Value)} {oc_law_second kV_law_second dc_law_second pm_law_second cd_law_second ct_law_second : Value} (l_law_second : K.lookup f_law_second = some ⟨oc_law_second, od_law_second, .func (PySem.W.fnOf "_law_second" "_law_second" (defArgs (topS 67)) (defBody (topS 67)) (defScope (topS 67)) .none kV_law_second dc_law_second pm_law_second an_law_second cd_law_second ct_law_second), sl_law_second⟩)
    (c_law_second : PySem.W.codeIn K cd_law_second "_law_second" = true)
    (k_law_second : PySem.W.keepIn K (.ref f_law_second) = true)
    {f_Book_init : Addr} (a_Book_init : PySem.W.findIn K (.ref A_Book) "__init__" = some (some (.ref f_Book_init)))
    (fn_Book_init : PySem.W.isFn K (.ref f_Book_init) = true)
    {dV_Book_init : Addr} {od_Book_init an_Book_init : Option Addr} {sl_Book_init : Array (Option Value)} {oc_Book_init kV_Book_init dc_Book_init pm_Book_init cd_Book_init ct_Book_init : Value} (l_Book_init : K.lookup f_Book_init = some ⟨oc_Book_init, od_Book_init, .func (PySem.W.fnOf "__init__" "Book.__init__" (defArgs (mthS 21 2)) (defBody (mthS 21 2)) (defScope (mthS 21 2)) (.ref dV_Book_init) kV_Book_init dc_Book_init pm_Book_init an_Book_init cd_Book_init ct_Book_init), sl_Book_init⟩)
    (c_Book_init : PySem.W.codeIn K cd_Book_init "Book.__init__" = true)
    (k_Book_init : PySem.W.keepIn K (.ref f_Book_init) = true)
    (mk_Book : PySem.W.makesIn K A_Book = true)
    (ck_Book : PySem.W.keepIn K (.ref A_Book) = true)
    {dod_Book_init : Option Addr} {doc_Book_init : Value} {dn_Book_init : Nat} {T0 T1 : Addr} {dsl_Book_init : Array (Option Value)} (d_Book_init : K.lookup dV_Book_init = some ⟨doc_Book_init, dod_Book_init, .seq #[.ref T0, .ref T1] dn_Book_init, dsl_Book_init⟩)
    {tn_0 : Nat} {tsl_0 : Array (Option Value)} (t_0 : K.lookup T0 = some ⟨.type "tuple", none, .seq #[] tn_0, tsl_0⟩)
    {tn_1 : Nat} {tsl_1 : Array (Option Value)} (t_1 : K.lookup T1 = some ⟨.type "tuple", none, .seq #[] tn_1, tsl_1⟩)
    {f_is_name : Addr} (a_is_name : PySem.W.nsIn K mainGlobals "is_name" = some (some (.ref f_is_name)))
    {od_is_name an_is_name : Option Addr} {sl_is_name : Array (Option Value)} {oc_is_name kV_is_name dc_is_name pm_is_name cd_is_name ct_is_name : Value} (l_is_name : K.lookup f_is_name = some ⟨oc_is_name, od_is_name, .func (PySem.W.fnOf "is_name" "is_name" (defArgs (topS 14)) (defBody (topS 14)) (defScope (topS 14)) .none kV_is_name dc_is_name pm_is_name an_is_name cd_is_name ct_is_name), sl_is_name⟩)
    (c_is_name : PySem.W.codeIn K cd_is_name "is_name" = true)
    (k_is_name : PySem.W.keepIn K (.ref f_is_name) = true)
    {f_check_name : Addr} (a_check_name : PySem.W.nsIn K mainGlobals "check_name" = some (some (.ref f_check_name)))
    {od_check_name an_check_name : Option Addr} {sl_check_name : Array (Option Value)} {oc_check_name kV_check_name dc_check_name pm_check_name cd_check_name ct_check_name : Value} (l_check_name : K.lookup f_check_name = some ⟨oc_check_name, od_check_name, .func (PySem.W.fnOf "check_name" "check_name" (defArgs (topS 15)) (defBody (topS 15)) (defScope (topS 15)) .none kV_check_name dc_check_name pm_check_name an_check_name cd_check_name ct_check_name), sl_check_name⟩)
    (c_check_name : PySem.W.codeIn K cd_check_name "check_name" = true)
    (k_check_name : PySem.W.keepIn K (.ref f_check_name) = true)
    {f_check_number : Addr} (a_check_number : PySem.W.nsIn K mainGlobals "check_number" = some (some (.ref f_check_number)))
    {od_check_number an_check_number : Option Addr} {sl_check_number : Array (Option Value)} {oc_check_number kV_check_number dc_check_number pm_check_number cd_check_number ct_check_number : Value} (l_check_number : K.lookup f_check_number = some ⟨oc_check_number, od_check_number, .func (PySem.W.fnOf "check_number" "check_number" (defArgs (topS 16)) (defBody (topS 16)) (defScope (topS 16)) .none kV_check_number dc_check_number pm_check_number an_check_number cd_check_number ct_check_number), sl_check_number⟩)
    (c_check_number : PySem.W.codeIn K cd_check_number "check_number" = true)
    (k_check_number : PySem.W.keepIn K (.ref f_check_number) = true)
    {f_check_kind : Addr} (a_check_kind : PySem.W.nsIn K mainGlobals "check_kind" = some (some (.ref f_check_kind)))
    {od_check_kind an_check_kind : Option Addr} {sl_check_kind : Array (Option Value)} {oc_check_kind kV_check_kind dc_check_kind pm_check_kind cd_check_kind ct_check_kind : Value} (l_check_kind : K.lookup f_check_kind = some ⟨oc_check_kind, od_check_kind, .func (PySem.W.fnOf "check_kind" "check_kind" (defArgs (topS 20)) (defBody (topS 20)) (defScope (topS 20)) .none kV_check_kind dc_check_kind pm_check_kind an_check_kind cd_check_kind ct_check_kind), sl_check_kind⟩)
    (c_check_kind : PySem.W.codeIn K cd_check_kind "check_kind" = true)
    (k_check_kind : PySem.W.keepIn K (.ref f_check_kind) = true)
    {f_Book_setitem : Addr} (a_Book_setitem : PySem.W.findIn K (.ref A_Book) "__setitem__" = some (some (.ref f_Book_setitem)))
    (fn_Book_setitem : PySem.W.isFn K (.ref f_Book_setitem) = true)
    {od_Book_setitem an_Book_setitem : Option Addr} {sl_Book_setitem : Array (Option Value)} {oc_Book_setitem kV_Book_setitem dc_Book_setitem pm_Book_setitem cd_Book_setitem ct_Book_setitem : Value} (l_Book_setitem : K.lookup f_Book_setitem = some ⟨oc_Book_setitem, od_Book_setitem, .func (PySem.W.fnOf "__setitem__" "Book.__setitem__" (defArgs (mthS 21 5)) (defBody (mthS 21 5)) (defScope (mthS 21 5)) .none kV_Book_setitem dc_Book_setitem pm_Book_setitem an_Book_setitem cd_Book_setitem ct_Book_setitem), sl_Book_setitem⟩)
    (c_Book_setitem : PySem.W.codeIn K cd_Book_setitem "Book.__setitem__" = true)
    (k_Book_setitem : PySem.W.keepIn K (.ref f_Book_setitem) = true)
    {f_Book_add_cell : Addr} (a_Book_add_cell : PySem.W.findIn K (.ref A_Book) "add_cell" = some (some (.ref f_Book_add_cell)))
    (fn_Book_add_cell : PySem.W.isFn K (.ref f_Book_add_cell) = true)
    {od_Book_add_cell an_Book_add_cell : Option Addr} {sl_Book_add_cell : Array (Option Value)} {oc_Book_add_cell kV_Book_add_cell dc_Book_add_cell pm_Book_add_cell cd_Book_add_cell ct_Book_add_cell : Value} (l_Book_add_cell : K.lookup f_Book_add_cell = some ⟨oc_Book_add_cell, od_Book_add_cell, .func (PySem.W.fnOf "add_cell" "Book.add_cell" (defArgs (mthS 21 11)) (defBody (mthS 21 11)) (defScope (mthS 21 11)) .none kV_Book_add_cell dc_Book_add_cell pm_Book_add_cell an_Book_add_cell cd_Book_add_cell ct_Book_add_cell), sl_Book_add_cell⟩)
    (c_Book_add_cell : PySem.W.codeIn K cd_Book_add_cell "Book.add_cell" = true)
    (k_Book_add_cell : PySem.W.keepIn K (.ref f_Book_add_cell) = true)
    {f_law_bookT : Addr} (a_law_bookT : PySem.W.nsIn K mainGlobals "_law_book" = some (some (.ref f_law_bookT)))
    {od_law_bookT an_law_bookT : Option Addr} {sl_law_bookT : Array (Option Value)} {oc_law_bookT kV_law_bookT dc_law_bookT pm_law_bookT cd_law_bookT ct_law_bookT : Value} (l_law_bookT : K.lookup f_law_bookT = some ⟨oc_law_bookT, od_law_bookT, .func (PySem.W.fnOf "_law_book" "_law_book" (defArgs (topS 51)) (defBody (topS 51)) (defScope (topS 51)) .none kV_law_bookT dc_law_bookT pm_law_bookT an_law_bookT cd_law_bookT ct_law_bookT), sl_law_bookT⟩)
    (c_law_bookT : PySem.W.codeIn K cd_law_bookT "_law_book" = true)
    (k_law_bookT : PySem.W.keepIn K (.ref f_law_bookT) = true)
    {f_Book_getitem : Addr} (a_Book_getitem : PySem.W.findIn K (.ref A_Book) "__getitem__" = some (some (.ref f_Book_getitem)))
    (fn_Book_getitem : PySem.W.isFn K (.ref f_Book_getitem) = true)
    {od_Book_getitem an_Book_getitem : Option Addr} {sl_Book_getitem : Array (Option Value)} {oc_Book_getitem kV_Book_getitem dc_Book_getitem pm_Book_getitem cd_Book_getitem ct_Book_getitem : Value} (l_Book_getitem : K.lookup f_Book_getitem = some ⟨oc_Book_getitem, od_Book_getitem, .func (PySem.W.fnOf "__getitem__" "Book.__getitem__" (defArgs (mthS 21 4)) (defBody (mthS 21 4)) (defScope (mthS 21 4)) .none kV_Book_getitem dc_Book_getitem pm_Book_getitem an_Book_getitem cd_Book_getitem ct_Book_getitem), sl_Book_getitem⟩)
    (c_Book_getitem : PySem.W.codeIn K cd_Book_getitem "Book.__getitem__" = true)
    (k_Book_getitem : PySem.W.keepIn K (.ref f_Book_getitem) = true)
    {f_below : Addr} (a_below : PySem.W.nsIn K mainGlobals "below" = some (some (.ref f_below)))
    {od_below an_below : Option Addr} {sl_below : Array (Option Value)} {oc_below kV_below dc_below pm_below cd_below ct_below : Value} (l_below : K.lookup f_below = some ⟨oc_below, od_below, .func (PySem.W.fnOf "below" "below" (defArgs (topS 34)) (defBody (topS 34)) (defScope (topS 34)) .none kV_below dc_below pm_below an_below cd_below ct_below), sl_below⟩)
    (c_below : PySem.W.codeIn K cd_below "below" = true)
    (k_below : PySem.W.keepIn K (.ref f_below) = true)
    {f_keep_live : Addr} (a_keep_live : PySem.W.nsIn K mainGlobals "keep_live" = some (some (.ref f_keep_live)))
    {od_keep_live an_keep_live : Option Addr} {sl_keep_live : Array (Option Value)} {oc_keep_live kV_keep_live dc_keep_live pm_keep_live cd_keep_live ct_keep_live : Value} (l_keep_live : K.lookup f_keep_live = some ⟨oc_keep_live, od_keep_live, .func (PySem.W.fnOf "keep_live" "keep_live" (defArgs (topS 36)) (defBody (topS 36)) (defScope (topS 36)) .none kV_keep_live dc_keep_live pm_keep_live an_keep_live cd_keep_live ct_keep_live), sl_keep_live⟩)
    (c_keep_live : PySem.W.codeIn K cd_keep_live "keep_live" = true)
    (k_keep_live : PySem.W.keepIn K (.ref f_keep_live) = true)
    {f_halves : Addr} (a_halves : PySem.W.nsIn K mainGlobals "halves" = some (some (.ref f_halves)))
    {od_halves an_halves : Option Addr} {sl_halves : Array (Option Value)} {oc_halves kV_halves dc_halves pm_halves cd_halves ct_halves : Value} (l_halves : K.lookup f_halves = some ⟨oc_halves, od_halves, .func (PySem.W.fnOf "halves" "halves" (defArgs (topS 24)) (defBody (topS 24)) (defScope (topS 24)) .none kV_halves dc_halves pm_halves an_halves cd_halves ct_halves), sl_halves⟩)
    (c_halves : PySem.W.codeIn K cd_halves "halves" = true)
    (k_halves : PySem.W.keepIn K (.ref f_halves) = true)
    {f_split : Addr} (a_split : PySem.W.nsIn K mainGlobals "split" = some (some (.ref f_split)))
    {od_split an_split : Option Addr} {sl_split : Array (Option Value)} {oc_split kV_split dc_split pm_split cd_split ct_split : Value} (l_split : K.lookup f_split = some ⟨oc_split, od_split, .func (PySem.W.fnOf "split" "split" (defArgs (topS 35)) (defBody (topS 35)) (defScope (topS 35)) .none kV_split dc_split pm_split an_split cd_split ct_split), sl_split⟩)
    (c_split : PySem.W.codeIn K cd_split "split" = true)
    (k_split : PySem.W.keepIn K (.ref f_split) = true)
    {f_normal_half : Addr} (a_normal_half : PySem.W.nsIn K mainGlobals "normal_half" = some (some (.ref f_normal_half)))
    {od_normal_half an_normal_half : Option Addr} {sl_normal_half : Array (Option Value)} {oc_normal_half kV_normal_half dc_normal_half pm_normal_half cd_normal_half ct_normal_half : Value} (l_normal_half : K.lookup f_normal_half = some ⟨oc_normal_half, od_normal_half, .func (PySem.W.fnOf "normal_half" "normal_half" (defArgs (topS 37)) (defBody (topS 37)) (defScope (topS 37)) .none kV_normal_half dc_normal_half pm_normal_half an_normal_half cd_normal_half ct_normal_half), sl_normal_half⟩)
    (c_normal_half : PySem.W.codeIn K cd_normal_half "normal_half" = true)
    (k_normal_half : PySem.W.keepIn K (.ref f_normal_half) = true)
    {f_normal : Addr} (a_normal : PySem.W.nsIn K mainGlobals "normal" = some (some (.ref f_normal)))
    {od_normal an_normal : Option Addr} {sl_normal : Array (Option Value)} {oc_normal kV_normal dc_normal pm_normal cd_normal ct_normal : Value} (l_normal : K.lookup f_normal = some ⟨oc_normal, od_normal, .func (PySem.W.fnOf "normal" "normal" (defArgs (topS 38)) (defBody (topS 38)) (defScope (topS 38)) .none kV_normal dc_normal pm_normal an_normal cd_normal ct_normal), sl_normal⟩)
    (c_normal : PySem.W.codeIn K cd_normal "normal" = true)
    (k_normal : PySem.W.keepIn K (.ref f_normal) = true)
    {f_live : Addr} (a_live : PySem.W.nsIn K mainGlobals "live" = some (some (.ref f_live)))
    {od_live an_live : Option Addr} {sl_live : Array (Option Value)} {oc_live kV_live dc_live pm_live cd_live ct_live : Value} (l_live : K.lookup f_live = some ⟨oc_live, od_live, .func (PySem.W.fnOf "live" "live" (defArgs (topS 39)) (defBody (topS 39)) (defScope (topS 39)) .none kV_live dc_live pm_live an_live cd_live ct_live), sl_live⟩)
    (c_live : PySem.W.codeIn K cd_live "live" = true)
    (k_live : PySem.W.keepIn K (.ref f_live) = true)
    {p_Book_cells : Addr} (a_Book_cells : PySem.W.findIn K (.ref A_Book) "cells" = some (some (.ref p_Book_cells)))
    (pg_Book_cells : PySem.W.specialIn K (.ref p_Book_cells) "__get__" = some (some (.builtin "property.__get__")))
    (pt_Book_cells : PySem.W.takesIn K (.ref p_Book_cells) = some true)
    {f_Book_cells : Addr} {rs_Book_cells : List Value} (pr_Book_cells : PySem.W.recIn K p_Book_cells "property" = some (.ref f_Book_cells :: rs_Book_cells))
    {od_Book_cells an_Book_cells : Option Addr} {sl_Book_cells : Array (Option Value)} {oc_Book_cells kV_Book_cells dc_Book_cells pm_Book_cells cd_Book_cells ct_Book_cells : Value} (l_Book_cells : K.lookup f_Book_cells = some ⟨oc_Book_cells, od_Book_cells, .func (PySem.W.fnOf "cells" "Book.cells" (defArgs (mthS 21 12)) (defBody (mthS 21 12)) (defScope (mthS 21 12)) .none kV_Book_cells dc_Book_cells pm_Book_cells an_Book_cells cd_Book_cells ct_Book_cells), sl_Book_cells⟩)
    (c_Book_cells : PySem.W.codeIn K cd_Book_cells "Book.cells" = true)
    (k_Book_cells : PySem.W.keepIn K (.ref f_Book_cells) = true)
    {f_cell_names : Addr} (a_cell_names : PySem.W.nsIn K mainGlobals "cell_names" = some (some (.ref f_cell_names)))
    {od_cell_names an_cell_names : Option Addr} {sl_cell_names : Array (Option Value)} {oc_cell_names kV_cell_names dc_cell_names pm_cell_names cd_cell_names ct_cell_names : Value} (l_cell_names : K.lookup f_cell_names = some ⟨oc_cell_names, od_cell_names, .func (PySem.W.fnOf "cell_names" "cell_names" (defArgs (topS 22)) (defBody (topS 22)) (defScope (topS 22)) .none kV_cell_names dc_cell_names pm_cell_names an_cell_names cd_cell_names ct_cell_names), sl_cell_names⟩)
    (c_cell_names : PySem.W.codeIn K cd_cell_names "cell_names" = true)
    (k_cell_names : PySem.W.keepIn K (.ref f_cell_names) = true)
    {f_value_of : Addr} (a_value_of : PySem.W.nsIn K mainGlobals "value_of" = some (some (.ref f_value_of)))
    {od_value_of an_value_of : Option Addr} {sl_value_of : Array (Option Value)} {oc_value_of kV_value_of dc_value_of pm_value_of cd_value_of ct_value_of : Value} (l_value_of : K.lookup f_value_of = some ⟨oc_value_of, od_value_of, .func (PySem.W.fnOf "value_of" "value_of" (defArgs (topS 25)) (defBody (topS 25)) (defScope (topS 25)) .none kV_value_of dc_value_of pm_value_of an_value_of cd_value_of ct_value_of), sl_value_of⟩)
    (c_value_of : PySem.W.codeIn K cd_value_of "value_of" = true)
    (k_value_of : PySem.W.keepIn K (.ref f_value_of) = true)
    {f_told : Addr} (a_told : PySem.W.nsIn K mainGlobals "told" = some (some (.ref f_told)))
    {od_told an_told : Option Addr} {sl_told : Array (Option Value)} {oc_told kV_told dc_told pm_told cd_told ct_told : Value} (l_told : K.lookup f_told = some ⟨oc_told, od_told, .func (PySem.W.fnOf "told" "told" (defArgs (topS 26)) (defBody (topS 26)) (defScope (topS 26)) .none kV_told dc_told pm_told an_told cd_told ct_told), sl_told⟩)
    (c_told : PySem.W.codeIn K cd_told "told" = true)
    (k_told : PySem.W.keepIn K (.ref f_told) = true)
    {f_state : Addr} (a_state : PySem.W.nsIn K mainGlobals "state" = some (some (.ref f_state)))
    {od_state an_state : Option Addr} {sl_state : Array (Option Value)} {oc_state kV_state dc_state pm_state cd_state ct_state : Value} (l_state : K.lookup f_state = some ⟨oc_state, od_state, .func (PySem.W.fnOf "state" "state" (defArgs (topS 30)) (defBody (topS 30)) (defScope (topS 30)) .none kV_state dc_state pm_state an_state cd_state ct_state), sl_state⟩)
    (c_state : PySem.W.codeIn K cd_state "state" = true)
    (k_state : PySem.W.keepIn K (.ref f_state) = true)
    {f_agenda : Addr} (a_agenda : PySem.W.nsIn K mainGlobals "agenda" = some (some (.ref f_agenda)))
    {od_agenda an_agenda : Option Addr} {sl_agenda : Array (Option Value)} {oc_agenda kV_agenda dc_agenda pm_agenda cd_agenda ct_agenda : Value} (l_agenda : K.lookup f_agenda = some ⟨oc_agenda, od_agenda, .func (PySem.W.fnOf "agenda" "agenda" (defArgs (topS 40)) (defBody (topS 40)) (defScope (topS 40)) .none kV_agenda dc_agenda pm_agenda an_agenda cd_agenda ct_agenda), sl_agenda⟩)
    (c_agenda : PySem.W.codeIn K cd_agenda "agenda" = true)
    (k_agenda : PySem.W.keepIn K (.ref f_agenda) = true)
    {f_law_halved : Addr} (a_law_halved : PySem.W.nsIn K mainGlobals "_law_halved" = some (some (.ref f_law_halved)))
    {od_law_halved an_law_halved : Option Addr} {sl_law_halved : Array (Option Value)} {oc_law_halved kV_law_halved dc_law_halved pm_law_halved cd_law_halved ct_law_halved : Value} (l_law_halved : K.lookup f_law_halved = some ⟨oc_law_halved, od_law_halved, .func (PySem.W.fnOf "_law_halved" "_law_halved" (defArgs (topS 63)) (defBody (topS 63)) (defScope (topS 63)) .none kV_law_halved dc_law_halved pm_law_halved an_law_halved cd_law_halved ct_law_halved), sl_law_halved⟩)
    (c_law_halved : PySem.W.codeIn K cd_law_halved "_law_halved" = true)
    (k_law_halved : PySem.W.keepIn K (.ref f_law_halved) = true)
    {f_law_same : Addr} (a_law_same : PySem.W.nsIn K mainGlobals "_law_same" = some (some (.ref f_law_same)))
    {od_law_same an_law_same : Option Addr} {sl_law_same : Array (Option Value)} {oc_law_same kV_law_same dc_law_same pm_law_same cd_law_same ct_law_same : Value} (l_law_same : K.lookup f_law_same = some ⟨oc_law_same, od_law_same, .func (PySem.W.fnOf "_law_same" "_law_same" (defArgs (topS 60)) (defBody (topS 60)) (defScope (topS 60)) .none kV_law_same dc_law_same pm_law_same an_law_same cd_law_same ct_law_same), sl_law_same⟩)
    (c_law_same : PySem.W.codeIn K cd_law_same "_law_same" = true)
    (k_law_same : PySem.W.keepIn K (.ref f_law_same) = true)
    {f_law_top : Addr} (a_law_top : PySem.W.nsIn K mainGlobals "_law_top" = some (some (.ref f_law_top)))
    {od_law_top an_law_top : Option Addr} {sl_law_top : Array (Option Value)} {oc_law_top kV_law_top dc_law_top pm_law_top cd_law_top ct_law_top : Value} (l_law_top : K.lookup f_law_top = some ⟨oc_law_top, od_law_top, .func (PySem.W.fnOf "_law_top" "_law_top" (defArgs (topS 68)) (defBody (topS 68)) (defScope (topS 68)) .none kV_law_top dc_law_top pm_law_top an_law_top cd_law_top ct_law_top), sl_law_top⟩)
    (c_law_top : PySem.W.codeIn K cd_law_top "_law_top" = true)
    (k_law_top : PySem.W.keepIn K (.ref f_law_top) = true)
    {f_law_value : Addr} (a_law_value : PySem.W.nsIn K mainGlobals "_law_value" = some (some (.ref f_law_value)))
    {od_law_value an_law_value : Option Addr} {sl_law_value : Array (Option Value)} {oc_law_value kV_law_value dc_law_value pm_law_value cd_law_value ct_law_value : Value} (l_law_value : K.lookup f_law_value = some ⟨oc_law_value, od_law_value, .func (PySem.W.fnOf "_law_value" "_law_value" (defArgs (topS 55)) (defBody (topS 55)) (defScope (topS 55)) .none kV_law_value dc_law_value pm_law_value an_law_value cd_law_value ct_law_value), sl_law_value⟩)
    (c_law_value : PySem.W.codeIn K cd_law_value "_law_value" = true)
    (k_law_value : PySem.W.keepIn K (.ref f_law_value) = true)
    {f_law_halves : Addr} (a_law_halves : PySem.W.nsIn K mainGlobals "_law_halves" = some (some (.ref f_law_halves)))
    {od_law_halves an_law_halves : Option Addr} {sl_law_halves : Array (Option Value)} {oc_law_halves kV_law_halves dc_law_halves pm_law_halves cd_law_halves ct_law_halves : Value} (l_law_halves : K.lookup f_law_halves = some ⟨oc_law_halves, od_law_halves, .func (PySem.W.fnOf "_law_halves" "_law_halves" (defArgs (topS 56)) (defBody (topS 56)) (defScope (topS 56)) .none kV_law_halves dc_law_halves pm_law_halves an_law_halves cd_law_halves ct_law_halves), sl_law_halves⟩)
    (c_law_halves : PySem.W.codeIn K cd_law_halves "_law_halves" = true)
    (k_law_halves : PySem.W.keepIn K (.ref f_law_halves) = true)
    {f_law_split : Addr} (a_law_split : PySem.W.nsIn K mainGlobals "_law_split" = some (some (.ref f_law_split)))
    {od_law_split an_law_split : Option Addr} {sl_law_split : Array (Option Value)} {oc_law_split kV_law_split dc_law_split pm_law_split cd_law_split ct_law_split : Value} (l_law_split : K.lookup f_law_split = some ⟨oc_law_split, od_law_split, .func (PySem.W.fnOf "_law_split" "_law_split" (defArgs (topS 59)) (defBody (topS 59)) (defScope (topS 59)) .none kV_law_split dc_law_split pm_law_split an_law_split cd_law_split ct_law_split), sl_law_split⟩)
    (c_law_split : PySem.W.codeIn K cd_law_split "_law_split" = true)
    (k_law_split : PySem.W.keepIn K (.ref f_law_split) = true)
    {f_law_after : Addr} (a_law_after : PySem.W.nsIn K mainGlobals "_law_after" = some (some (.ref f_law_after)))
    {od_law_after an_law_after : Option Addr} {sl_law_after : Array (Option Value)} {oc_law_after kV_law_after dc_law_after pm_law_after cd_law_after ct_law_after : Value} (l_law_after : K.lookup f_law_after = some ⟨oc_law_after, od_law_after, .func (PySem.W.fnOf "_law_after" "_law_after" (defArgs (topS 58)) (defBody (topS 58)) (defScope (topS 58)) .none kV_law_after dc_law_after pm_law_after an_law_after cd_law_after ct_law_after), sl_law_after⟩)
    (c_law_after : PySem.W.codeIn K cd_law_after "_law_after" = true)
    (k_law_after : PySem.W.keepIn K (.ref f_law_after) = true)
    {f_law_apart : Addr} (a_law_apart : PySem.W.nsIn K mainGlobals "_law_apart" = some (some (.ref f_law_apart)))
    {od_law_apart an_law_apart : Option Addr} {sl_law_apart : Array (Option Value)} {oc_law_apart kV_law_apart dc_law_apart pm_law_apart cd_law_apart ct_law_apart : Value} (l_law_apart : K.lookup f_law_apart = some ⟨oc_law_apart, od_law_apart, .func (PySem.W.fnOf "_law_apart" "_law_apart" (defArgs (topS 69)) (defBody (topS 69)) (defScope (topS 69)) .none kV_law_apart dc_law_apart pm_law_apart an_law_apart cd_law_apart ct_law_apart), sl_law_apart⟩)
    (c_law_apart : PySem.W.codeIn K cd_law_apart "_law_apart" = true)
    (k_law_apart : PySem.W.keepIn K (.ref f_law_apart) = true)
    {f_law : Addr} (a_law : PySem.W.nsIn K mainGlobals "law" = some (some (.ref f_law)))
    {od_law an_law : Option Addr} {sl_law : Array (Option Value)} {oc_law kV_law dc_law pm_law cd_law ct_law : Value} (l_law : K.lookup f_law = some ⟨oc_law, od_law, .func (PySem.W.fnOf "law" "law" (defArgs (topS 70)) (defBody (topS 70)) (defScope (topS 70)) .none kV_law dc_law pm_law an_law cd_law ct_law), sl_law⟩)
    (c_law : PySem.W.codeIn K cd_law "law" = true)
    (k_law : PySem.W.keepIn K (.ref f_law) = true)
    (fi_Book : PySem.W.fnIn K f_Book_getitem = true)
    : ∃ fd : FuncData, (∀ (s : Shared) (v : Value), BindsTo s fd ⟨[v], []⟩ [("script", v)]) ∧ ∀ base : Heap, K.In base → base.Ns mainGlobals mg → FnOk P w K mg base (L2.CX P w) 67 fa fd ["script"] (spLaw K) := by
  have e := hfa.symm.trans (PySem.W.mg_of X G a_law)
  cases e
  exact ⟨PySem.W.fnOf "law" "law" (defArgs (topS 70)) (defBody (topS 70)) (defScope (topS 70)) .none kV_law dc_law pm_law an_law cd_law ct_law, fun s v => .of_eq rfl, fun base _ _ =>
    law_sp (c := ⟨P, w, K, mg, base, (clsTab [(0, A_Book), (1000, T0), (1001, T1)])⟩) (c_all (txt_mk (c := ⟨P, w, K, mg, base, (clsTab [(0, A_Book), (1000, T0), (1001, T1)])⟩) X G rfl rfl a_Book pg_Book hd_Book po_Book sa_Book rd_Book ga_Book cv_Book_CELLS cv_Book_STEPS na_Book__kinds na_Book__sizes z_BOTH l_BOTH z_DIGITS z_DONE z_ENDING l_ENDING z_ERROR z_GREATEST z_LETTERS z_LONGEST z_NAMED l_NAMED z_NUMBERED l_NUMBERED z_bool z_dict z_int z_isinstance z_len z_list z_range z_reversed z_sorted z_str z_tuple ns_Book a_law_pool l_law_pool c_law_pool k_law_pool a_law_mixed l_law_mixed c_law_mixed k_law_mixed a_law_draw l_law_draw c_law_draw k_law_draw a_law_letters l_law_letters c_law_letters k_law_letters a_law_name l_law_name c_law_name k_law_name a_law_fresh l_law_fresh c_law_fresh k_law_fresh a_law_number l_law_number c_law_number k_law_number a_law_kind l_law_kind c_law_kind k_law_kind a_law_lore l_law_lore c_law_lore k_law_lore a_law_cut l_law_cut c_law_cut k_law_cut a_law_argument l_law_argument c_law_argument k_law_argument a_law_actionB l_law_actionB c_law_actionB k_law_actionB a_law_richB l_law_richB c_law_richB k_law_richB a_law_word l_law_word c_law_word k_law_word a_law_exit l_law_exit c_law_exit k_law_exit a_law_store l_law_store c_law_store k_law_store a_law_put_twin l_law_put_twin c_law_put_twin k_law_put_twin a_law_state l_law_state c_law_state k_law_state a_law_second l_law_second c_law_second k_law_second a_Book_init fn_Book_init l_Book_init c_Book_init k_Book_init mk_Book ck_Book d_Book_init t_0 t_1 a_is_name l_is_name c_is_name k_is_name a_check_name l_check_name c_check_name k_check_name a_check_number l_check_number c_check_number k_check_number a_check_kind l_check_kind c_check_kind k_check_kind a_Book_setitem fn_Book_setitem l_Book_setitem c_Book_setitem k_Book_setitem a_Book_add_cell fn_Book_add_cell l_Book_add_cell c_Book_add_cell k_Book_add_cell a_law_bookT l_law_bookT c_law_bookT k_law_bookT a_Book_getitem fn_Book_getitem l_Book_getitem c_Book_getitem k_Book_getitem a_below l_below c_below k_below a_keep_live l_keep_live c_keep_live k_keep_live a_halves l_halves c_halves k_halves a_split l_split c_split k_split a_normal_half l_normal_half c_normal_half k_normal_half a_normal l_normal c_normal k_normal a_live l_live c_live k_live a_Book_cells pg_Book_cells pt_Book_cells pr_Book_cells l_Book_cells c_Book_cells k_Book_cells a_cell_names l_cell_names c_cell_names k_cell_names a_value_of l_value_of c_value_of k_value_of a_told l_told c_told k_told a_state l_state c_state k_state a_agenda l_agenda c_agenda k_agenda a_law_halved l_law_halved c_law_halved k_law_halved a_law_same l_law_same c_law_same k_law_same a_law_top l_law_top c_law_top k_law_top a_law_value l_law_value c_law_value k_law_value a_law_halves l_law_halves c_law_halves k_law_halves a_law_split l_law_split c_law_split k_law_split a_law_after l_law_after c_law_after k_law_after a_law_apart l_law_apart c_law_apart k_law_apart a_law l_law c_law k_law fi_Book rfl rfl rfl) (fun_mk (st := (topS 70)) l_law c_law k_law)) main_law⟩
theorem walk {l : PySem.W.OpenLaw} {q : Program} {loose : List Str} {XP : (Str → Option Value) → Heap → Prop} {YP : World → Heap → Prop} {d : DefRec} {K : Params → PySem.W.Frag} (hn : l.most = some 63) (hdf : d.params.defaults = [])
    (hY : ∀ (w : World) (h : Heap), YP w h → (K w.params).In h)
    (F : ∀ (w : World) (mg : Str → Option Value) (fa : Addr) (h : Heap), (K w.params).In h → h.Ns mainGlobals mg → mg d.name = some (.ref fa) →
      ∃ fd : FuncData, (∀ (s : Shared) (u : Value), BindsTo s fd ⟨[u], []⟩ [("script", u)]) ∧ ∀ base : Heap, (K w.params).In base → base.Ns mainGlobals mg → FnOk l.prog w (K w.params) mg base (L2.CX l.prog w) 67 fa fd ["script"] (spLaw (K w.params))) :
    PySem.W.WalkO q loose XP YP l.row.toRowW d [] (fun f vs => PySem.call f vs) :=
  L2.walk_of (n := 63) (k := 67) (x := "script") (CX := fun w => L2.CX l.prog w) (sp := fun w => spLaw (K w.params)) hn (by decide) hdf ⟨rfl, by decide, by decide⟩ hY F (fun _ _ a ns hl hO hS => ⟨a, ns, rfl, only_rol hO hS, hl, fun _ => rfl⟩)
    fun _ _ _ _ _ ⟨_, _, _, _, _, _, _, _, _, _, _, _, z⟩ => z
end DL
open PySem PySem.W PyProof.Rows in
set_option maxRecDepth 100000 in
set_option maxHeartbeats 0 in
theorem PySem.Challenge.cw_struckbodies_k33_whole_agendas_part_holds : PySem.Challenge.rw_struckbodies_k33_whole_agendas_part.Holds := by
  w_on; o_law; k_head; (case hw => w_witness2)
  k_fill
  refine DL.walk (l := PySem.Challenge.rw_struckbodies_k33_whole_agendas_part) rfl rfl (fun w h Y => PySem.W.kIn_of Y) ?F
  case F =>
    intro w mg fa h KX G hmg
    refine' DL.law_mk KX G hmg ?a_Book ?pg_Book ?hd_Book ?po_Book ?sa_Book ?rd_Book ?ga_Book ?cv_Book_CELLS ?cv_Book_STEPS ?na_Book__kinds ?na_Book__sizes ?z_BOTH ?l_BOTH ?z_DIGITS ?z_DONE ?z_ENDING ?l_ENDING ?z_ERROR ?z_GREATEST ?z_LETTERS ?z_LONGEST ?z_NAMED ?l_NAMED ?z_NUMBERED ?l_NUMBERED ?z_bool ?z_dict ?z_int ?z_isinstance ?z_len ?z_list ?z_range ?z_reversed ?z_sorted ?z_str ?z_tuple ?ns_Book ?a_law_pool ?l_law_pool ?c_law_pool ?k_law_pool ?a_law_mixed ?l_law_mixed ?c_law_mixed ?k_law_mixed ?a_law_draw ?l_law_draw ?c_law_draw ?k_law_draw ?a_law_letters ?l_law_letters ?c_law_letters ?k_law_letters ?a_law_name ?l_law_name ?c_law_name ?k_law_name ?a_law_fresh ?l_law_fresh ?c_law_fresh ?k_law_fresh ?a_law_number ?l_law_number ?c_law_number ?k_law_number ?a_law_kind ?l_law_kind ?c_law_kind ?k_law_kind ?a_law_lore ?l_law_lore ?c_law_lore ?k_law_lore ?a_law_cut ?l_law_cut ?c_law_cut ?k_law_cut ?a_law_argument ?l_law_argument ?c_law_argument ?k_law_argument ?a_law_actionB ?l_law_actionB ?c_law_actionB ?k_law_actionB ?a_law_richB ?l_law_richB ?c_law_richB ?k_law_richB ?a_law_word ?l_law_word ?c_law_word ?k_law_word ?a_law_exit ?l_law_exit ?c_law_exit ?k_law_exit ?a_law_store ?l_law_store ?c_law_store ?k_law_store ?a_law_put_twin ?l_law_put_twin ?c_law_put_twin ?k_law_put_twin ?a_law_state ?l_law_state ?c_law_state ?k_law_state ?a_law_second ?l_law_second ?c_law_second ?k_law_second ?a_Book_init ?fn_Book_init ?l_Book_init ?c_Book_init ?k_Book_init ?mk_Book ?ck_Book ?d_Book_init ?t_0 ?t_1 ?a_is_name ?l_is_name ?c_is_name ?k_is_name ?a_check_name ?l_check_name ?c_check_name ?k_check_name ?a_check_number ?l_check_number ?c_check_number ?k_check_number ?a_check_kind ?l_check_kind ?c_check_kind ?k_check_kind ?a_Book_setitem ?fn_Book_setitem ?l_Book_setitem ?c_Book_setitem ?k_Book_setitem ?a_Book_add_cell ?fn_Book_add_cell ?l_Book_add_cell ?c_Book_add_cell ?k_Book_add_cell ?a_law_bookT ?l_law_bookT ?c_law_bookT ?k_law_bookT ?a_Book_getitem ?fn_Book_getitem ?l_Book_getitem ?c_Book_getitem ?k_Book_getitem ?a_below ?l_below ?c_below ?k_below ?a_keep_live ?l_keep_live ?c_keep_live ?k_keep_live ?a_halves ?l_halves ?c_halves ?k_halves ?a_split ?l_split ?c_split ?k_split ?a_normal_half ?l_normal_half ?c_normal_half ?k_normal_half ?a_normal ?l_normal ?c_normal ?k_normal ?a_live ?l_live ?c_live ?k_live ?a_Book_cells ?pg_Book_cells ?pt_Book_cells ?pr_Book_cells ?l_Book_cells ?c_Book_cells ?k_Book_cells ?a_cell_names ?l_cell_names ?c_cell_names ?k_cell_names ?a_value_of ?l_value_of ?c_value_of ?k_value_of ?a_told ?l_told ?c_told ?k_told ?a_state ?l_state ?c_state ?k_state ?a_agenda ?l_agenda ?c_agenda ?k_agenda ?a_law_halved ?l_law_halved ?c_law_halved ?k_law_halved ?a_law_same ?l_law_same ?c_law_same ?k_law_same ?a_law_top ?l_law_top ?c_law_top ?k_law_top ?a_law_value ?l_law_value ?c_law_value ?k_law_value ?a_law_halves ?l_law_halves ?c_law_halves ?k_law_halves ?a_law_split ?l_law_split ?c_law_split ?k_law_split ?a_law_after ?l_law_after ?c_law_after ?k_law_after ?a_law_apart ?l_law_apart ?c_law_apart ?k_law_apart ?a_law ?l_law ?c_law ?k_law ?fi_Book
    (case a_Book => k_is)
    (case pg_Book => k_is)
    (case hd_Book => k_is)
    (case po_Book => k_is)
    (case sa_Book => k_is)
    (case rd_Book => k_is)
    (case ga_Book => k_is)
    (case cv_Book_CELLS => k_is)
    (case cv_Book_STEPS => k_is)
    (case na_Book__kinds => k_is)
    (case na_Book__sizes => k_is)
    (case z_BOTH => k_is)
    (case l_BOTH => k_is)
    (case z_DIGITS => k_is)
    (case z_DONE => k_is)
    (case z_ENDING => k_is)
    (case l_ENDING => k_is)
    (case z_ERROR => k_is)
    (case z_GREATEST => k_is)
    (case z_LETTERS => k_is)
    (case z_LONGEST => k_is)
    (case z_NAMED => k_is)
    (case l_NAMED => k_is)
    (case z_NUMBERED => k_is)
    (case l_NUMBERED => k_is)
    (case z_bool => k_is)
    (case z_dict => k_is)
    (case z_int => k_is)
    (case z_isinstance => k_is)
    (case z_len => k_is)
    (case z_list => k_is)
    (case z_range => k_is)
    (case z_reversed => k_is)
    (case z_sorted => k_is)
    (case z_str => k_is)
    (case z_tuple => k_is)
    (case ns_Book => k_is)
    (case a_law_pool => k_is)
    (case l_law_pool => k_is)
    (case c_law_pool => k_is)
    (case k_law_pool => k_is)
    (case a_law_mixed => k_is)
    (case l_law_mixed => k_is)
    (case c_law_mixed => k_is)
    (case k_law_mixed => k_is)
    (case a_law_draw => k_is)
    (case l_law_draw => k_is)
    (case c_law_draw => k_is)
    (case k_law_draw => k_is)
    (case a_law_letters => k_is)
    (case l_law_letters => k_is)
    (case c_law_letters => k_is)
    (case k_law_letters => k_is)
    (case a_law_name => k_is)
    (case l_law_name => k_is)
    (case c_law_name => k_is)
    (case k_law_name => k_is)
    (case a_law_fresh => k_is)
    (case l_law_fresh => k_is)
    (case c_law_fresh => k_is)
    (case k_law_fresh => k_is)
    (case a_law_number => k_is)
    (case l_law_number => k_is)
    (case c_law_number => k_is)
    (case k_law_number => k_is)
    (case a_law_kind => k_is)
    (case l_law_kind => k_is)
    (case c_law_kind => k_is)
    (case k_law_kind => k_is)
    (case a_law_lore => k_is)
    (case l_law_lore => k_is)
    (case c_law_lore => k_is)
    (case k_law_lore => k_is)
    (case a_law_cut => k_is)
    (case l_law_cut => k_is)
    (case c_law_cut => k_is)
    (case k_law_cut => k_is)
    (case a_law_argument => k_is)
    (case l_law_argument => k_is)
    (case c_law_argument => k_is)
    (case k_law_argument => k_is)
    (case a_law_actionB => k_is)
    (case l_law_actionB => k_is)
    (case c_law_actionB => k_is)
    (case k_law_actionB => k_is)
    (case a_law_richB => k_is)
    (case l_law_richB => k_is)
    (case c_law_richB => k_is)
    (case k_law_richB => k_is)
    (case a_law_word => k_is)
    (case l_law_word => k_is)
    (case c_law_word => k_is)
    (case k_law_word => k_is)
    (case a_law_exit => k_is)
    (case l_law_exit => k_is)
    (case c_law_exit => k_is)
    (case k_law_exit => k_is)
    (case a_law_store => k_is)
    (case l_law_store => k_is)
    (case c_law_store => k_is)
    (case k_law_store => k_is)
    (case a_law_put_twin => k_is)
    (case l_law_put_twin => k_is)
    (case c_law_put_twin => k_is)
    (case k_law_put_twin => k_is)
    (case a_law_state => k_is)
    (case l_law_state => k_is)
    (case c_law_state => k_is)
    (case k_law_state => k_is)
    (case a_law_second => k_is)
    (case l_law_second => k_is)
    (case c_law_second => k_is)
    (case k_law_second => k_is)
    (case a_Book_init => k_is)
    (case fn_Book_init => k_is)
    (case l_Book_init => k_is)
    (case c_Book_init => k_is)
    (case k_Book_init => k_is)
    (case mk_Book => k_is)
    (case ck_Book => k_is)
    (case d_Book_init => k_is)
    (case t_0 => k_is)
    (case t_1 => k_is)
    (case a_is_name => k_is)
    (case l_is_name => k_is)
    (case c_is_name => k_is)
    (case k_is_name => k_is)
    (case a_check_name => k_is)
    (case l_check_name => k_is)
    (case c_check_name => k_is)
    (case k_check_name => k_is)
    (case a_check_number => k_is)
    (case l_check_number => k_is)
    (case c_check_number => k_is)
    (case k_check_number => k_is)
    (case a_check_kind => k_is)
    (case l_check_kind => k_is)
    (case c_check_kind => k_is)
    (case k_check_kind => k_is)
    (case a_Book_setitem => k_is)
    (case fn_Book_setitem => k_is)
    (case l_Book_setitem => k_is)
    (case c_Book_setitem => k_is)
    (case k_Book_setitem => k_is)
    (case a_Book_add_cell => k_is)
    (case fn_Book_add_cell => k_is)
    (case l_Book_add_cell => k_is)
    (case c_Book_add_cell => k_is)
    (case k_Book_add_cell => k_is)
    (case a_law_bookT => k_is)
    (case l_law_bookT => k_is)
    (case c_law_bookT => k_is)
    (case k_law_bookT => k_is)
    (case a_Book_getitem => k_is)
    (case fn_Book_getitem => k_is)
    (case l_Book_getitem => k_is)
    (case c_Book_getitem => k_is)
    (case k_Book_getitem => k_is)
    (case a_below => k_is)
    (case l_below => k_is)
    (case c_below => k_is)
    (case k_below => k_is)
    (case a_keep_live => k_is)
    (case l_keep_live => k_is)
    (case c_keep_live => k_is)
    (case k_keep_live => k_is)
    (case a_halves => k_is)
    (case l_halves => k_is)
    (case c_halves => k_is)
    (case k_halves => k_is)
    (case a_split => k_is)
    (case l_split => k_is)
    (case c_split => k_is)
    (case k_split => k_is)
    (case a_normal_half => k_is)
    (case l_normal_half => k_is)
    (case c_normal_half => k_is)
    (case k_normal_half => k_is)
    (case a_normal => k_is)
    (case l_normal => k_is)
    (case c_normal => k_is)
    (case k_normal => k_is)
    (case a_live => k_is)
    (case l_live => k_is)
    (case c_live => k_is)
    (case k_live => k_is)
    (case a_Book_cells => k_is)
    (case pg_Book_cells => k_is)
    (case pt_Book_cells => k_is)
    (case pr_Book_cells => k_is)
    (case l_Book_cells => k_is)
    (case c_Book_cells => k_is)
    (case k_Book_cells => k_is)
    (case a_cell_names => k_is)
    (case l_cell_names => k_is)
    (case c_cell_names => k_is)
    (case k_cell_names => k_is)
    (case a_value_of => k_is)
    (case l_value_of => k_is)
    (case c_value_of => k_is)
    (case k_value_of => k_is)
    (case a_told => k_is)
    (case l_told => k_is)
    (case c_told => k_is)
    (case k_told => k_is)
    (case a_state => k_is)
    (case l_state => k_is)
    (case c_state => k_is)
    (case k_state => k_is)
    (case a_agenda => k_is)
    (case l_agenda => k_is)
    (case c_agenda => k_is)
    (case k_agenda => k_is)
    (case a_law_halved => k_is)
    (case l_law_halved => k_is)
    (case c_law_halved => k_is)
    (case k_law_halved => k_is)
    (case a_law_same => k_is)
    (case l_law_same => k_is)
    (case c_law_same => k_is)
    (case k_law_same => k_is)
    (case a_law_top => k_is)
    (case l_law_top => k_is)
    (case c_law_top => k_is)
    (case k_law_top => k_is)
    (case a_law_value => k_is)
    (case l_law_value => k_is)
    (case c_law_value => k_is)
    (case k_law_value => k_is)
    (case a_law_halves => k_is)
    (case l_law_halves => k_is)
    (case c_law_halves => k_is)
    (case k_law_halves => k_is)
    (case a_law_split => k_is)
    (case l_law_split => k_is)
    (case c_law_split => k_is)
    (case k_law_split => k_is)
    (case a_law_after => k_is)
    (case l_law_after => k_is)
    (case c_law_after => k_is)
    (case k_law_after => k_is)
    (case a_law_apart => k_is)
    (case l_law_apart => k_is)
    (case c_law_apart => k_is)
    (case k_law_apart => k_is)
    (case a_law => k_is)
    (case l_law => k_is)
    (case c_law => k_is)
    (case k_law => k_is)
    (case fi_Book => k_is)

