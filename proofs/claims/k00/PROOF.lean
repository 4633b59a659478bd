import PyProof.Rows.All
import HandS.ForMost
import HandS.Walk
import HandS.Gcd
import HandS.IsInst
import HandS.Wide
import HandS.Deep
import HandS.Zip
import HandS.ForExc
import HandS.TryOnly
import HandS.TryMany
import HandS.ExcIs
import HandS.CallSlots
import HandS.TupAny
import HandS.Style
import HandS.TupLe
import HandS.Flow
import PySem.Challenge.RW_weighedgrids_k00_numbers_of_a_field
import Wide.All
import OpenK.AllK
import Wide.FinOn
import PyProof.EqAt
import PyProof.EqKinds
import PyProof.TupleCall
import Open.SpecLaws
import KE.OsGo
set_option Elab.async false
set_option autoImplicit false
set_option linter.all false
set_option maxRecDepth 100001
set_option maxHeartbeats 1000001
namespace DL
open PySem PySem.Spec PyProof.Rows L2

/-! ### data -/
inductive D where
  | non | bl (b : Bool) | int (i : Int) | str (x : PySem.Str) | tup (ds : List D) | lst (ds : List D) | scr (ds : List D)

mutual
def toPy : D → PyData
  | .non => .none
  | .bl b => .bool b
  | .int i => .int i
  | .str x => .str x
  | .tup ds => .tuple (toPyL ds)
  | .lst ds => .list (toPyL ds)
  | .scr ds => .list (toPyL ds)
def toPyL : List D → List PyData
  | [] => []
  | d :: ds => toPy d :: toPyL ds
end
mutual
def imm : D → Bool
  | .tup ds => immL ds
  | .lst _ => false
  | .scr _ => false
  | .non => true
  | .bl _ => true
  | .int _ => true
  | .str _ => true
def immL : List D → Bool
  | [] => true
  | d :: ds => imm d && immL ds
end

/-! ### results -/
structure Exn where
  cls : String
inductive R (α : Type) where
  | ok (a : α) | err (x : Exn) | stk
def R.bind {α β : Type} : R α → (α → R β) → R β
  | .ok a, f => f a
  | .err x, _ => .err x
  | .stk, _ => .stk
instance : Monad R where
  pure := R.ok
  bind := R.bind
@[simp] theorem R.bind_ok {α β : Type} (a : α) (f : α → R β) : R.bind (.ok a) f = f a := rfl
@[simp] theorem R.bind_err {α β : Type} (x : Exn) (f : α → R β) : R.bind (.err x) f = .err x := rfl
@[simp] theorem R.bind_stk {α β : Type} (f : α → R β) : R.bind (.stk) f = .stk := rfl

/-! ### what stands in the heap -/
section
variable (K : PySem.W.Frag)
def KTup (a : Addr) (xs : List V) : Prop := ∃ (o : Obj) (its : Array Value) (n : Nat), K.lookup a = some o ∧ o.cls = .type "tuple" ∧ o.data = .seq its n ∧ its.size ≤ sizeLine ∧ Vals xs its.toList
def TupAt (H : Hp) (Z : Addr → Prop) (a : Addr) (xs : List V) : Prop := (Rd H a (.tup xs) ∧ ¬ Z a) ∨ KTup K a xs
def KLst (a : Addr) (xs : List V) : Prop := ∃ (o : Obj) (its : Array Value) (n : Nat), K.lookup a = some o ∧ o.cls = .type "list" ∧ o.dict = none ∧ o.data = .seq its n ∧ its.size ≤ sizeLine ∧ Vals xs its.toList
def LstAt (H : Hp) (Z : Addr → Prop) (a : Addr) (xs : List V) : Prop := (Rd H a (.lst xs) ∧ ¬ Z a) ∨ KLst K a xs
mutual
def Rep (H : Hp) (Z : Addr → Prop) : D → V → Prop
  | .non, v => v = .non
  | .bl b, v => v = .bl b
  | .int i, v => v = .int i
  | .str x, v => v = .str x
  | .tup ds, v => ∃ a vs, v = .ref a ∧ TupAt K H Z a vs ∧ RepL H Z ds vs
  | .lst ds, v => ∃ a vs, v = .ref a ∧ H a = some (.lst vs) ∧ ¬ Z a ∧ RepL H Z ds vs
  | .scr ds, v => ∃ a vs, v = .ref a ∧ LstAt K H Z a vs ∧ RepL H Z ds vs
def RepL (H : Hp) (Z : Addr → Prop) : List D → List V → Prop
  | [], vs => vs = []
  | d :: ds, vs => ∃ v r, vs = v :: r ∧ Rep H Z d v ∧ RepL H Z ds r
end
/-- an owned object: its parts avoid Z, it itself may be in it -/
def Top (H : Hp) (Z : Addr → Prop) : D → Addr → Prop
  | .lst ds, a => ∃ vs, H a = some (.lst vs) ∧ RepL K H Z ds vs
  | _, _ => False
end

/-- all that stands outside Z stays -/
def Keeps (Z : Addr → Prop) (H H' : Hp) : Prop := ∀ a o, ¬ Z a → H a = some o → H' a = some o
abbrev Ext (H H' : Hp) : Prop := Same H H'
def ZOk (H : Hp) (Z : Addr → Prop) : Prop := ∀ a, Z a → ∃ o, H a = some o ∧ Mut (some o)
theorem Keeps.of {Z : Addr → Prop} {H H' : Hp} (e : Ext H H') : Keeps Z H H' := fun a o _ h => e a o h
theorem Keeps.refl {Z : Addr → Prop} {H : Hp} : Keeps Z H H := fun _ _ _ h => h
theorem Keeps.trans {Z : Addr → Prop} {H H1 H2 : Hp} (x : Keeps Z H H1) (y : Keeps Z H1 H2) : Keeps Z H H2 := fun a o n h => y a o n (x a o n h)
theorem Keeps.mono {Z Z' : Addr → Prop} {H H' : Hp} (k : Keeps Z H H') (h : ∀ a, Z a → Z' a) : Keeps Z' H H' := fun a o n e => k a o (fun z => n (h a z)) e
theorem ext_upd {H : Hp} {p : Addr} {o : HO} (h : H p = none) : Ext H (upd H p o) := fun b x e => by
  rw [upd_ne (ne_of_none e h)]
  exact e
theorem ZOk.ext {H H' : Hp} {Z : Addr → Prop} (z : ZOk H Z) (e : Ext H H') : ZOk H' Z := fun a h => by
  obtain ⟨o, h1, h2⟩ := z a h
  exact ⟨o, e a o h1, h2⟩
theorem ZOk.new {H : Hp} {Z : Addr → Prop} (z : ZOk H Z) {p : Addr} (h : H p = none) : ¬ Z p := fun q => by
  obtain ⟨o, h1, _⟩ := z p q
  rw [h] at h1; cases h1

section
variable {K : PySem.W.Frag} {H H' : Hp} {Z Z' : Addr → Prop}
theorem TupAt.mono {a : Addr} {xs : List V} (k : Keeps Z H H') (z : ∀ b, Z' b → Z b) (t : TupAt K H Z a xs) : TupAt K H' Z' a xs := by
  rcases t with ⟨h | ⟨o, h⟩, n⟩ | t
  · exact .inl ⟨.inl (k _ _ n h), fun q => n (z _ q)⟩
  · exact .inl ⟨.inr ⟨o, k _ _ n h⟩, fun q => n (z _ q)⟩
  · exact .inr t
theorem LstAt.mono {a : Addr} {xs : List V} (k : Keeps Z H H') (z : ∀ b, Z' b → Z b) (t : LstAt K H Z a xs) : LstAt K H' Z' a xs := by
  rcases t with ⟨h | ⟨o, h⟩, n⟩ | t
  · exact .inl ⟨.inl (k _ _ n h), fun q => n (z _ q)⟩
  · exact .inl ⟨.inr ⟨o, k _ _ n h⟩, fun q => n (z _ q)⟩
  · exact .inr t
theorem LstAt.sqL {a : Addr} {xs : List V} (t : LstAt K H Z a xs) : SqL K H a xs := by
  rcases t with ⟨h, _⟩ | t
  · exact .inl h
  · exact .inr t
theorem TupAt.sqT {a : Addr} {xs : List V} (t : TupAt K H Z a xs) : SqT K H a xs := by
  rcases t with ⟨h, _⟩ | t
  · exact .inl h
  · exact .inr t
mutual
theorem Rep.mono (hs : ∀ a o u, Z a → H a ≠ some (.frz o u)) (k : Keeps Z H H') (z : ∀ b, Z' b → Z b) : ∀ (d : D) (v : V), Rep K H Z d v → Rep K H' Z' d v
  | .non, _, h => h
  | .bl _, _, h => h
  | .int _, _, h => h
  | .str _, _, h => h
  | .tup ds, _, h => by
    obtain ⟨a, vs, e, t, r⟩ := h
    exact ⟨a, vs, e, t.mono k z, RepL.mono hs k z ds vs r⟩
  | .lst ds, _, h => by
    obtain ⟨a, vs, e, t, n, r⟩ := h
    exact ⟨a, vs, e, k _ _ n t, fun q => n (z _ q), RepL.mono hs k z ds vs r⟩
  | .scr ds, _, h => by
    obtain ⟨a, vs, e, t, r⟩ := h
    exact ⟨a, vs, e, t.mono k z, RepL.mono hs k z ds vs r⟩
theorem RepL.mono (hs : ∀ a o u, Z a → H a ≠ some (.frz o u)) (k : Keeps Z H H') (z : ∀ b, Z' b → Z b) : ∀ (ds : List D) (vs : List V), RepL K H Z ds vs → RepL K H' Z' ds vs
  | [], _, h => h
  | d :: ds, _, h => by
    obtain ⟨v, r, e, h1, h2⟩ := h
    exact ⟨v, r, e, Rep.mono hs k z d v h1, RepL.mono hs k z ds r h2⟩
end
theorem ZOk.nofrz (z : ZOk H Z) : ∀ a o u, Z a → H a ≠ some (.frz o u) := fun a o u h e => by
  obtain ⟨x, h1, h2⟩ := z a h
  rw [e] at h1; cases h1; exact h2
theorem Rep.ext (zo : ZOk H Z) (e : Ext H H') {d : D} {v : V} (h : Rep K H Z d v) : Rep K H' Z d v := Rep.mono zo.nofrz (.of e) (fun _ q => q) d v h
theorem RepL.ext (zo : ZOk H Z) (e : Ext H H') {d : List D} {v : List V} (h : RepL K H Z d v) : RepL K H' Z d v := RepL.mono zo.nofrz (.of e) (fun _ q => q) d v h
theorem Rep.less (zo : ZOk H Z) (z : ∀ b, Z' b → Z b) {d : D} {v : V} (h : Rep K H Z d v) : Rep K H Z' d v := Rep.mono zo.nofrz .refl z d v h
theorem RepL.less (zo : ZOk H Z) (z : ∀ b, Z' b → Z b) {d : List D} {v : List V} (h : RepL K H Z d v) : RepL K H Z' d v := RepL.mono zo.nofrz .refl z d v h
mutual
/-- what cannot be changed avoids whatever may be -/
theorem Rep.imm (z : ZOk H Z') : ∀ (d : D) (v : V), imm d = true → Rep K H Z d v → Rep K H Z' d v
  | .non, _, _, h => h
  | .bl _, _, _, h => h
  | .int _, _, _, h => h
  | .str _, _, _, h => h
  | .tup ds, _, i, h => by
    obtain ⟨a, vs, e, t, r⟩ := h
    refine ⟨a, vs, e, ?_, RepL.imm z ds vs i r⟩
    rcases t with ⟨h, n⟩ | t
    · refine .inl ⟨h, fun q => ?_⟩
      obtain ⟨o, h1, h2⟩ := z a q
      rcases h with h | ⟨ob, h⟩
      · rw [h] at h1; cases h1; exact h2
      · rw [h] at h1; cases h1; exact h2
    · exact .inr t
  | .lst _, _, i, _ => nomatch i
  | .scr _, _, i, _ => nomatch i
theorem RepL.imm (z : ZOk H Z') : ∀ (ds : List D) (vs : List V), immL ds = true → RepL K H Z ds vs → RepL K H Z' ds vs
  | [], _, _, h => h
  | d :: ds, _, i, h => by
    obtain ⟨v, r, e, h1, h2⟩ := h
    have i' : (DL.imm d && immL ds) = true := i
    rw [Bool.and_eq_true] at i'
    exact ⟨v, r, e, Rep.imm z d v i'.1 h1, RepL.imm z ds r i'.2 h2⟩
end
theorem RepL.len : ∀ {ds : List D} {vs : List V}, RepL K H Z ds vs → vs.length = ds.length
  | [], _, h => by cases (show _ = [] from h); rfl
  | d :: ds, _, h => by
    obtain ⟨v, r, rfl, _, h2⟩ := h
    simp [RepL.len h2]
theorem RepL.get : ∀ {ds : List D} {vs : List V} {i : Nat} {d : D}, RepL K H Z ds vs → ds[i]? = some d → ∃ v, vs[i]? = some v ∧ Rep K H Z d v
  | [], _, _, _, _, h => by simp at h
  | d :: ds, _, 0, _, h, e => by
    obtain ⟨v, r, rfl, h1, _⟩ := h
    simp at e; subst e
    exact ⟨v, rfl, h1⟩
  | d :: ds, _, i + 1, _, h, e => by
    obtain ⟨v, r, rfl, _, h2⟩ := h
    obtain ⟨v', e', h'⟩ := RepL.get (i := i) h2 (by simpa using e)
    exact ⟨v', by simpa using e', h'⟩
theorem RepL.at : ∀ {ds : List D} {vs : List V} {i : Nat} {v : V}, RepL K H Z ds vs → vs[i]? = some v → ∃ d, ds[i]? = some d ∧ Rep K H Z d v
  | [], _, _, _, h, e => by cases (show _ = [] from h); simp at e
  | d :: ds, _, 0, _, h, e => by
    obtain ⟨v, r, rfl, h1, _⟩ := h
    simp at e; subst e
    exact ⟨d, rfl, h1⟩
  | d :: ds, _, i + 1, _, h, e => by
    obtain ⟨v, r, rfl, _, h2⟩ := h
    obtain ⟨v', e', h'⟩ := RepL.at (i := i) h2 (by simpa using e)
    exact ⟨v', by simpa using e', h'⟩
theorem RepL.app : ∀ {ds es : List D} {vs us : List V}, RepL K H Z ds vs → RepL K H Z es us → RepL K H Z (ds ++ es) (vs ++ us)
  | [], _, _, _, h, g => by cases (show _ = [] from h); exact g
  | d :: ds, _, _, _, h, g => by
    obtain ⟨v, r, rfl, h1, h2⟩ := h
    exact ⟨v, r ++ _, rfl, h1, RepL.app h2 g⟩
theorem RepL.take : ∀ {ds : List D} {vs : List V} (n : Nat), RepL K H Z ds vs → RepL K H Z (ds.take n) (vs.take n)
  | [], _, n, h => by cases (show _ = [] from h); simp [RepL]
  | d :: ds, _, 0, _ => rfl
  | d :: ds, _, n + 1, h => by
    obtain ⟨v, r, rfl, h1, h2⟩ := h
    exact ⟨v, r.take n, rfl, h1, RepL.take n h2⟩
theorem RepL.drop : ∀ {ds : List D} {vs : List V} (n : Nat), RepL K H Z ds vs → RepL K H Z (ds.drop n) (vs.drop n)
  | [], _, n, h => by cases (show _ = [] from h); simp [RepL]
  | d :: ds, _, 0, h => h
  | d :: ds, _, n + 1, h => by
    obtain ⟨v, r, rfl, h1, h2⟩ := h
    exact RepL.drop n h2
theorem RepL.set : ∀ {ds : List D} {vs : List V} {d : D} {v : V} (n : Nat), RepL K H Z ds vs → Rep K H Z d v → RepL K H Z (ds.set n d) (vs.set n v)
  | [], _, _, _, n, h, _ => by cases (show _ = [] from h); simp [RepL]
  | d :: ds, _, _, _, 0, h, g => by
    obtain ⟨v, r, rfl, h1, h2⟩ := h
    exact ⟨_, r, rfl, g, h2⟩
  | d :: ds, _, _, _, n + 1, h, g => by
    obtain ⟨v, r, rfl, h1, h2⟩ := h
    exact ⟨v, r.set n _, rfl, h1, RepL.set n h2 g⟩
mutual
theorem Rep.dp : ∀ (d : D) (v : V), Rep K H Z d v → Dp K H v (toPy d)
  | .non, _, h => by cases (show _ = V.non from h); exact .non
  | .bl _, _, h => by cases (show _ = V.bl _ from h); exact .bl _
  | .int _, _, h => by cases (show _ = V.int _ from h); exact .int _
  | .str _, _, h => by cases (show _ = V.str _ from h); exact .str _
  | .tup ds, _, h => by
    obtain ⟨a, vs, rfl, t, r⟩ := h
    exact .tup t.sqT (RepL.dp ds vs r)
  | .lst ds, _, h => by
    obtain ⟨a, vs, rfl, t, n, r⟩ := h
    exact .lst (SqL.of t) (RepL.dp ds vs r)
  | .scr ds, _, h => by
    obtain ⟨a, vs, rfl, t, r⟩ := h
    exact .lst t.sqL (RepL.dp ds vs r)
theorem RepL.dp : ∀ (ds : List D) (vs : List V), RepL K H Z ds vs → DpAll K H vs (toPyL ds)
  | [], _, h => by cases (show _ = [] from h); exact .nil
  | d :: ds, _, h => by
    obtain ⟨v, r, rfl, h1, h2⟩ := h
    exact .cons (Rep.dp d v h1) (RepL.dp ds r h2)
end
theorem rep_upd {p : Addr} {o : HO} (zo : ZOk H Z) (h : H p = none) {d : D} {v : V} (r : Rep K H Z d v) : Rep K (upd H p o) Z d v := r.ext zo (ext_upd h)
theorem repL_upd {p : Addr} {o : HO} (zo : ZOk H Z) (h : H p = none) {d : List D} {v : List V} (r : RepL K H Z d v) : RepL K (upd H p o) Z d v := r.ext zo (ext_upd h)
end

/-! ### the environment -/
abbrev DEnv := List (Option D)
def ZZ (Z₀ : Addr → Prop) (α : Nat → Addr) (own : List Nat) : Addr → Prop := fun a => Z₀ a ∨ ∃ i, i ∈ own ∧ a = α i
structure EnvOk (K : PySem.W.Frag) (Z₀ : Addr → Prop) (α : Nat → Addr) (own : List Nat) (δ : DEnv) (σ : L2.St) (H : Hp) : Prop where
  z0 : ZOk H Z₀
  nz0 : ∀ i ∈ own, ¬ Z₀ (α i)
  inj : ∀ i ∈ own, ∀ j ∈ own, α i = α j → i = j
  len : σ.length = δ.length
  free : ∀ i d, i ∉ own → δ[i]? = some (some d) → ∃ v, σ[i]? = some (some v) ∧ Rep K H (ZZ Z₀ α own) d v
  top : ∀ i ∈ own, ∃ d, δ[i]? = some (some d) ∧ σ[i]? = some (some (.ref (α i))) ∧ Top K H (ZZ Z₀ α own) d (α i)
def minus (own lk : List Nat) : List Nat := own.filter fun i => !(lk.contains i)
theorem mem_minus {own lk : List Nat} {i : Nat} : i ∈ minus own lk ↔ i ∈ own ∧ i ∉ lk := by
  unfold minus
  rw [List.mem_filter]
  simp
section
variable {K : PySem.W.Frag} {H H' : Hp} {Z₀ : Addr → Prop} {α : Nat → Addr} {own own' : List Nat} {δ : DEnv} {σ : L2.St}
theorem ZZ.mono (h : ∀ i ∈ own', i ∈ own) : ∀ a, ZZ Z₀ α own' a → ZZ Z₀ α own a := fun a q => by
  rcases q with q | ⟨i, hi, e⟩
  · exact .inl q
  · exact .inr ⟨i, h i hi, e⟩
theorem Top.mut {Z : Addr → Prop} {d : D} {a : Addr} (t : Top K H Z d a) : ∃ o, H a = some o ∧ Mut (some o) := by
  cases d with
  | lst ds => obtain ⟨vs, h, _⟩ := t; exact ⟨_, h, True.intro⟩
  | _ => exact False.elim t
theorem Top.ext {Z : Addr → Prop} {d : D} {a : Addr} (z : ZOk H Z) (t : Top K H Z d a) (e : Ext H H') : Top K H' Z d a := by
  cases d with
  | lst ds => obtain ⟨vs, h, r⟩ := t; exact ⟨vs, e _ _ h, r.ext z e⟩
  | _ => exact False.elim t
theorem Top.less {Z Z' : Addr → Prop} {d : D} {a : Addr} (z : ZOk H Z) (t : Top K H Z d a) (e : ∀ b, Z' b → Z b) : Top K H Z' d a := by
  cases d with
  | lst ds => obtain ⟨vs, h, r⟩ := t; exact ⟨vs, h, r.less z e⟩
  | _ => exact False.elim t
theorem Top.rep {Z Z' : Addr → Prop} {d : D} {a : Addr} (z : ZOk H Z) (t : Top K H Z d a) (e : ∀ b, Z' b → Z b) (n : ¬ Z' a) : Rep K H Z' d (.ref a) := by
  cases d with
  | lst ds => obtain ⟨vs, h, r⟩ := t; exact ⟨a, vs, rfl, h, n, r.less z e⟩
  | _ => exact False.elim t
theorem EnvOk.zok (E : EnvOk K Z₀ α own δ σ H) : ZOk H (ZZ Z₀ α own) := fun a q => by
  rcases q with q | ⟨i, hi, rfl⟩
  · exact E.z0 a q
  · obtain ⟨d, _, _, t⟩ := E.top i hi
    exact t.mut
theorem ZOk.sub {H : Hp} {Z Z' : Addr → Prop} (z : ZOk H Z) (h : ∀ a, Z' a → Z a) : ZOk H Z' := fun a q => z a (h a q)
theorem EnvOk.zsub (E : EnvOk K Z₀ α own δ σ H) (h : ∀ i ∈ own', i ∈ own) : ZOk H (ZZ Z₀ α own') := E.zok.sub (ZZ.mono h)
theorem EnvOk.ext (E : EnvOk K Z₀ α own δ σ H) (e : Ext H H') : EnvOk K Z₀ α own δ σ H' := by
  refine ⟨E.z0.ext e, E.nz0, E.inj, E.len, fun i d hi hd => ?_, fun i hi => ?_⟩
  · obtain ⟨v, h1, h2⟩ := E.free i d hi hd
    exact ⟨v, h1, h2.ext E.zok e⟩
  · obtain ⟨d, h1, h2, h3⟩ := E.top i hi
    exact ⟨d, h1, h2, h3.ext E.zok e⟩
theorem EnvOk.nz (E : EnvOk K Z₀ α own δ σ H) {i : Nat} (hi : i ∈ own) (h : ∀ j ∈ own', j ∈ own) (n : i ∉ own') : ¬ ZZ Z₀ α own' (α i) := fun q => by
  rcases q with q | ⟨j, hj, e⟩
  · exact E.nz0 i hi q
  · have := E.inj i hi j (h j hj) e
    subst this
    exact n hj
theorem EnvOk.weak (E : EnvOk K Z₀ α own δ σ H) (h : ∀ i ∈ own', i ∈ own) : EnvOk K Z₀ α own' δ σ H := by
  refine ⟨E.z0, fun i hi => E.nz0 i (h i hi), fun i hi j hj => E.inj i (h i hi) j (h j hj), E.len, fun i d hi hd => ?_, fun i hi => ?_⟩
  · by_cases ho : i ∈ own
    · obtain ⟨d', h1, h2, h3⟩ := E.top i ho
      rw [hd] at h1; cases h1
      exact ⟨_, h2, h3.rep E.zok (ZZ.mono h) (E.nz ho h hi)⟩
    · obtain ⟨v, h1, h2⟩ := E.free i d ho hd
      exact ⟨v, h1, h2.less E.zok (ZZ.mono h)⟩
  · obtain ⟨d, h1, h2, h3⟩ := E.top i (h i hi)
    exact ⟨d, h1, h2, h3.less E.zok (ZZ.mono h)⟩
/-- a slot's value, read without the ownership of the slots at lk -/
theorem EnvOk.read (E : EnvOk K Z₀ α own δ σ H) {i : Nat} {d : D} (hd : δ[i]? = some (some d)) (hi : i ∉ own') (h : ∀ j ∈ own', j ∈ own) : ∃ v, σ[i]? = some (some v) ∧ Rep K H (ZZ Z₀ α own') d v :=
  (E.weak h).free i d hi hd
theorem minus_sub {lk : List Nat} : ∀ i ∈ minus own lk, i ∈ own := fun i h => (mem_minus.mp h).1
theorem minus_sub2 {l m : List Nat} (h : ∀ i ∈ l, i ∈ m) : ∀ i ∈ minus own m, i ∈ minus own l := fun i q => by
  have := mem_minus.mp q
  exact mem_minus.mpr ⟨this.1, fun z => this.2 (h i z)⟩
/-- a value into a slot that is not owned behind it -/
theorem EnvOk.put (E : EnvOk K Z₀ α own δ σ H) {i : Nat} {d : D} {v : V} (hl : i < δ.length) (hi : i ∉ own) (r : Rep K H (ZZ Z₀ α own) d v) : EnvOk K Z₀ α own (δ.set i (some d)) (σ.set i (some v)) H := by
  refine ⟨E.z0, E.nz0, E.inj, by simp [E.len], fun j e hj he => ?_, fun j hj => ?_⟩
  · by_cases q : i = j
    · subst q
      rw [List.getElem?_set_self hl] at he
      cases he
      exact ⟨v, List.getElem?_set_self (by rw [E.len]; exact hl), r⟩
    · rw [List.getElem?_set_ne q] at he ⊢
      exact E.free j e hj he
  · have q : i ≠ j := fun z => hi (z ▸ hj)
    rw [List.getElem?_set_ne q, List.getElem?_set_ne q]
    exact E.top j hj
theorem EnvOk.unset (E : EnvOk K Z₀ α own δ σ H) {i : Nat} (hi : i ∉ own) : EnvOk K Z₀ α own (δ.set i none) (σ.set i none) H := by
  refine ⟨E.z0, E.nz0, E.inj, by simp [E.len], fun j e hj he => ?_, fun j hj => ?_⟩
  · by_cases q : i = j
    · subst q
      by_cases hl : i < δ.length
      · rw [List.getElem?_set_self hl] at he; cases he
      · rw [List.getElem?_eq_none (by simpa using hl)] at he; cases he
    · rw [List.getElem?_set_ne q] at he ⊢
      exact E.free j e hj he
  · have q : i ≠ j := fun z => hi (z ▸ hj)
    rw [List.getElem?_set_ne q, List.getElem?_set_ne q]
    exact E.top j hj
mutual
theorem Rep.avoid {a : Addr} {Z : Addr → Prop} (hn : H a = none) : ∀ (d : D) (v : V), Rep K H Z d v → Rep K H (fun b => Z b ∨ b = a) d v
  | .non, _, h => h
  | .bl _, _, h => h
  | .int _, _, h => h
  | .str _, _, h => h
  | .tup ds, _, h => by
    obtain ⟨b, vs, e, t, r⟩ := h
    refine ⟨b, vs, e, ?_, RepL.avoid hn ds vs r⟩
    rcases t with ⟨h, n⟩ | t
    · refine .inl ⟨h, fun q => ?_⟩
      rcases q with q | q
      · exact n q
      · subst q
        rcases h with h | ⟨_, h⟩
        · rw [hn] at h; cases h
        · rw [hn] at h; cases h
    · exact .inr t
  | .lst ds, _, h => by
    obtain ⟨b, vs, e, t, n, r⟩ := h
    refine ⟨b, vs, e, t, fun q => ?_, RepL.avoid hn ds vs r⟩
    rcases q with q | q
    · exact n q
    · subst q; rw [hn] at t; cases t
  | .scr ds, _, h => by
    obtain ⟨b, vs, e, t, r⟩ := h
    refine ⟨b, vs, e, ?_, RepL.avoid hn ds vs r⟩
    rcases t with ⟨h, n⟩ | t
    · refine .inl ⟨h, fun q => ?_⟩
      rcases q with q | q
      · exact n q
      · subst q
        rcases h with h | ⟨_, h⟩
        · rw [hn] at h; cases h
        · rw [hn] at h; cases h
    · exact .inr t
theorem RepL.avoid {a : Addr} {Z : Addr → Prop} (hn : H a = none) : ∀ (ds : List D) (vs : List V), RepL K H Z ds vs → RepL K H (fun b => Z b ∨ b = a) ds vs
  | [], _, h => h
  | d :: ds, _, h => by
    obtain ⟨v, r, e, h1, h2⟩ := h
    exact ⟨v, r, e, Rep.avoid hn d v h1, RepL.avoid hn ds r h2⟩
end
mutual
/-- what stood clear of Z stands, where all but Z was kept, and clear of what was not there -/
theorem Rep.step {H1 H2 : Hp} {Z Z' : Addr → Prop} (z : ZOk H1 Z) (hz : ∀ a, Z' a → Z a ∨ H1 a = none) (kp : Keeps Z H1 H2) : ∀ (d : D) (v : V), Rep K H1 Z d v → Rep K H2 Z' d v
  | .non, _, h => h
  | .bl _, _, h => h
  | .int _, _, h => h
  | .str _, _, h => h
  | .tup ds, _, h => by
    obtain ⟨b, vs, e, t, r⟩ := h
    refine ⟨b, vs, e, ?_, RepL.step z hz kp ds vs r⟩
    rcases t with ⟨h, n⟩ | t
    · have there : H1 b ≠ none := fun q => by
        rcases h with h | ⟨_, h⟩
        · rw [q] at h; cases h
        · rw [q] at h; cases h
      refine .inl ⟨?_, fun q => ?_⟩
      · rcases h with h | ⟨o, h⟩
        · exact .inl (kp _ _ n h)
        · exact .inr ⟨o, kp _ _ n h⟩
      · rcases hz _ q with q | q
        · exact n q
        · exact there q
    · exact .inr t
  | .lst ds, _, h => by
    obtain ⟨b, vs, e, t, n, r⟩ := h
    refine ⟨b, vs, e, kp _ _ n t, fun q => ?_, RepL.step z hz kp ds vs r⟩
    rcases hz _ q with q | q
    · exact n q
    · rw [q] at t; cases t
  | .scr ds, _, h => by
    obtain ⟨b, vs, e, t, r⟩ := h
    refine ⟨b, vs, e, ?_, RepL.step z hz kp ds vs r⟩
    rcases t with ⟨h, n⟩ | t
    · have there : H1 b ≠ none := fun q => by
        rcases h with h | ⟨_, h⟩
        · rw [q] at h; cases h
        · rw [q] at h; cases h
      refine .inl ⟨?_, fun q => ?_⟩
      · rcases h with h | ⟨o, h⟩
        · exact .inl (kp _ _ n h)
        · exact .inr ⟨o, kp _ _ n h⟩
      · rcases hz _ q with q | q
        · exact n q
        · exact there q
    · exact .inr t
theorem RepL.step {H1 H2 : Hp} {Z Z' : Addr → Prop} (z : ZOk H1 Z) (hz : ∀ a, Z' a → Z a ∨ H1 a = none) (kp : Keeps Z H1 H2) : ∀ (ds : List D) (vs : List V), RepL K H1 Z ds vs → RepL K H2 Z' ds vs
  | [], _, h => h
  | d :: ds, _, h => by
    obtain ⟨v, r, e, h1, h2⟩ := h
    exact ⟨v, r, e, Rep.step z hz kp d v h1, RepL.step z hz kp ds r h2⟩
end
theorem Top.avoid {a b : Addr} {Z : Addr → Prop} {d : D} (hn : H a = none) (t : Top K H Z d b) : Top K H (fun b => Z b ∨ b = a) d b := by
  cases d with
  | lst ds => obtain ⟨vs, h, r⟩ := t; exact ⟨vs, h, RepL.avoid hn _ _ r⟩
  | _ => exact False.elim t
theorem Top.iff {a : Addr} {Z Z' : Addr → Prop} {d : D} (z : ZOk H Z) (t : Top K H Z d a) (h : ∀ b, Z' b → Z b) : Top K H Z' d a := t.less z h
/-- a new object (at a, not there ahead) into a slot that owns it behind it -/
theorem EnvOk.putOwn (E : EnvOk K Z₀ α own δ σ H) {i : Nat} {d : D} {a : Addr} (hl : i < δ.length) (hi : i ∉ own) (e : Ext H H') (hna : H a = none) (t : Top K H' (fun b => ZZ Z₀ α own b ∨ b = a) d a) :
    EnvOk K Z₀ (fun j => if j = i then a else α j) (i :: own) (δ.set i (some d)) (σ.set i (some (.ref a))) H' := by
  have al : ∀ j ∈ own, (if j = i then a else α j) = α j := fun j hj => if_neg fun (z : j = i) => hi (z ▸ hj)
  have zq : ZOk H (ZZ Z₀ α own) := E.zok
  have zq' : ZOk H' (fun b => ZZ Z₀ α own b ∨ b = a) := fun b q => by
    rcases q with q | rfl
    · exact zq.ext e b q
    · exact t.mut
  have zz : ∀ b, ZZ Z₀ (fun j => if j = i then a else α j) (i :: own) b → (ZZ Z₀ α own b ∨ b = a) := fun b => by
    rintro (q | ⟨j, hj, q⟩)
    · exact .inl (.inl q)
    · rcases List.mem_cons.mp hj with rfl | hj
      · exact .inr (by simpa using q)
      · simp only [al j hj] at q
        exact .inl (.inr ⟨j, hj, q⟩)
  have nal : ∀ j ∈ own, α j ≠ a := fun j hj q => by
    obtain ⟨d', _, _, t'⟩ := E.top j hj
    obtain ⟨o, h1, _⟩ := t'.mut
    rw [q, hna] at h1; cases h1
  refine ⟨E.z0.ext e, fun j hj => ?_, fun j hj k hk q => ?_, by simp [E.len], fun j d' hj hd => ?_, fun j hj => ?_⟩
  · rcases List.mem_cons.mp hj with rfl | hj
    · simpa using E.z0.new hna
    · simp only [al j hj]; exact E.nz0 j hj
  · rcases List.mem_cons.mp hj with e1 | hj'
    · rcases List.mem_cons.mp hk with e2 | hk'
      · exact e1.trans e2.symm
      · subst e1
        simp only [al k hk', if_true] at q
        exact absurd q.symm (nal k hk')
    · rcases List.mem_cons.mp hk with e2 | hk'
      · subst e2
        simp only [al j hj', if_true] at q
        exact absurd q (nal j hj')
      · simp only [al j hj', al k hk'] at q
        exact E.inj j hj' k hk' q
  · have q : i ≠ j := fun z => hj (by rw [z]; exact List.mem_cons_self)
    rw [List.getElem?_set_ne q] at hd ⊢
    obtain ⟨v, h1, h2⟩ := E.free j d' (fun z => hj (List.mem_cons_of_mem _ z)) hd
    have h3 := Rep.avoid (a := a) hna _ _ h2
    refine ⟨v, h1, Rep.mono (fun b o u hb => ?_) (.of e) zz _ _ h3⟩
    rcases hb with hb | rfl
    · exact zq.nofrz b o u hb
    · rw [hna]; exact fun z => nomatch z
  · rcases List.mem_cons.mp hj with rfl | hj
    · refine ⟨d, List.getElem?_set_self hl, ?_, ?_⟩
      · rw [List.getElem?_set_self (by rw [E.len]; exact hl)]; simp
      · simpa using t.less zq' zz
    · have q : i ≠ j := fun z => hi (z ▸ hj)
      rw [List.getElem?_set_ne q, List.getElem?_set_ne q]
      obtain ⟨d', h1, h2, h3⟩ := E.top j hj
      refine ⟨d', h1, by simpa only [al j hj] using h2, ?_⟩
      simp only [al j hj]
      have h4 := Top.avoid (a := a) hna h3
      cases d' with
      | lst ds =>
        obtain ⟨vs, g, r⟩ := h4
        refine ⟨vs, e _ _ g, RepL.mono (fun b o u hb => ?_) (.of e) zz _ _ r⟩
        rcases hb with hb | rfl
        · exact zq.nofrz b o u hb
        · rw [hna]; exact fun z => nomatch z
      | _ => exact False.elim h4
end
end DL

set_option maxRecDepth 100001
set_option maxHeartbeats 1000001
namespace DL
open PySem PySem.Spec PyProof.Rows L2

/-- the law's constants -/
structure Cfg where
  P : Program
  w : World
  K : PySem.W.Frag
  mg : PySem.Str → Option Value
  base : Heap
  cv : String → Value
  xi : L2.St → Prop
/-- names of a body or a block -/
structure Sco where
  N : List PySem.Str
  sc : Scope
  fn : PySem.Str → Bool
  hot : Bool := false
  top : Bool := true
structure Fit (G : Cfg) (S : Sco) (k : Nat) (X : Cx) : Prop where
  prog : X.prog = G.P
  w : X.w = G.w
  K : X.K = G.K
  mg : X.mg = G.mg
  base : X.base = G.base
  N : X.N = S.N
  sc : X.env.scope = S.sc
  fn : X.fn = S.fn
  room' : S.hot = false → Room k X.A
  calm' : S.hot = false → X.calm = true
  xi' : S.hot = false → ∀ σ, G.xi σ
  tp' : S.top = true → X.stack = X.env :: X.outer ∧ X.env.frame = some X.env.locals
theorem Fit.room {G : Cfg} {S : Sco} {k : Nat} {X : Cx} (F : Fit G S k X) (h : S.hot = false) : Room k X.A := F.room' h
theorem Fit.calm {G : Cfg} {S : Sco} {k : Nat} {X : Cx} (F : Fit G S k X) (h : S.hot = false) : X.calm = true := F.calm' h
theorem Fit.xi {G : Cfg} {S : Sco} {k : Nat} {X : Cx} (F : Fit G S k X) (h : S.hot = false) : ∀ σ, G.xi σ := F.xi' h

section
variable (G : Cfg)
/-- a reading t computes f: own: the slots that own their lists; lk: those whose own list the value may hold -/
def SE (W : WX) (own lk : List Nat) (t : TE) (f : DEnv → R D) : Prop := ∀ (Z₀ : Addr → Prop) (α : Nat → Addr) (δ : DEnv) (σ : L2.St) (H : Hp) (Q : VK), EnvOk G.K Z₀ α own δ σ H → G.xi σ →
  (∀ d v H', f δ = .ok d → Ext H H' → Rep G.K H' (ZZ Z₀ α (minus own lk)) d v → Q v H') →
  (∀ x H', f δ = .err x → Ext H H' → W (G.cv x.cls) none σ H') → f δ ≠ .stk → t σ H Q
/-- .. to a new object -/
def SF (W : WX) (own lk : List Nat) (t : TE) (f : DEnv → R D) : Prop := ∀ (Z₀ : Addr → Prop) (α : Nat → Addr) (δ : DEnv) (σ : L2.St) (H : Hp) (Q : VK), EnvOk G.K Z₀ α own δ σ H → G.xi σ →
  (∀ d a H', f δ = .ok d → Ext H H' → H a = none → Top G.K H' (fun b => ZZ Z₀ α (minus own lk) b ∨ b = a) d a → Q (.ref a) H') →
  (∀ x H', f δ = .err x → Ext H H' → W (G.cv x.cls) none σ H') → f δ ≠ .stk → t σ H Q
def ST (W : WX) (own : List Nat) (t : TT) (f : DEnv → R Bool) : Prop := ∀ (Z₀ : Addr → Prop) (α : Nat → Addr) (δ : DEnv) (σ : L2.St) (H : Hp) (Q : Bool → Hp → Prop), EnvOk G.K Z₀ α own δ σ H → G.xi σ →
  (∀ d H', f δ = .ok d → Ext H H' → Q d H') →
  (∀ x H', f δ = .err x → Ext H H' → W (G.cv x.cls) none σ H') → f δ ≠ .stk → t σ H Q
def SA (W : WX) (own lk : List Nat) (t : TA) (f : DEnv → R (List D)) : Prop := ∀ (Z₀ : Addr → Prop) (α : Nat → Addr) (δ : DEnv) (σ : L2.St) (H : Hp) (Q : List V → Hp → Prop), EnvOk G.K Z₀ α own δ σ H → G.xi σ →
  (∀ d v H', f δ = .ok d → Ext H H' → RepL G.K H' (ZZ Z₀ α (minus own lk)) d v → Q v H') →
  (∀ x H', f δ = .err x → Ext H H' → W (G.cv x.cls) none σ H') → f δ ≠ .stk → t σ H Q
def DE (X : Cx) (W : WX) (own lk : List Nat) (e : Expr) (t : TE) (f : DEnv → R D) : Prop := PE X e t ∧ SE G W own lk t f
def DF (X : Cx) (W : WX) (own lk : List Nat) (e : Expr) (t : TE) (f : DEnv → R D) : Prop := PE X e t ∧ SF G W own lk t f
def DT (X : Cx) (W : WX) (own : List Nat) (e : Expr) (t : TT) (f : DEnv → R Bool) : Prop := PT X e t ∧ ST G W own t f
def DA (X : Cx) (W : WX) (own lk : List Nat) (es : List Expr) (t : TA) (f : DEnv → R (List D)) : Prop := PA X es t ∧ SA G W own lk t f
end

section
variable {G : Cfg} {W : WX} {own lk l1 l2 : List Nat} {t ta tb : TE} {f g : DEnv → R D}
theorem R.notstk_bind {α β : Type} {x : R α} {f : α → R β} (h : x.bind f ≠ .stk) : x ≠ .stk := fun e => by rw [e] at h; exact h rfl

/-- an operator's reading by values -/
def OpS (K : PySem.W.Frag) (h : D → D → R D) (r : R2) : Prop := ∀ (H : Hp) (Z : Addr → Prop) (x y : V) (d e : D) (Q : VK), ZOk H Z → Rep K H Z d x → Rep K H Z e y → (∃ c, h d e = .ok c ∧ ∀ v H', Ext H H' → Rep K H' Z c v → Q v H') → r x y H Q
theorem minus_l {i : Nat} (h : i ∈ minus own (l1 ++ l2)) : i ∈ minus own l1 := minus_sub2 (fun j hj => List.mem_append_left _ hj) i h
theorem minus_r {i : Nat} (h : i ∈ minus own (l1 ++ l2)) : i ∈ minus own l2 := minus_sub2 (fun j hj => List.mem_append_right _ hj) i h
/-- two values in a row -/
theorem SE.two (ha : SE G W own l1 ta f) (hb : SE G W own l2 tb g) {r : V → V → Hp → VK → Prop} {h : D → D → R D}
    (hr : ∀ (H : Hp) (Z : Addr → Prop) (x y : V) (d e : D) (Q : VK) (σ : L2.St), ZOk H Z → Rep G.K H Z d x → Rep G.K H Z e y → (∀ c v H', h d e = .ok c → Ext H H' → Rep G.K H' Z c v → Q v H') → (∀ z H', h d e = .err z → Ext H H' → W (G.cv z.cls) none σ H') → h d e ≠ .stk → r x y H Q) :
    SE G W own (l1 ++ l2) (fun σ H Q => ta σ H fun x H1 => tb σ H1 fun y H2 => r x y H2 Q) (fun δ => (f δ).bind fun d => (g δ).bind fun e => h d e) := by
  intro Z₀ α δ σ H Q E hX q qe ns
  dsimp only at q qe ns
  refine ha Z₀ α δ σ H _ E hX (fun d v H1 hf e1 r1 => ?_) (fun x H1 hf e1 => ?_) (R.notstk_bind ns)
  · rw [hf] at q qe ns
    simp only [R.bind_ok] at q qe ns
    have E1 := E.ext e1
    refine hb Z₀ α δ σ H1 _ E1 hX (fun d2 v2 H2 hg e2 r2 => ?_) (fun x H2 hg e2 => ?_) (R.notstk_bind ns)
    · rw [hg] at q qe ns
      simp only [R.bind_ok] at q qe ns
      have E2 := E1.ext e2
      have z1 : ZOk H1 (ZZ Z₀ α (minus own l1)) := E1.zsub minus_sub
      have z2 : ZOk H2 (ZZ Z₀ α (minus own l2)) := E2.zsub minus_sub
      have r1' := (r1.ext z1 e2).less (z1.ext e2) (ZZ.mono fun i hi => minus_l (l2 := l2) hi)
      have r2' := r2.less z2 (ZZ.mono fun i hi => minus_r (l1 := l1) hi)
      exact hr H2 _ v v2 d d2 Q σ (E2.zsub minus_sub) r1' r2' (fun c v H' hc e3 r3 => q c v H' hc ((e1.trans e2).trans e3) r3) (fun z H' hz e3 => qe z H' hz ((e1.trans e2).trans e3)) ns
    · rw [hg] at qe
      exact qe x H2 rfl (e1.trans e2)
  · rw [hf] at qe
    exact qe x H1 rfl e1
theorem SE.op (ha : SE G W own l1 ta f) (hb : SE G W own l2 tb g) {r : R2} {h : D → D → R D} (hr : OpS G.K h r) (he : ∀ d e z, h d e ≠ .err z) :
    SE G W own (l1 ++ l2) (tOp r ta tb) (fun δ => (f δ).bind fun d => (g δ).bind fun e => h d e) :=
  SE.two ha hb fun H Z x y d e Q σ z hx hy q qe ns => hr H Z x y d e Q z hx hy (by
    cases hh : h d e with
    | ok c => exact ⟨c, rfl, fun v H' => q c v H' hh⟩
    | err x => exact absurd hh (he d e x)
    | stk => exact absurd hh ns)
/-- one value -/
theorem SE.one (ha : SE G W own lk ta f) {r : V → Hp → VK → Prop} {h : D → R D}
    (hr : ∀ (H : Hp) (Z : Addr → Prop) (x : V) (d : D) (Q : VK), ZOk H Z → Rep G.K H Z d x → (∃ c, h d = .ok c ∧ ∀ v H', Ext H H' → Rep G.K H' Z c v → Q v H') → r x H Q) (he : ∀ d z, h d ≠ .err z) :
    SE G W own lk (fun σ H Q => ta σ H fun x H1 => r x H1 Q) (fun δ => (f δ).bind h) := by
  intro Z₀ α δ σ H Q E hX q qe ns
  dsimp only at q qe ns
  refine ha Z₀ α δ σ H _ E hX (fun d v H1 hf e1 r1 => ?_) (fun x H1 hf e1 => ?_) (R.notstk_bind ns)
  · rw [hf] at q qe ns
    simp only [R.bind_ok] at q qe ns
    refine hr H1 _ v d Q ((E.ext e1).zsub minus_sub) r1 ?_
    cases hh : h d with
    | ok c => exact ⟨c, rfl, fun v H' e2 r2 => q c v H' hh (e1.trans e2) r2⟩
    | err x => exact absurd hh (he d x)
    | stk => exact absurd hh ns
  · rw [hf] at qe
    exact qe x H1 rfl e1
/-- where the value cannot be changed nothing leaks -/
theorem SE.imm0 (ha : SE G W own lk t f) (hi : ∀ δ d, f δ = .ok d → imm d = true) : SE G W own [] t f := by
  intro Z₀ α δ σ H Q E hX q qe ns
  refine ha Z₀ α δ σ H Q E hX (fun d v H1 hf e1 r1 => ?_) qe ns
  exact q d v H1 hf e1 (Rep.imm ((E.ext e1).zsub minus_sub) d v (hi δ d hf) r1)
def chkImm (f : DEnv → R D) : DEnv → R D := fun δ => (f δ).bind fun d => if imm d = true then .ok d else .stk
theorem SE.chk (ha : SE G W own lk t f) : SE G W own [] t (chkImm f) := by
  intro Z₀ α δ σ H Q E hX q qe ns
  refine ha Z₀ α δ σ H Q E hX (fun d v H1 hf e1 r1 => ?_) (fun x H1 hf e1 => ?_) ?_
  · unfold chkImm at q ns
    rw [hf] at q ns
    simp only [R.bind_ok] at q ns
    by_cases hi : imm d = true
    · rw [if_pos hi] at q
      exact q d v H1 rfl e1 (Rep.imm ((E.ext e1).zsub minus_sub) d v hi r1)
    · rw [if_neg hi] at ns
      exact absurd rfl ns
  · refine qe x H1 ?_ e1
    unfold chkImm
    rw [hf]
    rfl
  · intro hf
    unfold chkImm at ns
    rw [hf] at ns
    exact ns rfl
theorem SF.se (h : SF G W own lk t f) : SE G W own lk t f := by
  intro Z₀ α δ σ H Q E hX q qe ns
  refine h Z₀ α δ σ H Q E hX (fun d a H1 hf e1 hn t1 => ?_) qe ns
  have z : ZOk H1 (fun b => ZZ Z₀ α (minus own lk) b ∨ b = a) := fun b hb => by
    rcases hb with hb | rfl
    · exact (E.ext e1).zsub minus_sub b hb
    · exact t1.mut
  exact q d _ H1 hf e1 (t1.rep z (fun b hb => .inl hb) ((E.zsub minus_sub).new hn))
/-- a new list whose parts cannot be changed -/
def chkFlat (f : DEnv → R D) : DEnv → R D := fun δ => (f δ).bind fun d => match d with
  | .lst ds => if immL ds = true then .ok (.lst ds) else .stk
  | _ => .stk
theorem SF.chk (ha : SF G W own lk t f) : SF G W own [] t (chkFlat f) := by
  intro Z₀ α δ σ H Q E hX q qe ns
  refine ha Z₀ α δ σ H Q E hX (fun d a H1 hf e1 hn t1 => ?_) (fun x H1 hf e1 => ?_) ?_
  · unfold chkFlat at q ns
    rw [hf] at q ns
    simp only [R.bind_ok] at q ns
    cases d with
    | lst ds =>
      simp only at q ns
      by_cases hi : immL ds = true
      · rw [if_pos hi] at q
        have z : ZOk H1 (fun b => ZZ Z₀ α (minus own []) b ∨ b = a) := fun b hb => by
          rcases hb with hb | rfl
          · exact (E.ext e1).zsub minus_sub b hb
          · exact t1.mut
        obtain ⟨vs, h1, h2⟩ := t1
        exact q _ a H1 rfl e1 hn ⟨vs, h1, RepL.imm z ds vs hi h2⟩
      · rw [if_neg hi] at ns
        exact absurd rfl ns
    | _ => exact absurd rfl ns
  · refine qe x H1 ?_ e1
    unfold chkFlat
    rw [hf]
    rfl
  · intro hf
    unfold chkFlat at ns
    rw [hf] at ns
    exact ns rfl
/-! ### names, constants -/
def nmD (i : Nat) : DEnv → R D := fun δ => match δ[i]? with
  | some (some d) => .ok d
  | _ => .stk
theorem SE.nm {i : Nat} : SE G W own [i] (tVar i) (nmD i) := by
  intro Z₀ α δ σ H Q E hX q qe ns
  unfold nmD at q ns
  cases hd : δ[i]? with
  | none => rw [hd] at ns; exact absurd rfl ns
  | some o =>
    cases o with
    | none => rw [hd] at ns; exact absurd rfl ns
    | some d =>
      rw [hd] at q
      obtain ⟨v, h1, h2⟩ := E.read (own' := minus own [i]) hd (fun h => (mem_minus.mp h).2 (by simp)) minus_sub
      exact ⟨v, h1, q d v H rfl (Same.refl H) h2⟩
/-- a name that owns nothing leaks nothing -/
theorem SE.nm0 {i : Nat} (hi : i ∉ own) : SE G W own [] (tVar i) (nmD i) := by
  intro Z₀ α δ σ H Q E hX q qe ns
  unfold nmD at q ns
  cases hd : δ[i]? with
  | none => rw [hd] at ns; exact absurd rfl ns
  | some o =>
    cases o with
    | none => rw [hd] at ns; exact absurd rfl ns
    | some d =>
      rw [hd] at q
      obtain ⟨v, h1, h2⟩ := E.read (own' := minus own []) hd (fun h => hi (mem_minus.mp h).1) minus_sub
      exact ⟨v, h1, q d v H rfl (Same.refl H) h2⟩
def cD (d : D) : DEnv → R D := fun _ => .ok d
theorem SE.c {v : V} {d : D} (h : ∀ H Z, Rep G.K H Z d v) : SE G W own [] (tC v) (cD d) := by
  intro Z₀ α δ σ H Q E hX q qe ns
  exact q d v H rfl (Same.refl H) (h _ _)
end

section
variable {G : Cfg} {S : Sco} {k : Nat} {X : Cx} {W : WX} {own : List Nat} {pos : Pos}
theorem d_nm {i : Nat} {x : PySem.Str} (F : Fit G S k X) (hN : S.N[i]? = some x) (hv : Vis S.sc x) (h1 : (x == ("__debug__" : PySem.Str)) = false := by decide) (h2 : (x == ("__classdict__" : PySem.Str)) = false := by decide) :
    DE G X W own [i] (.Name x pos) (tVar i) (nmD i) := ⟨pe_var (by rw [F.N]; exact hN) (by rw [F.sc]; exact hv) h1 h2, SE.nm⟩
theorem d_nm0 {i : Nat} {x : PySem.Str} (F : Fit G S k X) (hN : S.N[i]? = some x) (hv : Vis S.sc x) (ho : i ∉ own) (h1 : (x == ("__debug__" : PySem.Str)) = false := by decide) (h2 : (x == ("__classdict__" : PySem.Str)) = false := by decide) :
    DE G X W own [] (.Name x pos) (tVar i) (nmD i) := ⟨pe_var (by rw [F.N]; exact hN) (by rw [F.sc]; exact hv) h1 h2, SE.nm0 ho⟩
theorem d_int {i : Int} {j : Nat} : DE G X W own [] (.Constant (.int i) j pos) (tC (.int i)) (cD (.int i)) := ⟨pe_int, SE.c fun _ _ => rfl⟩
theorem d_bl {i : Bool} {j : Nat} : DE G X W own [] (.Constant (.bool i) j pos) (tC (.bl i)) (cD (.bl i)) := ⟨pe_bl, SE.c fun _ _ => rfl⟩
theorem d_non {j : Nat} : DE G X W own [] (.Constant .none j pos) (tC .non) (cD .non) := ⟨pe_non, SE.c fun _ _ => rfl⟩
theorem d_str {i : PySem.Str} {j : Nat} : DE G X W own [] (.Constant (.str i) j pos) (tC (.str i)) (cD (.str i)) := ⟨pe_str, SE.c fun _ _ => rfl⟩
/-- a constant of the module -/
theorem d_glob {x : PySem.Str} {v : V} {u : Value} {d : D} (F : Fit G S k X) (hg : S.sc.names.lookup x = some .globalImplicit) (hm : G.mg x = some u) (r : RelV v u) (h : ∀ H Z, Rep G.K H Z d v) (hd : (x == ("__debug__" : PySem.Str)) = false := by decide) :
    DE G X W own [] (.Name x pos) (tC v) (cD d) := ⟨pe_glob (by show X.env.scope.names.lookup x = _; rw [F.sc]; exact hg) (by rw [F.mg]; exact hm) r hd, SE.c h⟩
end
end DL

set_option maxRecDepth 100001
set_option maxHeartbeats 1000001
namespace DL
open PySem PySem.Spec PyProof.Rows L2

def b2 (h : D → D → R D) (f g : DEnv → R D) : DEnv → R D := fun δ => (f δ).bind fun d => (g δ).bind fun e => h d e
def u1 (h : D → R D) (f : DEnv → R D) : DEnv → R D := fun δ => (f δ).bind h

/-! ### arithmetic -/
def addD : D → D → R D
  | .int i, .int j => .ok (.int (i + j))
  | .int i, .bl k => .ok (.int (i + if k then 1 else 0))
  | .str x, .str y => if x.length + y.length ≤ sizeLine then .ok (.str (x ++ y)) else .stk
  | .tup xs, .tup ys => if xs.length + ys.length ≤ sizeLine then .ok (.tup (xs ++ ys)) else .stk
  | _, _ => .stk
def catD : D → D → R D
  | .lst xs, .lst ys => if xs.length + ys.length ≤ sizeLine then .ok (.lst (xs ++ ys)) else .stk
  | _, _ => .stk
def subD : D → D → R D
  | .int i, .int j => .ok (.int (i - j))
  | _, _ => .stk
def mulOk (i j : Int) : Bool := (decide (-(2 ^ 64) < i) && decide (i < 2 ^ 64)) || (decide (-(2 ^ 64) < j) && decide (j < 2 ^ 64)) || decide (i.natAbs.log2 + j.natAbs.log2 < 1000000)
def mulD : D → D → R D
  | .int i, .int j => if mulOk i j = true then .ok (.int (i * j)) else .stk
  | _, _ => .stk
def repD : D → D → R D
  | .lst xs, .int k => if -(2 ^ 63) ≤ k ∧ k < 2 ^ 63 ∧ xs.length * k.toNat ≤ sizeLine then .ok (.lst (List.replicate k.toNat xs).flatten) else .stk
  | _, _ => .stk
def divOk (j : Int) : Bool := decide (j ≠ 0) && decide (j.natAbs.log2 < 9000)
def fdivD : D → D → R D
  | .int i, .int j => if divOk j = true then .ok (.int (i.fdiv j)) else .stk
  | _, _ => .stk
def modD : D → D → R D
  | .int i, .int j => if j ≠ 0 then .ok (.int (i.fmod j)) else .stk
  | _, _ => .stk
def powD : D → D → R D
  | .int i, .int j => if 0 ≤ j ∧ j ≤ 1000000 ∧ i.natAbs < 2 ^ 64 then .ok (.int (i ^ j.toNat)) else .stk
  | _, _ => .stk
def negD : D → R D
  | .int i => .ok (.int (-i))
  | _ => .stk
/-! ### comparisons -/
mutual
def shp : D → Nat → Bool
  | .tup ds, n + 1 => shpL ds n
  | .lst ds, n + 1 => shpL ds n
  | .scr ds, n + 1 => shpL ds n
  | .tup _, 0 => false
  | .lst _, 0 => false
  | .scr _, 0 => false
  | .str x, _ => PyData.strOk x
  | .non, _ => true
  | .bl _, _ => true
  | .int _, _ => true
def shpL : List D → Nat → Bool
  | [], _ => true
  | d :: ds, n => shp d n && shpL ds n
end
def eqv (d e : D) : Bool := PyData.eqv (toPy d) (toPy e)
def eqD (d e : D) : R D := if shp d 8 = true ∧ shp e 8 = true then .ok (.bl (eqv d e)) else .stk
def neD (d e : D) : R D := if shp d 8 = true ∧ shp e 8 = true then .ok (.bl (!eqv d e)) else .stk
def ltD : D → D → R D
  | .int i, .int j => .ok (.bl (decide (i < j)))
  | _, _ => .stk
def leD : D → D → R D
  | .int i, .int j => .ok (.bl (decide (i ≤ j)))
  | _, _ => .stk
def gtD : D → D → R D
  | .int i, .int j => .ok (.bl (decide (j < i)))
  | _, _ => .stk
def geD : D → D → R D
  | .int i, .int j => .ok (.bl (decide (j ≤ i)))
  | _, _ => .stk
def flat : D → Bool
  | .non => true | .bl _ => true | .int _ => true | .str _ => true
  | _ => false
def hasD (d : D) : D → R Bool
  | .lst ds => if shp d 8 = true ∧ shpL ds 8 = true then .ok (ds.any fun z => eqv z d) else .stk
  | .tup ds => if flat d = true ∧ ds.all flat = true then .ok (ds.any fun z => eqv z d) else .stk
  | _ => .stk
def inD (d e : D) : R D := (hasD d e).bind fun b => .ok (.bl b)
def ninD (d e : D) : R D := (hasD d e).bind fun b => .ok (.bl (!b))
def isND : D → R D
  | .non => .ok (.bl true)
  | _ => .ok (.bl false)
def notND : D → R D
  | .non => .ok (.bl false)
  | _ => .ok (.bl true)
def isBD : D → D → R D
  | .bl a, .bl b => .ok (.bl (decide (a = b)))
  | _, _ => .stk
def notBD : D → D → R D
  | .bl a, .bl b => .ok (.bl (!decide (a = b)))
  | _, _ => .stk

section
variable {K : PySem.W.Frag} {H : Hp} {Z : Addr → Prop}
theorem Rep.int {i : Int} {v : V} (h : Rep K H Z (.int i) v) : v = .int i := h
theorem Rep.bl {i : Bool} {v : V} (h : Rep K H Z (.bl i) v) : v = .bl i := h
theorem Rep.str {i : PySem.Str} {v : V} (h : Rep K H Z (.str i) v) : v = .str i := h
theorem Rep.non {v : V} (h : Rep K H Z .non v) : v = .non := h
end

/-! ### the rules of the operators, joined -/
section
variable {X : Cx}
theorem op_mulA : OpR X (binaryOp .Mult) (rI (fun i j => mulOk i j = true) fun i j => .int (i * j)) := by
  have h := (op_mul (X := X)).or (op_mulW (X := X))
  intro pins s σ H x y v u Q I rx ry q
  refine h pins s σ H x y v u Q I rx ry ?_
  obtain ⟨i, j, e1, e2, hc, q⟩ := q
  unfold mulOk at hc
  simp only [Bool.or_eq_true, Bool.and_eq_true, decide_eq_true_eq] at hc
  rcases hc with (hc | hc) | hc
  · exact .inl ⟨i, j, e1, e2, .inl hc, q⟩
  · exact .inl ⟨i, j, e1, e2, .inr hc, q⟩
  · exact .inr ⟨i, j, e1, e2, hc, q⟩
theorem op_fdivA : OpR X (binaryOp .FloorDiv) (rI (fun _ j => divOk j = true) fun i j => .int (i.fdiv j)) := opI fun i j _ _ _ _ _ hc q => by
  unfold divOk at hc
  simp only [Bool.and_eq_true, decide_eq_true_eq] at hc
  exact floordiv_int hc.1 q (.inl (PyProof.noPylong_of_log2 hc.2))
end

def rAddA (K : PySem.W.Frag) : R2 := fun x y H Q => rI0 (fun i j => .int (i + j)) x y H Q ∨ (∃ i k, x = .int i ∧ y = .bl k ∧ Q (.int (i + b2i k)) H) ∨ (∃ i j, x = .str i ∧ y = .str j ∧ i.length + j.length ≤ sizeLine ∧ Q (.str (i ++ j)) H) ∨ rCatA K x y H Q
theorem op_addA {X : Cx} : OpR X (binaryOp .Add) (rAddA X.K) := op_add.or (op_add_ib.or (op_add_str.or op_catA))
section
variable {K : PySem.W.Frag}
theorem os_add : OpS K addD (rAddA K) := by
  intro H Z x y d e Q z hx hy q
  obtain ⟨c, hc, q⟩ := q
  unfold addD at hc
  split at hc
  · cases hc; cases hx.int; cases hy.int
    exact .inl ⟨_, _, rfl, rfl, q _ H (Same.refl H) rfl⟩
  · cases hc; cases hx.int; cases hy.bl
    exact .inr (.inl ⟨_, _, rfl, rfl, q _ H (Same.refl H) rfl⟩)
  · split at hc
    · rename_i h; cases hc; cases hx.str; cases hy.str
      exact .inr (.inr (.inl ⟨_, _, rfl, rfl, h, q _ H (Same.refl H) rfl⟩))
    · cases hc
  · split at hc
    · rename_i xs ys h
      cases hc
      obtain ⟨a, vs, rfl, ta, ra⟩ := hx
      obtain ⟨b, us, rfl, tb, rb⟩ := hy
      refine .inr (.inr (.inr ⟨a, b, vs, us, rfl, rfl, ta.sqT, tb.sqT, by rw [ra.len, rb.len]; exact h, fun e => ?_, fun e1 e2 => ?_, fun _ _ p hp => ?_⟩))
      · subst e
        have : xs = [] := List.eq_nil_of_length_eq_zero ra.len.symm
        subst this
        exact q _ H (Same.refl H) ⟨b, us, rfl, tb, rb⟩
      · subst e2
        have : ys = [] := List.eq_nil_of_length_eq_zero rb.len.symm
        subst this
        rw [List.append_nil] at q
        exact q _ H (Same.refl H) ⟨a, vs, rfl, ta, ra⟩
      · exact q _ _ (ext_upd hp) ⟨p, vs ++ us, rfl, .inl ⟨.inl upd_same, z.new hp⟩, (repL_upd z hp ra).app (repL_upd z hp rb)⟩
    · cases hc
  · cases hc
theorem os_cat : OpS K catD rCat := by
  intro H Z x y d e Q z hx hy q
  obtain ⟨c, hc, q⟩ := q
  unfold catD at hc
  split at hc
  · split at hc
    · rename_i h
      cases hc
      obtain ⟨a, vs, rfl, ta, _, ra⟩ := hx
      obtain ⟨b, us, rfl, tb, _, rb⟩ := hy
      exact ⟨a, b, vs, us, rfl, rfl, ta, tb, by rw [ra.len, rb.len]; exact h, fun p hp => q _ _ (ext_upd hp) ⟨p, vs ++ us, rfl, upd_same, z.new hp, (repL_upd z hp ra).app (repL_upd z hp rb)⟩⟩
    · cases hc
  · cases hc
theorem os_sub : OpS K subD (rI0 fun i j => .int (i - j)) := by
  intro H Z x y d e Q z hx hy q
  obtain ⟨c, hc, q⟩ := q
  unfold subD at hc
  split at hc
  · cases hc; cases hx.int; cases hy.int
    exact ⟨_, _, rfl, rfl, q _ H (Same.refl H) rfl⟩
  · cases hc
theorem os_mul : OpS K mulD (rI (fun i j => mulOk i j = true) fun i j => .int (i * j)) := by
  intro H Z x y d e Q z hx hy q
  obtain ⟨c, hc, q⟩ := q
  unfold mulD at hc
  split at hc
  · split at hc
    · rename_i h; cases hc; cases hx.int; cases hy.int
      exact ⟨_, _, rfl, rfl, h, q _ H (Same.refl H) rfl⟩
    · cases hc
  · cases hc
theorem os_rep : OpS K repD rRep := by
  intro H Z x y d e Q z hx hy q
  obtain ⟨c, hc, q⟩ := q
  unfold repD at hc
  split at hc
  · split at hc
    · rename_i xs k h
      cases hc
      obtain ⟨a, vs, rfl, ta, _, ra⟩ := hx
      cases hy.int
      refine ⟨a, k, vs, rfl, rfl, ta, h.1, h.2.1, by rw [ra.len]; exact h.2.2, fun p hp => q _ _ (ext_upd hp) ⟨p, _, rfl, upd_same, z.new hp, ?_⟩⟩
      have rr : ∀ (H : Hp) (n : Nat), RepL K H Z xs vs → RepL K H Z (List.replicate n xs).flatten (List.replicate n vs).flatten := fun H n r => by
        induction n with
        | zero => rfl
        | succ n ih =>
          rw [List.replicate_succ, List.replicate_succ, List.flatten_cons, List.flatten_cons]
          exact r.app ih
      exact rr _ _ (repL_upd z hp ra)
    · cases hc
  · cases hc
theorem os_fdiv : OpS K fdivD (rI (fun _ j => divOk j = true) fun i j => .int (i.fdiv j)) := by
  intro H Z x y d e Q z hx hy q
  obtain ⟨c, hc, q⟩ := q
  unfold fdivD at hc
  split at hc
  · split at hc
    · rename_i h; cases hc; cases hx.int; cases hy.int
      exact ⟨_, _, rfl, rfl, h, q _ H (Same.refl H) rfl⟩
    · cases hc
  · cases hc
theorem os_mod : OpS K modD (rI (fun _ j => j ≠ 0) fun i j => .int (i.fmod j)) := by
  intro H Z x y d e Q z hx hy q
  obtain ⟨c, hc, q⟩ := q
  unfold modD at hc
  split at hc
  · split at hc
    · rename_i h; cases hc; cases hx.int; cases hy.int
      exact ⟨_, _, rfl, rfl, h, q _ H (Same.refl H) rfl⟩
    · cases hc
  · cases hc
theorem os_pow : OpS K powD (rI CPow fun i j => .int (i ^ j.toNat)) := by
  intro H Z x y d e Q z hx hy q
  obtain ⟨c, hc, q⟩ := q
  unfold powD at hc
  split at hc
  · split at hc
    · rename_i h; cases hc; cases hx.int; cases hy.int
      exact ⟨_, _, rfl, rfl, h, q _ H (Same.refl H) rfl⟩
    · cases hc
  · cases hc
theorem os_cmpI {h : D → D → R D} {p : Int → Int → Bool} (e : ∀ d e c, h d e = .ok c → ∃ i j, d = .int i ∧ e = .int j ∧ c = .bl (p i j)) : OpS K h (rI0 fun i j => .bl (p i j)) := by
  intro H Z x y d e' Q z hx hy q
  obtain ⟨c, hc, q⟩ := q
  obtain ⟨i, j, rfl, rfl, rfl⟩ := e _ _ _ hc
  cases hx.int; cases hy.int
  exact ⟨_, _, rfl, rfl, q _ H (Same.refl H) rfl⟩
theorem os_lt : OpS K ltD (rI0 fun i j => .bl (decide (i < j))) := os_cmpI fun d e c h => by
  unfold ltD at h
  split at h
  · cases h; exact ⟨_, _, rfl, rfl, rfl⟩
  · cases h
theorem os_le : OpS K leD (rI0 fun i j => .bl (decide (i ≤ j))) := os_cmpI fun d e c h => by
  unfold leD at h
  split at h
  · cases h; exact ⟨_, _, rfl, rfl, rfl⟩
  · cases h
theorem os_gt : OpS K gtD (rI0 fun i j => .bl (decide (j < i))) := os_cmpI fun d e c h => by
  unfold gtD at h
  split at h
  · cases h; exact ⟨_, _, rfl, rfl, rfl⟩
  · cases h
theorem os_ge : OpS K geD (rI0 fun i j => .bl (decide (j ≤ i))) := os_cmpI fun d e c h => by
  unfold geD at h
  split at h
  · cases h; exact ⟨_, _, rfl, rfl, rfl⟩
  · cases h
end
/-! ### == at any depth -/
mutual
theorem shp_lay : ∀ (d : D) (n : Nat), shp d n = true → PyData.canLay0 (toPy d) = true
  | .non, _, _ => by simp [toPy, PyData.canLay0]
  | .bl _, _, _ => by simp [toPy, PyData.canLay0]
  | .int _, _, _ => by simp [toPy, PyData.canLay0]
  | .str x, _, h => by simpa [toPy, PyData.canLay0, shp] using h
  | .tup ds, n + 1, h => by
    rw [shp] at h
    simpa [toPy, PyData.canLay0] using shpL_lay ds n h
  | .lst ds, n + 1, h => by
    rw [shp] at h
    simpa [toPy, PyData.canLay0] using shpL_lay ds n h
  | .scr ds, n + 1, h => by
    rw [shp] at h
    simpa [toPy, PyData.canLay0] using shpL_lay ds n h
  | .tup _, 0, h => by simp [shp] at h
  | .lst _, 0, h => by simp [shp] at h
  | .scr _, 0, h => by simp [shp] at h
theorem shpL_lay : ∀ (ds : List D) (n : Nat), shpL ds n = true → PyData.canLayAll0 (toPyL ds) = true
  | [], _, _ => by simp [toPyL, PyData.canLayAll0]
  | d :: ds, n, h => by
    rw [shpL, Bool.and_eq_true] at h
    simp [toPyL, PyData.canLayAll0, shp_lay d n h.1, shpL_lay ds n h.2]
end
mutual
theorem shp_dep : ∀ (d : D) (n : Nat), shp d n = true → PyData.depth (toPy d) ≤ n + 1
  | .non, _, _ => by simp [toPy, PyData.depth]
  | .bl _, _, _ => by simp [toPy, PyData.depth]
  | .int _, _, _ => by simp [toPy, PyData.depth]
  | .str x, _, h => by simp [toPy, PyData.depth]
  | .tup ds, n + 1, h => by
    rw [shp] at h
    have := shpL_dep ds n h
    simp [toPy, PyData.depth]; omega
  | .lst ds, n + 1, h => by
    rw [shp] at h
    have := shpL_dep ds n h
    simp [toPy, PyData.depth]; omega
  | .scr ds, n + 1, h => by
    rw [shp] at h
    have := shpL_dep ds n h
    simp [toPy, PyData.depth]; omega
  | .tup _, 0, h => by simp [shp] at h
  | .lst _, 0, h => by simp [shp] at h
  | .scr _, 0, h => by simp [shp] at h
theorem shpL_dep : ∀ (ds : List D) (n : Nat), shpL ds n = true → PyData.depthAll (toPyL ds) ≤ n + 1
  | [], _, _ => by simp [toPyL, PyData.depthAll]
  | d :: ds, n, h => by
    rw [shpL, Bool.and_eq_true] at h
    have h1 := shp_dep d n h.1
    have h2 := shpL_dep ds n h.2
    simp [toPyL, PyData.depthAll]; omega
end
theorem shp_shaped {d : D} {n : Nat} (h : shp d n = true) (hn : n ≤ 63) : SeqAt.shaped (toPy d) = true := by
  show (_ && _) = true
  rw [Bool.and_eq_true]
  refine ⟨shp_lay d n h, ?_⟩
  have := shp_dep d n h
  simp; omega
end DL

set_option maxRecDepth 100001
set_option maxHeartbeats 1000001
namespace DL
open PySem PySem.Spec PyProof.Rows L2

section
variable {G : Cfg} {S : Sco} {k : Nat} {X : Cx} {W : WX} {own lk l1 l2 : List Nat} {pos : Pos} {a b : Expr} {ta tb : TE} {f g : DEnv → R D}

local macro_rules | `(tactic| walk_at "noerr") => `(tactic| (intros; intro h; repeat (first | contradiction | (split at h) | (cases h))))

theorem noerr_add (d e : D) (z : Exn) : addD d e ≠ .err z := by
  intro h; unfold addD at h; repeat (first | contradiction | split at h)
theorem noerr_cat (d e : D) (z : Exn) : catD d e ≠ .err z := by
  intro h; unfold catD at h; repeat (first | contradiction | split at h)
theorem noerr_sub (d e : D) (z : Exn) : subD d e ≠ .err z := by
  intro h; unfold subD at h; repeat (first | contradiction | split at h)
theorem noerr_mul (d e : D) (z : Exn) : mulD d e ≠ .err z := by
  intro h; unfold mulD at h; repeat (first | contradiction | split at h)
theorem noerr_rep (d e : D) (z : Exn) : repD d e ≠ .err z := by
  intro h; unfold repD at h; repeat (first | contradiction | split at h)
theorem noerr_fdiv (d e : D) (z : Exn) : fdivD d e ≠ .err z := by
  intro h; unfold fdivD at h; repeat (first | contradiction | split at h)
theorem noerr_mod (d e : D) (z : Exn) : modD d e ≠ .err z := by
  intro h; unfold modD at h; repeat (first | contradiction | split at h)
theorem noerr_pow (d e : D) (z : Exn) : powD d e ≠ .err z := by
  intro h; unfold powD at h; repeat (first | contradiction | split at h)
theorem noerr_neg (d : D) (z : Exn) : negD d ≠ .err z := by
  intro h; unfold negD at h; repeat (first | contradiction | split at h)
theorem noerr_lt (d e : D) (z : Exn) : ltD d e ≠ .err z := by
  intro h; unfold ltD at h; repeat (first | contradiction | split at h)
theorem noerr_le (d e : D) (z : Exn) : leD d e ≠ .err z := by
  intro h; unfold leD at h; repeat (first | contradiction | split at h)
theorem noerr_gt (d e : D) (z : Exn) : gtD d e ≠ .err z := by
  intro h; unfold gtD at h; repeat (first | contradiction | split at h)
theorem noerr_ge (d e : D) (z : Exn) : geD d e ≠ .err z := by
  intro h; unfold geD at h; repeat (first | contradiction | split at h)
theorem noerr_eq (d e : D) (z : Exn) : eqD d e ≠ .err z := by
  intro h; unfold eqD at h; repeat (first | contradiction | split at h)
theorem noerr_ne (d e : D) (z : Exn) : neD d e ≠ .err z := by
  intro h; unfold neD at h; repeat (first | contradiction | split at h)
theorem noerr_has (d e : D) (z : Exn) : hasD d e ≠ .err z := by
  intro h; unfold hasD at h; repeat (first | contradiction | split at h)
theorem noerr_in (d e : D) (z : Exn) : inD d e ≠ .err z := by
  intro h; unfold inD at h
  cases q : hasD d e with
  | ok b => rw [q] at h; cases h
  | err x => exact noerr_has d e x q
  | stk => rw [q] at h; cases h
theorem noerr_nin (d e : D) (z : Exn) : ninD d e ≠ .err z := by
  intro h; unfold ninD at h
  cases q : hasD d e with
  | ok b => rw [q] at h; cases h
  | err x => exact noerr_has d e x q
  | stk => rw [q] at h; cases h

theorem imm_b2 {h : D → D → R D} (hi : ∀ d e c, h d e = .ok c → imm c = true) : ∀ δ d, b2 h f g δ = .ok d → imm d = true := by
  intro δ d q
  unfold b2 at q
  cases e1 : f δ with
  | ok x =>
    rw [e1] at q
    simp only [R.bind_ok] at q
    cases e2 : g δ with
    | ok y => rw [e2] at q; exact hi _ _ _ q
    | err _ => rw [e2] at q; cases q
    | stk => rw [e2] at q; cases q
  | err _ => rw [e1] at q; cases q
  | stk => rw [e1] at q; cases q
theorem imm_u1 {h : D → R D} (hi : ∀ d c, h d = .ok c → imm c = true) : ∀ δ d, u1 h f δ = .ok d → imm d = true := by
  intro δ d q
  unfold u1 at q
  cases e1 : f δ with
  | ok x => rw [e1] at q; exact hi _ _ q
  | err _ => rw [e1] at q; cases q
  | stk => rw [e1] at q; cases q
/-- an operator whose value is a number or a truth value -/
theorem DE.opI {op : Operator} {r : R2} {h : D → D → R D} (ho : OpR X (binaryOp op) r) (os : OpS G.K h r) (ne : ∀ d e z, h d e ≠ .err z) (hi : ∀ d e c, h d e = .ok c → imm c = true) (ha : DE G X W own l1 a ta f) (hb : DE G X W own l2 b tb g) :
    DE G X W own [] (.BinOp a op b pos) (tOp r ta tb) (b2 h f g) := ⟨pe_op ho ha.1 hb.1, (SE.op ha.2 hb.2 os ne).imm0 (imm_b2 hi)⟩
theorem DE.opA {op : Operator} {r : R2} {h : D → D → R D} (ho : OpR X (binaryOp op) r) (os : OpS G.K h r) (ne : ∀ d e z, h d e ≠ .err z) (ha : DE G X W own l1 a ta f) (hb : DE G X W own l2 b tb g) :
    DE G X W own (l1 ++ l2) (.BinOp a op b pos) (tOp r ta tb) (b2 h f g) := ⟨pe_op ho ha.1 hb.1, SE.op ha.2 hb.2 os ne⟩
theorem d_add (F : Fit G S k X) (ha : DE G X W own l1 a ta f) (hb : DE G X W own l2 b tb g) : DE G X W own (l1 ++ l2) (.BinOp a .Add b pos) (tOp (rAddA G.K) ta tb) (b2 addD f g) :=
  .opA (F.K ▸ op_addA) os_add noerr_add ha hb
theorem d_sub (ha : DE G X W own l1 a ta f) (hb : DE G X W own l2 b tb g) : DE G X W own [] (.BinOp a .Sub b pos) (tOp (rI0 fun i j => .int (i - j)) ta tb) (b2 subD f g) :=
  .opI op_sub os_sub noerr_sub (by intro d e c h; unfold subD at h; split at h <;> cases h; rfl) ha hb
theorem d_mul (ha : DE G X W own l1 a ta f) (hb : DE G X W own l2 b tb g) : DE G X W own [] (.BinOp a .Mult b pos) (tOp (rI (fun i j => mulOk i j = true) fun i j => .int (i * j)) ta tb) (b2 mulD f g) :=
  .opI op_mulA os_mul noerr_mul (by intro d e c h; unfold mulD at h; split at h <;> (try split at h) <;> cases h; rfl) ha hb
theorem d_fdiv (ha : DE G X W own l1 a ta f) (hb : DE G X W own l2 b tb g) : DE G X W own [] (.BinOp a .FloorDiv b pos) (tOp (rI (fun _ j => divOk j = true) fun i j => .int (i.fdiv j)) ta tb) (b2 fdivD f g) :=
  .opI op_fdivA os_fdiv noerr_fdiv (by intro d e c h; unfold fdivD at h; split at h <;> (try split at h) <;> cases h; rfl) ha hb
theorem d_mod (ha : DE G X W own l1 a ta f) (hb : DE G X W own l2 b tb g) : DE G X W own [] (.BinOp a .Mod b pos) (tOp (rI (fun _ j => j ≠ 0) fun i j => .int (i.fmod j)) ta tb) (b2 modD f g) :=
  .opI op_modN os_mod noerr_mod (by intro d e c h; unfold modD at h; split at h <;> (try split at h) <;> cases h; rfl) ha hb
theorem d_pow (ha : DE G X W own l1 a ta f) (hb : DE G X W own l2 b tb g) : DE G X W own [] (.BinOp a .Pow b pos) (tOp (rI CPow fun i j => .int (i ^ j.toNat)) ta tb) (b2 powD f g) :=
  .opI op_pow os_pow noerr_pow (by intro d e c h; unfold powD at h; split at h <;> (try split at h) <;> cases h; rfl) ha hb
/-- two lists joined: a new one -/
theorem SF.op (ha : SE G W own l1 ta f) (hb : SE G W own l2 tb g) {r : R2} {h : D → D → R D} (ne : ∀ d e z, h d e ≠ .err z)
    (hr : ∀ (H : Hp) (Z : Addr → Prop) (x y : V) (d e : D) (Q : VK), ZOk H Z → Rep G.K H Z d x → Rep G.K H Z e y → (∃ c, h d e = .ok c ∧ ∀ p H', Ext H H' → H p = none → Top G.K H' (fun b => Z b ∨ b = p) c p → Q (.ref p) H') → r x y H Q) :
    SF G W own (l1 ++ l2) (tOp r ta tb) (b2 h f g) := by
  intro Z₀ α δ σ H Q E hX q qe ns
  unfold b2 at q qe ns
  refine ha Z₀ α δ σ H _ E hX (fun d v H1 hf e1 r1 => ?_) (fun x H1 hf e1 => ?_) (R.notstk_bind ns)
  · rw [hf] at q qe ns
    simp only [R.bind_ok] at q qe ns
    have E1 := E.ext e1
    refine hb Z₀ α δ σ H1 _ E1 hX (fun d2 v2 H2 hg e2 r2 => ?_) (fun x H2 hg e2 => ?_) (R.notstk_bind ns)
    · rw [hg] at q qe ns
      simp only [R.bind_ok] at q qe ns
      have E2 := E1.ext e2
      have z1 : ZOk H1 (ZZ Z₀ α (minus own l1)) := E1.zsub minus_sub
      have z2 : ZOk H2 (ZZ Z₀ α (minus own l2)) := E2.zsub minus_sub
      have r1' := (r1.ext z1 e2).less (z1.ext e2) (ZZ.mono fun i hi => minus_l (l2 := l2) hi)
      have r2' := r2.less z2 (ZZ.mono fun i hi => minus_r (l1 := l1) hi)
      refine hr H2 _ v v2 d d2 Q (E2.zsub minus_sub) r1' r2' ?_
      cases hh : h d d2 with
      | ok c => exact ⟨c, rfl, fun p H' e3 hn t3 => q c p H' hh ((e1.trans e2).trans e3) ((e1.trans e2).free hn) t3⟩
      | err x => exact absurd hh (ne _ _ x)
      | stk => exact absurd hh ns
    · rw [hg] at qe
      exact qe x H2 rfl (e1.trans e2)
  · rw [hf] at qe
    exact qe x H1 rfl e1
theorem repL_new {K : PySem.W.Frag} {H : Hp} {Z : Addr → Prop} {p : Addr} {o : HO} {ds : List D} {vs : List V} (z : ZOk H Z) (hp : H p = none) (r : RepL K H Z ds vs) : RepL K (upd H p o) (fun b => Z b ∨ b = p) ds vs :=
  RepL.mono (fun b ob u hb => by
    rcases hb with hb | rfl
    · exact z.nofrz b ob u hb
    · rw [hp]; exact fun q => nomatch q) (.of (ext_upd hp)) (fun _ q => q) _ _ (RepL.avoid hp _ _ r)
theorem d_cat (ha : DE G X W own l1 a ta f) (hb : DE G X W own l2 b tb g) : DF G X W own (l1 ++ l2) (.BinOp a .Add b pos) (tOp rCat ta tb) (b2 catD f g) := by
  refine ⟨pe_op op_cat ha.1 hb.1, SF.op ha.2 hb.2 noerr_cat ?_⟩
  intro H Z x y d e Q z hx hy q
  obtain ⟨c, hc, q⟩ := q
  unfold catD at hc
  split at hc
  · split at hc
    · rename_i h
      cases hc
      obtain ⟨a, vs, rfl, ta, _, ra⟩ := hx
      obtain ⟨b, us, rfl, tb, _, rb⟩ := hy
      exact ⟨a, b, vs, us, rfl, rfl, ta, tb, by rw [ra.len, rb.len]; exact h, fun p hp => q p _ (ext_upd hp) hp ⟨vs ++ us, upd_same, (repL_new z hp ra).app (repL_new z hp rb)⟩⟩
    · cases hc
  · cases hc
theorem repl_rep {K : PySem.W.Frag} {H : Hp} {Z : Addr → Prop} {xs : List D} {vs : List V} (n : Nat) (r : RepL K H Z xs vs) : RepL K H Z (List.replicate n xs).flatten (List.replicate n vs).flatten := by
  induction n with
  | zero => rfl
  | succ n ih =>
    rw [List.replicate_succ, List.replicate_succ, List.flatten_cons, List.flatten_cons]
    exact r.app ih
theorem d_rep (ha : DE G X W own l1 a ta f) (hb : DE G X W own l2 b tb g) : DF G X W own (l1 ++ l2) (.BinOp a .Mult b pos) (tOp rRep ta tb) (b2 repD f g) := by
  refine ⟨pe_op op_rep ha.1 hb.1, SF.op ha.2 hb.2 noerr_rep ?_⟩
  intro H Z x y d e Q z hx hy q
  obtain ⟨c, hc, q⟩ := q
  unfold repD at hc
  split at hc
  · split at hc
    · rename_i xs k h
      cases hc
      obtain ⟨a, vs, rfl, ta, _, ra⟩ := hx
      cases hy.int
      exact ⟨a, k, vs, rfl, rfl, ta, h.1, h.2.1, by rw [ra.len]; exact h.2.2, fun p hp => q p _ (ext_upd hp) hp ⟨_, upd_same, repl_rep _ (repL_new z hp ra)⟩⟩
    · cases hc
  · cases hc
theorem d_neg (ha : DE G X W own l1 a ta f) : DE G X W own [] (.UnaryOp .USub a pos) (tUn (rU fun i => .int (-i)) ta) (u1 negD f) := by
  refine ⟨pe_un un_neg ha.1, SE.imm0 (lk := l1) (SE.one ha.2 (fun H Z x d Q z hx q => ?_) noerr_neg) (imm_u1 (by intro d c h; unfold negD at h; split at h <;> cases h; rfl))⟩
  obtain ⟨c, hc, q⟩ := q
  unfold negD at hc
  split at hc
  · cases hc; cases hx.int
    exact ⟨_, rfl, q _ H (Same.refl H) rfl⟩
  · cases hc

/-! ### comparisons -/
theorem os_eqD {K : PySem.W.Frag} : OpS K eqD (rEqD K) := by
  intro H Z x y d e Q z hx hy q
  obtain ⟨c, hc, q⟩ := q
  unfold eqD at hc
  split at hc
  · rename_i h; cases hc
    exact ⟨_, _, Rep.dp _ _ hx, Rep.dp _ _ hy, shp_shaped h.1 (by decide), shp_shaped h.2 (by decide), q _ H (Same.refl H) rfl⟩
  · cases hc
theorem os_neD {K : PySem.W.Frag} : OpS K neD (rNeD K) := by
  intro H Z x y d e Q z hx hy q
  obtain ⟨c, hc, q⟩ := q
  unfold neD at hc
  split at hc
  · rename_i h; cases hc
    exact ⟨_, _, Rep.dp _ _ hx, Rep.dp _ _ hy, shp_shaped h.1 (by decide), shp_shaped h.2 (by decide), q _ H (Same.refl H) rfl⟩
  · cases hc
def rInA (K : PySem.W.Frag) : R2 := fun x y H Q => rIn K false x y H Q ∨ rInD K x y H Q
def rNinA (K : PySem.W.Frag) : R2 := fun x y H Q => rIn K true x y H Q ∨ rNotInD K x y H Q
theorem flat_rep {K : PySem.W.Frag} {H : Hp} {Z : Addr → Prop} {d : D} {v : V} (h : flat d = true) (r : Rep K H Z d v) : flatV v = true ∧ ∀ e w, flat e = true → Rep K H Z e w → eqV w v = eqv e d := by
  cases d with
  | non =>
    cases r.non
    refine ⟨rfl, fun e w he hr => ?_⟩
    cases e <;> first | exact (Bool.false_ne_true he).elim | (cases hr; simp [eqV, eqv, toPy, PyData.eqv])
  | bl b =>
    cases r.bl
    refine ⟨rfl, fun e w he hr => ?_⟩
    cases e <;> first | exact (Bool.false_ne_true he).elim | (cases hr; simp [eqV, eqv, toPy, PyData.eqv])
  | int b =>
    cases r.int
    refine ⟨rfl, fun e w he hr => ?_⟩
    cases e <;> first | exact (Bool.false_ne_true he).elim | (cases hr; simp [eqV, eqv, toPy, PyData.eqv])
  | str b =>
    cases r.str
    refine ⟨rfl, fun e w he hr => ?_⟩
    cases e <;> first | exact (Bool.false_ne_true he).elim | (cases hr; simp [eqV, eqv, toPy, PyData.eqv])
  | tup _ => exact absurd h (by simp [flat])
  | lst _ => exact absurd h (by simp [flat])
  | scr _ => exact absurd h (by simp [flat])
theorem any_rep {K : PySem.W.Frag} {H : Hp} {Z : Addr → Prop} {d : D} {v : V} (h : flat d = true) (r : Rep K H Z d v) : ∀ {ds : List D} {vs : List V}, ds.all flat = true → RepL K H Z ds vs → vs.all flatV = true ∧ inV v vs = ds.any fun z => eqv z d
  | [], _, _, q => by cases (show _ = [] from q); exact ⟨rfl, rfl⟩
  | e :: ds, _, fl, q => by
    obtain ⟨w, us, rfl, h1, h2⟩ := q
    rw [List.all_cons, Bool.and_eq_true] at fl
    obtain ⟨i1, i2⟩ := any_rep h r fl.2 h2
    refine ⟨?_, ?_⟩
    · rw [List.all_cons, Bool.and_eq_true]
      exact ⟨(flat_rep fl.1 h1).1, i1⟩
    · unfold inV at i2 ⊢
      rw [List.any_cons, List.any_cons, i2, (flat_rep h r).2 e w fl.1 h1]
theorem toPyL_any (p : PyData → Bool) : ∀ ds : List D, (toPyL ds).any p = ds.any fun z => p (toPy z)
  | [] => rfl
  | d :: ds => by rw [toPyL, List.any_cons, List.any_cons, toPyL_any p ds]
theorem os_in_aux {K : PySem.W.Frag} {H : Hp} {Z : Addr → Prop} {x y : V} {d e : D} {b : Bool} (hx : Rep K H Z d x) (hy : Rep K H Z e y) (hh : hasD d e = .ok b) {Q : VK} :
    (Q (.bl b) H → rInA K x y H Q) ∧ (Q (.bl (!b)) H → rNinA K x y H Q) := by
  unfold hasD at hh
  split at hh
  · split at hh
    · rename_i h
      cases hh
      have sh : SeqAt.shaped (PyData.list (toPyL _)) = true := shp_shaped (d := .lst _) (n := 9) (by rw [shp]; exact h.2) (by decide)
      refine ⟨fun q => .inr ⟨_, _, Rep.dp _ _ hx, ?_, shp_shaped h.1 (by decide), sh, ?_⟩, fun q => .inr ⟨_, _, Rep.dp _ _ hx, ?_, shp_shaped h.1 (by decide), sh, ?_⟩⟩
      · have := Rep.dp _ _ hy; rwa [toPy] at this
      · rw [toPyL_any]; exact q
      · have := Rep.dp _ _ hy; rwa [toPy] at this
      · rw [toPyL_any]; exact q
    · cases hh
  · split at hh
    · rename_i h
      cases hh
      obtain ⟨p, vs, rfl, ta, ra⟩ := hy
      obtain ⟨i1, i2⟩ := any_rep h.1 hx h.2 ra
      refine ⟨fun q => .inl ⟨p, vs, rfl, .inr ta.sqT, (flat_rep h.1 hx).1, i1, ?_⟩, fun q => .inl ⟨p, vs, rfl, .inr ta.sqT, (flat_rep h.1 hx).1, i1, ?_⟩⟩
      · rw [if_neg Bool.false_ne_true, i2]; exact q
      · rw [if_pos rfl, i2]; exact q
    · cases hh
  · cases hh
theorem os_inD {K : PySem.W.Frag} : OpS K inD (rInA K) := by
  intro H Z x y d e Q z hx hy q
  obtain ⟨c, hc, q⟩ := q
  unfold inD at hc
  cases hh : hasD d e with
  | ok b => rw [hh] at hc; cases hc; exact (os_in_aux hx hy hh).1 (q _ H (Same.refl H) rfl)
  | err _ => rw [hh] at hc; cases hc
  | stk => rw [hh] at hc; cases hc
theorem os_ninD {K : PySem.W.Frag} : OpS K ninD (rNinA K) := by
  intro H Z x y d e Q z hx hy q
  obtain ⟨c, hc, q⟩ := q
  unfold ninD at hc
  cases hh : hasD d e with
  | ok b => rw [hh] at hc; cases hc; exact (os_in_aux hx hy hh).2 (q _ H (Same.refl H) rfl)
  | err _ => rw [hh] at hc; cases hc
  | stk => rw [hh] at hc; cases hc
theorem os_isB {K : PySem.W.Frag} : OpS K isBD (fun x y H Q => ∃ a b, x = .bl a ∧ y = .bl b ∧ Q (.bl (decide (a = b))) H) := by
  intro H Z x y d e Q z hx hy q
  obtain ⟨c, hc, q⟩ := q
  unfold isBD at hc
  split at hc
  · cases hc; cases hx.bl; cases hy.bl
    exact ⟨_, _, rfl, rfl, q _ H (Same.refl H) rfl⟩
  · cases hc
theorem os_notB {K : PySem.W.Frag} : OpS K notBD (fun x y H Q => ∃ a b, x = .bl a ∧ y = .bl b ∧ Q (.bl (!decide (a = b))) H) := by
  intro H Z x y d e Q z hx hy q
  obtain ⟨c, hc, q⟩ := q
  unfold notBD at hc
  split at hc
  · cases hc; cases hx.bl; cases hy.bl
    exact ⟨_, _, rfl, rfl, q _ H (Same.refl H) rfl⟩
  · cases hc
/-- a comparison's rule: the operator, its function, its reading -/
structure CmpRule (G : Cfg) (op : CmpOp) (h : D → D → R D) (r : R2) : Prop where
  ho : ∀ {S : Sco} {k : Nat} {X : Cx}, Fit G S k X → S.hot = false → OpR X (compareOp op) r
  os : OpS G.K h r
  ne : ∀ d e z, h d e ≠ .err z
  bl : ∀ d e c, h d e = .ok c → ∃ b, c = .bl b
theorem cr_eq : CmpRule G .Eq eqD (rEqD G.K) := ⟨fun F hh => F.K ▸ op_eqD (F.room hh).units, os_eqD, noerr_eq, by intro d e c h; unfold eqD at h; split at h <;> cases h; exact ⟨_, rfl⟩⟩
theorem cr_ne : CmpRule G .NotEq neD (rNeD G.K) := ⟨fun F hh => F.K ▸ op_neD (F.room hh).units, os_neD, noerr_ne, by intro d e c h; unfold neD at h; split at h <;> cases h; exact ⟨_, rfl⟩⟩
theorem cr_lt : CmpRule G .Lt ltD (rI0 fun i j => .bl (decide (i < j))) := ⟨fun _ _ => op_lt, os_lt, noerr_lt, by intro d e c h; unfold ltD at h; split at h <;> cases h; exact ⟨_, rfl⟩⟩
theorem cr_le : CmpRule G .LtE leD (rI0 fun i j => .bl (decide (i ≤ j))) := ⟨fun _ _ => op_le, os_le, noerr_le, by intro d e c h; unfold leD at h; split at h <;> cases h; exact ⟨_, rfl⟩⟩
theorem cr_gt : CmpRule G .Gt gtD (rI0 fun i j => .bl (decide (j < i))) := ⟨fun _ _ => op_gt, os_gt, noerr_gt, by intro d e c h; unfold gtD at h; split at h <;> cases h; exact ⟨_, rfl⟩⟩
theorem cr_ge : CmpRule G .GtE geD (rI0 fun i j => .bl (decide (j ≤ i))) := ⟨fun _ _ => op_ge, os_ge, noerr_ge, by intro d e c h; unfold geD at h; split at h <;> cases h; exact ⟨_, rfl⟩⟩
theorem Room.units65 {k : Nat} {A : Around} (r : Room k A) : A.units + 65 < cLine := by have := r.un; omega
theorem cr_in : CmpRule G .In inD (rInA G.K) := ⟨fun F hh => F.K ▸ (op_in_seq.or (op_inD (Room.units65 (F.room hh)))), os_inD, noerr_in, by
  intro d e c h; unfold inD at h
  cases q : hasD d e with
  | ok b => rw [q] at h; cases h; exact ⟨_, rfl⟩
  | err x => rw [q] at h; cases h
  | stk => rw [q] at h; cases h⟩
theorem cr_nin : CmpRule G .NotIn ninD (rNinA G.K) := ⟨fun F hh => F.K ▸ (op_notIn_seq.or (op_notInD (Room.units65 (F.room hh)))), os_ninD, noerr_nin, by
  intro d e c h; unfold ninD at h
  cases q : hasD d e with
  | ok b => rw [q] at h; cases h; exact ⟨_, rfl⟩
  | err x => rw [q] at h; cases h
  | stk => rw [q] at h; cases h⟩
theorem cr_isB : CmpRule G .Is isBD (fun x y H Q => ∃ a b, x = .bl a ∧ y = .bl b ∧ Q (.bl (decide (a = b))) H) := ⟨fun _ _ => op_is_bl, os_isB, by
  intro d e z h; unfold isBD at h; repeat (first | contradiction | split at h), by intro d e c h; unfold isBD at h; split at h <;> cases h; exact ⟨_, rfl⟩⟩
theorem cr_notB : CmpRule G .IsNot notBD (fun x y H Q => ∃ a b, x = .bl a ∧ y = .bl b ∧ Q (.bl (!decide (a = b))) H) := ⟨fun _ _ => op_isnot_bl, os_notB, by
  intro d e z h; unfold notBD at h; repeat (first | contradiction | split at h), by intro d e c h; unfold notBD at h; split at h <;> cases h; exact ⟨_, rfl⟩⟩
theorem bl_imm {h : D → D → R D} (hb : ∀ d e c, h d e = .ok c → ∃ b, c = .bl b) : ∀ d e c, h d e = .ok c → imm c = true := fun d e c q => by
  obtain ⟨b, rfl⟩ := hb d e c q; rfl
theorem d_cmp {op : CmpOp} {h : D → D → R D} {r : R2} (F : Fit G S k X) (cr : CmpRule G op h r) (ha : DE G X W own l1 a ta f) (hb : DE G X W own l2 b tb g) (hm : behindInMarks op b = false) (hh : S.hot = false := by rfl) :
    DE G X W own [] (.Compare a [op] [b] pos) (tOp r ta tb) (b2 h f g) := ⟨pe_cmpR (cr.ho F hh) ha.1 hb.1 hm, (SE.op ha.2 hb.2 cr.os cr.ne).imm0 (imm_b2 (bl_imm cr.bl))⟩
/-! ### tests -/
def toB (f : DEnv → R D) : DEnv → R Bool := fun δ => (f δ).bind fun d => match d with
  | .bl b => .ok b
  | _ => .stk
theorem ST.bl {t : TE} (h : SE G W own lk t f) : ST G W own (tTest t) (toB f) := by
  intro Z₀ α δ σ H Q E hX q qe ns
  unfold toB at q qe ns
  refine h Z₀ α δ σ H _ E hX (fun d v H1 hf e1 r1 => ?_) (fun x H1 hf e1 => ?_) (R.notstk_bind ns)
  · rw [hf] at q ns
    simp only [R.bind_ok] at q ns
    cases d with
    | bl b => cases r1.bl; exact ⟨b, rfl, q b H1 rfl e1⟩
    | _ => exact absurd rfl ns
  · rw [hf] at qe
    exact qe x H1 rfl e1
theorem t_cmp {op : CmpOp} {h : D → D → R D} {r : R2} (F : Fit G S k X) (cr : CmpRule G op h r) (ha : DE G X W own l1 a ta f) (hb : DE G X W own l2 b tb g) (hm : behindInMarks op b = false) (hh : S.hot = false := by rfl) :
    DT G X W own (.Compare a [op] [b] pos) (tTest (tOp r ta tb)) (toB (b2 h f g)) := ⟨pt_cmpR (cr.ho F hh) ha.1 hb.1 hm, ST.bl (SE.op ha.2 hb.2 cr.os cr.ne)⟩
end
end DL

set_option maxRecDepth 100001
set_option maxHeartbeats 1000001
namespace DL
open PySem PySem.Spec PyProof.Rows L2

section
variable {G : Cfg} {S : Sco} {k : Nat} {X : Cx} {W : WX} {own lk l1 l2 l3 : List Nat} {pos : Pos} {a b : Expr} {ta tb : TE} {f g : DEnv → R D} {tA tB' : TT} {fA fB : DEnv → R Bool} {rest : List Expr}

/-! ### truth -/
def truD : D → R Bool
  | .non => .ok false
  | .bl b => .ok b
  | .int i => .ok (i != 0)
  | .str y => if y.length ≤ sizeLine then .ok ((y.length : Int) != 0) else .stk
  | .tup ds => .ok (!ds.isEmpty)
  | .lst ds => .ok (!ds.isEmpty)
  | .scr ds => .ok (!ds.isEmpty)
def toT (f : DEnv → R D) : DEnv → R Bool := fun δ => (f δ).bind truD
theorem RepL.empty {K : PySem.W.Frag} {H : Hp} {Z : Addr → Prop} {ds : List D} {vs : List V} (r : RepL K H Z ds vs) : ds.isEmpty = vs.isEmpty := by
  cases ds with
  | nil => cases (show vs = [] from r); rfl
  | cons d ds => obtain ⟨v, u, rfl, _⟩ := r; rfl
theorem tru_rep {K : PySem.W.Frag} {H : Hp} {Z : Addr → Prop} {d : D} {v : V} {b : Bool} (r : Rep K H Z d v) (h : truD d = .ok b) : TruV K v H b := by
  unfold truD at h
  split at h
  · cases h; cases r.non; rfl
  · cases h; cases r.bl; rfl
  · cases h; cases r.int; rfl
  · split at h
    · rename_i q; cases h; cases r.str; exact ⟨q, rfl⟩
    · cases h
  · cases h
    obtain ⟨p, vs, rfl, t, rr⟩ := r
    exact .inr (.inl ⟨vs, t.sqT, by rw [rr.empty]⟩)
  · cases h
    obtain ⟨p, vs, rfl, t, _, rr⟩ := r
    exact .inl ⟨vs, SqL.of t, by rw [rr.empty]⟩
  · cases h
    obtain ⟨p, vs, rfl, t, rr⟩ := r
    exact .inl ⟨vs, t.sqL, by rw [rr.empty]⟩
theorem noerr_tru (d : D) (z : Exn) : truD d ≠ .err z := by
  intro h; unfold truD at h; repeat (first | contradiction | split at h)
theorem t_tru (F : Fit G S k X) (ha : DE G X W own lk a ta f) (he : ∀ whole, isTrue a X.env whole = (do let v ← whole; standAt a.pos; holding [v] (truthy v)) := by intro _; rfl) :
    DT G X W own a (fun σ H Q => ta σ H fun x H' => ∃ k, TruV G.K x H' k ∧ Q k H') (toT f) := by
  refine ⟨F.K ▸ pt_truth ha.1 he, ?_⟩
  intro Z₀ α δ σ H Q E hX q qe ns
  unfold toT at q qe ns
  refine ha.2 Z₀ α δ σ H _ E hX (fun d v H1 hf e1 r1 => ?_) (fun x H1 hf e1 => ?_) (R.notstk_bind ns)
  · rw [hf] at q ns
    simp only [R.bind_ok] at q ns
    cases hh : truD d with
    | ok b => exact ⟨b, tru_rep r1 hh, q b H1 hh e1⟩
    | err x => exact absurd hh (noerr_tru d x)
    | stk => exact absurd hh ns
  · rw [hf] at qe
    exact qe x H1 rfl e1

/-! ### and, or, not as tests -/
def DW (G : Cfg) (X : Cx) (W : WX) (own : List Nat) (e : Expr) (t : TT) (f : DEnv → R Bool) : Prop := PW X e t ∧ ST G W own t f
def andB (f g : DEnv → R Bool) : DEnv → R Bool := fun δ => (f δ).bind fun b => if b = true then g δ else .ok false
def orB (f g : DEnv → R Bool) : DEnv → R Bool := fun δ => (f δ).bind fun b => if b = true then .ok true else g δ
def notB (f : DEnv → R Bool) : DEnv → R Bool := fun δ => (f δ).bind fun b => .ok (!b)
theorem DW.dt {e : Expr} (h : DW G X W own e tA fA) : DT G X W own e tA fA := ⟨h.1.pt, h.2⟩
theorem w_and1 (ha : DT G X W own a tA fA) : DW G X W own (.BoolOp .And [a] pos) tA fA := ⟨pw_and1 ha.1, ha.2⟩
theorem w_or1 (ha : DT G X W own a tA fA) : DW G X W own (.BoolOp .Or [a] pos) tA fA := ⟨pw_or1 ha.1, ha.2⟩
theorem ST.and (ha : ST G W own tA fA) (hb : ST G W own tB' fB) : ST G W own (tAnd tA tB') (andB fA fB) := by
  intro Z₀ α δ σ H Q E hX q qe ns
  unfold andB at q qe ns
  refine ha Z₀ α δ σ H _ E hX (fun c H1 hf e1 => ?_) (fun x H1 hf e1 => ?_) (R.notstk_bind ns)
  · rw [hf] at q qe ns
    simp only [R.bind_ok] at q qe ns
    cases c with
    | true =>
      rw [if_pos rfl] at q qe ns ⊢
      exact hb Z₀ α δ σ H1 Q (E.ext e1) hX (fun d H' h e2 => q d H' h (e1.trans e2)) (fun x H' h e2 => qe x H' h (e1.trans e2)) ns
    | false =>
      rw [if_neg Bool.false_ne_true] at q ⊢
      exact q false H1 rfl e1
  · rw [hf] at qe
    exact qe x H1 rfl e1
theorem ST.or (ha : ST G W own tA fA) (hb : ST G W own tB' fB) : ST G W own (tOr tA tB') (orB fA fB) := by
  intro Z₀ α δ σ H Q E hX q qe ns
  unfold orB at q qe ns
  refine ha Z₀ α δ σ H _ E hX (fun c H1 hf e1 => ?_) (fun x H1 hf e1 => ?_) (R.notstk_bind ns)
  · rw [hf] at q qe ns
    simp only [R.bind_ok] at q qe ns
    cases c with
    | false =>
      rw [if_neg Bool.false_ne_true] at q qe ns ⊢
      exact hb Z₀ α δ σ H1 Q (E.ext e1) hX (fun d H' h e2 => q d H' h (e1.trans e2)) (fun x H' h e2 => qe x H' h (e1.trans e2)) ns
    | true =>
      rw [if_pos rfl] at q ⊢
      exact q true H1 rfl e1
  · rw [hf] at qe
    exact qe x H1 rfl e1
theorem w_and (ha : DT G X W own a tA fA) (hb : DW G X W own (.BoolOp .And (b :: rest) pos) tB' fB) : DW G X W own (.BoolOp .And (a :: b :: rest) pos) (tAnd tA tB') (andB fA fB) := ⟨pw_and ha.1 hb.1, ST.and ha.2 hb.2⟩
theorem w_or (ha : DT G X W own a tA fA) (hb : DW G X W own (.BoolOp .Or (b :: rest) pos) tB' fB) : DW G X W own (.BoolOp .Or (a :: b :: rest) pos) (tOr tA tB') (orB fA fB) := ⟨pw_or ha.1 hb.1, ST.or ha.2 hb.2⟩
theorem t_not (ha : DT G X W own a tA fA) : DT G X W own (.UnaryOp .Not a pos) (tNot tA) (notB fA) := by
  refine ⟨pt_not ha.1, ?_⟩
  intro Z₀ α δ σ H Q E hX q qe ns
  unfold notB at q qe ns
  refine ha.2 Z₀ α δ σ H _ E hX (fun c H1 hf e1 => ?_) (fun x H1 hf e1 => ?_) (R.notstk_bind ns)
  · rw [hf] at q
    exact q (!c) H1 rfl e1
  · rw [hf] at qe
    exact qe x H1 rfl e1
/-! ### .. as values -/
def andV (f g : DEnv → R D) : DEnv → R D := fun δ => (f δ).bind fun d => match d with
  | .bl true => g δ
  | .bl false => .ok (.bl false)
  | _ => .stk
def orV (f g : DEnv → R D) : DEnv → R D := fun δ => (f δ).bind fun d => match d with
  | .bl false => g δ
  | .bl true => .ok (.bl true)
  | _ => .stk
def notD : D → R D
  | .bl b => .ok (.bl (!b))
  | _ => .stk
theorem d_one {op : BoolOp} (h : DE G X W own lk a ta f) : DE G X W own lk (.BoolOp op [a] pos) ta f := ⟨pe_one h.1, h.2⟩
theorem d_and (ha : DE G X W own l1 a ta f) (hb : DE G X W own l2 (.BoolOp .And (b :: rest) pos) tb g) : DE G X W own l2 (.BoolOp .And (a :: b :: rest) pos) (tAndV ta tb) (andV f g) := by
  refine ⟨pe_and ha.1 hb.1, ?_⟩
  intro Z₀ α δ σ H Q E hX q qe ns
  unfold andV at q qe ns
  refine ha.2 Z₀ α δ σ H _ E hX (fun d v H1 hf e1 r1 => ?_) (fun x H1 hf e1 => ?_) (R.notstk_bind ns)
  · rw [hf] at q qe ns
    simp only [R.bind_ok] at q qe ns
    cases d with
    | bl c =>
      cases r1.bl
      refine ⟨c, rfl, ?_⟩
      cases c with
      | true =>
        rw [if_pos rfl]
        exact hb.2 Z₀ α δ σ H1 Q (E.ext e1) hX (fun d v H' h e2 => q d v H' h (e1.trans e2)) (fun x H' h e2 => qe x H' h (e1.trans e2)) ns
      | false =>
        rw [if_neg Bool.false_ne_true]
        exact q _ _ H1 rfl e1 rfl
    | _ => exact absurd rfl ns
  · rw [hf] at qe
    exact qe x H1 rfl e1
theorem d_or (ha : DE G X W own l1 a ta f) (hb : DE G X W own l2 (.BoolOp .Or (b :: rest) pos) tb g) : DE G X W own l2 (.BoolOp .Or (a :: b :: rest) pos) (tOrV ta tb) (orV f g) := by
  refine ⟨pe_or ha.1 hb.1, ?_⟩
  intro Z₀ α δ σ H Q E hX q qe ns
  unfold orV at q qe ns
  refine ha.2 Z₀ α δ σ H _ E hX (fun d v H1 hf e1 r1 => ?_) (fun x H1 hf e1 => ?_) (R.notstk_bind ns)
  · rw [hf] at q qe ns
    simp only [R.bind_ok] at q qe ns
    cases d with
    | bl c =>
      cases r1.bl
      refine ⟨c, rfl, ?_⟩
      cases c with
      | false =>
        rw [if_neg Bool.false_ne_true]
        exact hb.2 Z₀ α δ σ H1 Q (E.ext e1) hX (fun d v H' h e2 => q d v H' h (e1.trans e2)) (fun x H' h e2 => qe x H' h (e1.trans e2)) ns
      | true =>
        rw [if_pos rfl]
        exact q _ _ H1 rfl e1 rfl
    | _ => exact absurd rfl ns
  · rw [hf] at qe
    exact qe x H1 rfl e1
theorem noerr_not (d : D) (z : Exn) : notD d ≠ .err z := by
  intro h; unfold notD at h; repeat (first | contradiction | split at h)
theorem d_not (ha : DE G X W own l1 a ta f) : DE G X W own [] (.UnaryOp .Not a pos) (tNotV ta) (u1 notD f) := by
  refine ⟨pe_not ha.1, SE.imm0 (lk := l1) (SE.one (r := fun x H1 Q => ∃ c, x = .bl c ∧ Q (.bl (!c)) H1) ha.2 (fun H Z x d Q z hx q => ?_) noerr_not) (imm_u1 (by intro d c h; unfold notD at h; split at h <;> cases h; rfl))⟩
  obtain ⟨c, hc, q⟩ := q
  unfold notD at hc
  split at hc
  · cases hc; cases hx.bl
    exact ⟨_, rfl, q _ H (Same.refl H) rfl⟩
  · cases hc
def ifV (c : DEnv → R Bool) (f g : DEnv → R D) : DEnv → R D := fun δ => (c δ).bind fun b => if b = true then f δ else g δ
theorem SE.less (h : SE G W own l1 ta f) (hl : ∀ i ∈ l1, i ∈ l2) : SE G W own l2 ta f := by
  intro Z₀ α δ σ H Q E hX q qe ns
  exact h Z₀ α δ σ H Q E hX (fun d v H1 hf e1 r1 => q d v H1 hf e1 (r1.less ((E.ext e1).zsub minus_sub) (ZZ.mono fun i hi => minus_sub2 hl i hi))) qe ns
theorem SE.ifV {c : TT} {fc : DEnv → R Bool} (hc : ST G W own c fc) (ha : SE G W own l1 ta f) (hb : SE G W own l2 tb g) : SE G W own (l1 ++ l2) (tIf c ta tb) (ifV fc f g) := by
  intro Z₀ α δ σ H Q E hX q qe ns
  unfold DL.ifV at q qe ns
  refine hc Z₀ α δ σ H _ E hX (fun b H1 hf e1 => ?_) (fun x H1 hf e1 => ?_) (R.notstk_bind ns)
  · rw [hf] at q qe ns
    simp only [R.bind_ok] at q qe ns
    cases b with
    | true =>
      rw [if_pos rfl] at q qe ns ⊢
      exact (ha.less (l2 := l1 ++ l2) fun i h => List.mem_append_left _ h) Z₀ α δ σ H1 Q (E.ext e1) hX (fun d v H' h e2 => q d v H' h (e1.trans e2)) (fun x H' h e2 => qe x H' h (e1.trans e2)) ns
    | false =>
      rw [if_neg Bool.false_ne_true] at q qe ns ⊢
      exact (hb.less (l2 := l1 ++ l2) fun i h => List.mem_append_right _ h) Z₀ α δ σ H1 Q (E.ext e1) hX (fun d v H' h e2 => q d v H' h (e1.trans e2)) (fun x H' h e2 => qe x H' h (e1.trans e2)) ns
  · rw [hf] at qe
    exact qe x H1 rfl e1
theorem d_if {c : Expr} {tc : TT} {fc : DEnv → R Bool} (hc : DT G X W own c tc fc) (ha : DE G X W own l1 a ta f) (hb : DE G X W own l2 b tb g) : DE G X W own (l1 ++ l2) (.IfExp c a b pos) (tIf tc ta tb) (ifV fc f g) :=
  ⟨pe_ifExp hc.1 ha.1 hb.1, SE.ifV hc.2 ha.2 hb.2⟩
/-- a < b < c -/
def chainD (h h' : D → D → R D) (f g w : DEnv → R D) : DEnv → R D := fun δ => (f δ).bind fun d => (g δ).bind fun e => (h d e).bind fun r => match r with
  | .bl true => (w δ).bind fun z => h' e z
  | .bl false => .ok (.bl false)
  | _ => .stk
theorem d_chain {op op' : CmpOp} {h h' : D → D → R D} {r r' : R2} {c : Expr} {tc : TE} {w : DEnv → R D} (F : Fit G S k X) (cr : CmpRule G op h r) (cr' : CmpRule G op' h' r') (ha : DE G X W own l1 a ta f) (hb : DE G X W own l2 b tb g) (hc : DE G X W own l3 c tc w)
    (hm : lastMarks [op, op'] [b, c] = false := by rfl) (hh : S.hot = false := by rfl) :
    DE G X W own [] (.Compare a [op, op'] [b, c] pos) (tChain r r' ta tb tc) (chainD h h' f g w) := by
  refine ⟨pe_chain (cr.ho F hh) (cr'.ho F hh) ha.1 hb.1 hc.1 hm, ?_⟩
  intro Z₀ α δ σ H Q E hX q qe ns
  unfold chainD at q qe ns
  refine ha.2 Z₀ α δ σ H _ E hX (fun d v H1 hf e1 r1 => ?_) (fun x H1 hf e1 => ?_) (R.notstk_bind ns)
  · rw [hf] at q qe ns
    simp only [R.bind_ok] at q qe ns
    have E1 := E.ext e1
    refine hb.2 Z₀ α δ σ H1 _ E1 hX (fun d2 v2 H2 hg e2 r2 => ?_) (fun x H2 hg e2 => ?_) (R.notstk_bind ns)
    · rw [hg] at q qe ns
      simp only [R.bind_ok] at q qe ns
      have E2 := E1.ext e2
      have z1 : ZOk H1 (ZZ Z₀ α (minus own l1)) := E1.zsub minus_sub
      have z2 : ZOk H2 (ZZ Z₀ α (minus own l2)) := E2.zsub minus_sub
      have r1' := (r1.ext z1 e2).less (z1.ext e2) (ZZ.mono fun i hi => minus_l (l2 := l2) hi)
      have r2' := r2.less z2 (ZZ.mono fun i hi => minus_r (l1 := l1) hi)
      refine cr.os H2 _ v v2 d d2 _ (E2.zsub minus_sub) r1' r2' ?_
      cases hh2 : h d d2 with
      | ok c =>
        obtain ⟨bb, rfl⟩ := cr.bl _ _ _ hh2
        refine ⟨_, rfl, fun v3 H3 e3 r3 => ?_⟩
        cases r3.bl
        refine ⟨bb, rfl, ?_⟩
        rw [hh2] at q qe ns
        simp only [R.bind_ok] at q qe ns
        cases bb with
        | true =>
          rw [if_pos rfl]
          have E3 := E2.ext e3
          refine hc.2 Z₀ α δ σ H3 _ E3 hX (fun d4 v4 H4 hw e4 r4 => ?_) (fun x H4 hw e4 => ?_) (R.notstk_bind ns)
          · rw [hw] at q ns
            simp only [R.bind_ok] at q ns
            have E4 := E3.ext e4
            have r2'' := (r2'.ext (E2.zsub minus_sub) (e3.trans e4)).less ((E2.zsub minus_sub).ext (e3.trans e4)) (ZZ.mono (own' := minus own ((l1 ++ l2) ++ l3)) fun i hi => minus_l hi)
            have r4' := r4.less (E4.zsub minus_sub) (ZZ.mono (own' := minus own ((l1 ++ l2) ++ l3)) fun i hi => minus_r hi)
            refine cr'.os H4 _ v2 v4 d2 d4 _ (E4.zsub minus_sub) r2'' r4' ?_
            cases hh4 : h' d2 d4 with
            | ok c4 =>
              obtain ⟨b4, rfl⟩ := cr'.bl _ _ _ hh4
              exact ⟨_, rfl, fun v5 H5 e5 r5 => q _ v5 H5 hh4 ((((e1.trans e2).trans e3).trans e4).trans e5) r5.bl⟩
            | err x => exact absurd hh4 (cr'.ne _ _ x)
            | stk => exact absurd hh4 ns
          · rw [hw] at qe
            exact qe x H4 rfl (((e1.trans e2).trans e3).trans e4)
        | false =>
          rw [if_neg Bool.false_ne_true]
          exact q _ _ H3 rfl ((e1.trans e2).trans e3) rfl
      | err x => exact absurd hh2 (cr.ne _ _ x)
      | stk => rw [hh2] at ns; exact absurd rfl ns
    · rw [hg] at qe
      exact qe x H2 rfl (e1.trans e2)
  · rw [hf] at qe
    exact qe x H1 rfl e1
theorem t_bl {e : Expr} {t : TE} (h : DE G X W own lk e t f) (he : ∀ whole, isTrue e X.env whole = (do let v ← whole; standAt e.pos; holding [v] (truthy v)) := by intro _; rfl) : DT G X W own e (tB t) (toB f) := by
  refine ⟨pt_val h.1 he, ?_⟩
  exact ST.bl h.2
/-- x is None -/
theorem d_isN {j : Nat} {p' : Pos} (ha : DE G X W own l1 a ta f) : DE G X W own [] (.Compare a [.Is] [.Constant .none j p'] pos) (tIsN ta) (u1 isND f) := by
  refine ⟨pe_cmp (pc_isN ha.1) rfl, SE.imm0 (lk := l1) (SE.one (r := fun x H1 Q => Q (.bl (decide (x = .non))) H1) ha.2 (fun H Z x d Q z hx q => ?_) ?_) (imm_u1 ?_)⟩
  · obtain ⟨c, hc, q⟩ := q
    unfold isND at hc
    split at hc
    · cases hc; cases hx.non; exact q _ H (Same.refl H) rfl
    · cases hc
      have : x ≠ .non := by
        rintro rfl
        rename_i hd
        cases d with
        | non => exact hd rfl
        | bl _ => cases hx
        | int _ => cases hx
        | str _ => cases hx
        | tup _ => obtain ⟨_, _, e, _⟩ := hx; cases e
        | lst _ => obtain ⟨_, _, e, _⟩ := hx; cases e
        | scr _ => obtain ⟨_, _, e, _⟩ := hx; cases e
      rw [decide_eq_false this]
      exact q _ H (Same.refl H) rfl
  · intro d z h; unfold isND at h; repeat (first | contradiction | split at h)
  · intro d c h; unfold isND at h; split at h <;> cases h <;> rfl
theorem d_notN {j : Nat} {p' : Pos} (ha : DE G X W own l1 a ta f) : DE G X W own [] (.Compare a [.IsNot] [.Constant .none j p'] pos) (tNotN ta) (u1 notND f) := by
  refine ⟨pe_cmp (pc_notN ha.1) rfl, SE.imm0 (lk := l1) (SE.one (r := fun x H1 Q => Q (.bl (!decide (x = .non))) H1) ha.2 (fun H Z x d Q z hx q => ?_) ?_) (imm_u1 ?_)⟩
  · obtain ⟨c, hc, q⟩ := q
    unfold notND at hc
    split at hc
    · cases hc; cases hx.non; exact q _ H (Same.refl H) rfl
    · cases hc
      have : x ≠ .non := by
        rintro rfl
        rename_i hd
        cases d with
        | non => exact hd rfl
        | bl _ => cases hx
        | int _ => cases hx
        | str _ => cases hx
        | tup _ => obtain ⟨_, _, e, _⟩ := hx; cases e
        | lst _ => obtain ⟨_, _, e, _⟩ := hx; cases e
        | scr _ => obtain ⟨_, _, e, _⟩ := hx; cases e
      rw [decide_eq_false this]
      exact q _ H (Same.refl H) rfl
  · intro d z h; unfold notND at h; repeat (first | contradiction | split at h)
  · intro d c h; unfold notND at h; split at h <;> cases h <;> rfl
end
end DL

set_option maxRecDepth 100001
set_option maxHeartbeats 1000001
namespace DL
open PySem PySem.Spec PyProof.Rows L2

section
variable {G : Cfg} {S : Sco} {k : Nat} {X : Cx} {W : WX} {own lk l1 l2 l3 : List Nat} {pos : Pos} {a b : Expr} {ta tb : TE} {f g : DEnv → R D} {rest : List Expr}

/-! ### items -/
def idxD : D → D → R D
  | .lst ds, .int i => match atI ds i with | some d => .ok d | none => .stk
  | .tup ds, .int i => match atI ds i with | some d => .ok d | none => .stk
  | .scr ds, .int i => match atI ds i with | some d => .ok d | none => .stk
  | .str z, .int i => if z.length ≤ sizeLine then (match atI z.cps.toList i with | some c => .ok (.str ⟨#[c]⟩) | none => .stk) else .stk
  | _, _ => .stk
theorem noerr_idx (d e : D) (z : Exn) : idxD d e ≠ .err z := by
  intro h; unfold idxD at h; repeat (first | contradiction | split at h)
theorem atI_rep {K : PySem.W.Frag} {H : Hp} {Z : Addr → Prop} {ds : List D} {vs : List V} {i : Int} {d : D} (r : RepL K H Z ds vs) (h : atI ds i = some d) : ∃ v, atI vs i = some v ∧ Rep K H Z d v := by
  unfold atI at h ⊢
  rw [r.len]
  cases e : ixN ds.length i with
  | none => rw [e] at h; cases h
  | some j =>
    rw [e] at h
    exact r.get h
theorem os_idx {K : PySem.W.Frag} : OpS K idxD (rIx K) := by
  intro H Z x y d e Q z hx hy q
  obtain ⟨c, hc, q⟩ := q
  unfold idxD at hc
  split at hc
  · split at hc
    · rename_i h; cases hc
      obtain ⟨p, vs, rfl, t, _, rr⟩ := hx
      cases hy.int
      obtain ⟨v, h1, h2⟩ := atI_rep rr h
      exact .inl ⟨p, vs, _, v, rfl, rfl, SqL.of t, h1, q v H (Same.refl H) h2⟩
    · cases hc
  · split at hc
    · rename_i h; cases hc
      obtain ⟨p, vs, rfl, t, rr⟩ := hx
      cases hy.int
      obtain ⟨v, h1, h2⟩ := atI_rep rr h
      exact .inr (.inl ⟨p, vs, _, v, rfl, rfl, t.sqT, h1, q v H (Same.refl H) h2⟩)
    · cases hc
  · split at hc
    · rename_i h; cases hc
      obtain ⟨p, vs, rfl, t, rr⟩ := hx
      cases hy.int
      obtain ⟨v, h1, h2⟩ := atI_rep rr h
      exact .inl ⟨p, vs, _, v, rfl, rfl, t.sqL, h1, q v H (Same.refl H) h2⟩
    · cases hc
  · split at hc
    · rename_i hz
      split at hc
      · rename_i h; cases hc
        cases hx.str; cases hy.int
        exact .inr (.inr ⟨_, _, _, rfl, rfl, hz, h, q _ H (Same.refl H) rfl⟩)
      · cases hc
    · cases hc
  · cases hc
theorem d_ix (F : Fit G S k X) (ha : DE G X W own l1 a ta f) (hb : DE G X W own l2 b tb g) (hs : PlainIx b := by exact fun _ _ => rfl) : DE G X W own (l1 ++ l2) (.Subscript a b pos) (tOp (rIx G.K) ta tb) (b2 idxD f g) :=
  ⟨pe_ix (F.K ▸ ix_seq) ha.1 hb.1 hs, SE.op ha.2 hb.2 os_idx noerr_idx⟩
/-- an item of a name's own list: the list itself does not leak -/
theorem SE.ixN {i : Nat} (hb : SE G W own l2 tb g) : SE G W own l2 (tOp (rIx G.K) (tVar i) tb) (b2 idxD (nmD i) g) := by
  intro Z₀ α δ σ H Q E hX q qe ns
  unfold b2 at q qe ns
  cases hd : nmD i δ with
  | err x => unfold nmD at hd; repeat (first | contradiction | split at hd)
  | stk => rw [hd] at ns; exact absurd rfl ns
  | ok d =>
    rw [hd] at q qe ns
    simp only [R.bind_ok] at q qe ns
    have hd' : δ[i]? = some (some d) := by
      unfold nmD at hd
      split at hd
      · rename_i h; cases hd; exact h
      · cases hd
    by_cases hi : i ∈ own
    · obtain ⟨d', h1, h2, h3⟩ := E.top i hi
      rw [hd'] at h1; cases h1
      refine ⟨_, h2, hb Z₀ α δ σ H _ E hX (fun e v H1 hg e1 r1 => ?_) (fun x H1 hg e1 => ?_) (R.notstk_bind ns)⟩
      · rw [hg] at q ns
        simp only [R.bind_ok] at q ns
        have h4 := h3.ext E.zok e1
        cases d with
        | lst ds =>
          obtain ⟨vs, hh, rr⟩ := h4
          unfold idxD at q ns
          cases e with
          | int j =>
            simp only at q ns
            cases hj : atI ds j with
            | none => rw [hj] at ns; exact absurd rfl ns
            | some c =>
              rw [hj] at q
              cases r1.int
              obtain ⟨w, w1, w2⟩ := atI_rep rr hj
              exact .inl ⟨_, vs, _, w, rfl, rfl, SqL.of hh, w1, q c w H1 rfl e1 (w2.less (E.ext e1).zok (ZZ.mono minus_sub))⟩
          | _ => exact absurd rfl ns
        | _ => exact False.elim h4
      · rw [hg] at qe
        exact qe x H1 rfl e1
    · have h := SE.op (h := idxD) (SE.nm0 (G := G) (W := W) hi) hb os_idx noerr_idx
      refine h Z₀ α δ σ H Q E hX (fun c v H' hc e1 r1 => ?_) (fun x H' hc e1 => ?_) ?_
      · dsimp only at hc
        rw [hd] at hc
        exact q c v H' hc e1 (by simpa using r1)
      · dsimp only at hc
        rw [hd] at hc
        exact qe x H' hc e1
      · dsimp only
        rw [hd]
        exact ns
theorem d_ixN {i : Nat} {x : PySem.Str} {p1 : Pos} (F : Fit G S k X) (hN : S.N[i]? = some x) (hv : Vis S.sc x) (hb : DE G X W own l2 b tb g) (hs : PlainIx b := by exact fun _ _ => rfl) (h1 : (x == ("__debug__" : PySem.Str)) = false := by decide) (h2 : (x == ("__classdict__" : PySem.Str)) = false := by decide) :
    DE G X W own l2 (.Subscript (.Name x p1) b pos) (tOp (rIx G.K) (tVar i) tb) (b2 idxD (nmD i) g) :=
  ⟨pe_ix (F.K ▸ ix_seq) (pe_var (by rw [F.N]; exact hN) (by rw [F.sc]; exact hv) h1 h2) hb.1 hs, SE.ixN hb.2⟩

/-! ### slices -/
def DO (G : Cfg) (X : Cx) (W : WX) (own : List Nat) (e : Option Expr) (t : TO) (f : DEnv → R (Option Int)) : Prop := PO X e t ∧
  ∀ (Z₀ : Addr → Prop) (α : Nat → Addr) (δ : DEnv) (σ : L2.St) (H : Hp) (Q : Option Int → Hp → Prop), EnvOk G.K Z₀ α own δ σ H → G.xi σ →
  (∀ d H', f δ = .ok d → Ext H H' → Q d H') →
  (∀ x H', f δ = .err x → Ext H H' → W (G.cv x.cls) none σ H') → f δ ≠ .stk → t σ H Q
def noP : DEnv → R (Option Int) := fun _ => .ok none
def someP (f : DEnv → R D) : DEnv → R (Option Int) := fun δ => (f δ).bind fun d => match d with
  | .int i => .ok (some i)
  | _ => .stk
theorem o_none : DO G X W own none tNoPart noP := ⟨po_none, fun Z₀ α δ σ H Q E hX q qe ns => q none H rfl (Same.refl H)⟩
theorem o_some (h : DE G X W own lk a ta f) : DO G X W own (some a) (tPart ta) (someP f) := by
  refine ⟨po_some h.1, fun Z₀ α δ σ H Q E hX q qe ns => ?_⟩
  unfold someP at q qe ns
  refine h.2 Z₀ α δ σ H _ E hX (fun d v H1 hf e1 r1 => ?_) (fun x H1 hf e1 => ?_) (R.notstk_bind ns)
  · rw [hf] at q ns
    simp only [R.bind_ok] at q ns
    cases d with
    | int i => cases r1.int; exact ⟨i, rfl, q _ H1 rfl e1⟩
    | _ => exact absurd rfl ns
  · rw [hf] at qe
    exact qe x H1 rfl e1
def cutL {α : Type} (xs : List α) (lo hi : Option Int) : List α := (xs.drop (HT.sIx xs.length 0 lo)).take (HT.sIx xs.length xs.length hi - HT.sIx xs.length 0 lo)
def cutD (d : D) (lo hi : Option Int) : R D := match d with
  | .lst ds => .ok (.lst (cutL ds lo hi))
  | .scr ds => .ok (.lst (cutL ds lo hi))
  | .tup ds => .ok (.tup (cutL ds lo hi))
  | .str z => if z.length ≤ sizeLine then .ok (.str (cutS z lo hi)) else .stk
  | _ => .stk
def cutLD (d : D) (lo hi : Option Int) : R D := match d with
  | .lst ds => .ok (.lst (cutL ds lo hi))
  | .scr ds => .ok (.lst (cutL ds lo hi))
  | _ => .stk
def sl3 (h : D → Option Int → Option Int → R D) (f : DEnv → R D) (l u : DEnv → R (Option Int)) : DEnv → R D := fun δ => (f δ).bind fun d => (l δ).bind fun lo => (u δ).bind fun hi => h d lo hi
def rSlA3 (K : PySem.W.Frag) : V → Option Int → Option Int → Hp → VK → Prop := fun x lo hi H Q => rSlL K x lo hi H Q ∨ rSlA K x lo hi H Q ∨ rSlS x lo hi H Q
theorem RepL.cut {K : PySem.W.Frag} {H : Hp} {Z : Addr → Prop} {ds : List D} {vs : List V} {lo hi : Option Int} (r : RepL K H Z ds vs) : RepL K H Z (cutL ds lo hi) (cutV vs lo hi) := by
  unfold cutL cutV
  rw [r.len]
  exact (r.drop _).take _
theorem d_slice (F : Fit G S k X) {lo hi : Option Expr} {tl th : TO} {fl fh : DEnv → R (Option Int)} {p2 : Pos} (ha : DE G X W own l1 a ta f) (hl : DO G X W own lo tl fl) (hh : DO G X W own hi th fh) :
    DE G X W own l1 (.Subscript a (.Slice lo hi none p2) pos) (tSl (rSlA3 G.K) ta tl th) (sl3 cutD f fl fh) := by
  refine ⟨pe_slice (F.K ▸ (sl_list.or (sl_tupA.or sl_str))) ha.1 hl.1 hh.1, ?_⟩
  intro Z₀ α δ σ H Q E hX q qe ns
  unfold sl3 at q qe ns
  refine ha.2 Z₀ α δ σ H _ E hX (fun d v H1 hf e1 r1 => ?_) (fun x H1 hf e1 => ?_) (R.notstk_bind ns)
  · rw [hf] at q qe ns
    simp only [R.bind_ok] at q qe ns
    have E1 := E.ext e1
    refine hl.2 Z₀ α δ σ H1 _ E1 hX (fun lo' H2 hg e2 => ?_) (fun x H2 hg e2 => ?_) (R.notstk_bind ns)
    · rw [hg] at q qe ns
      simp only [R.bind_ok] at q qe ns
      have E2 := E1.ext e2
      refine hh.2 Z₀ α δ σ H2 _ E2 hX (fun hi' H3 hw e3 => ?_) (fun x H3 hw e3 => ?_) (R.notstk_bind ns)
      · rw [hw] at q qe ns
        simp only [R.bind_ok] at q qe ns
        have E3 := E2.ext e3
        have z : ZOk H3 (ZZ Z₀ α (minus own l1)) := E3.zsub minus_sub
        have r3 := r1.ext (E1.zsub minus_sub) (e2.trans e3)
        have e123 := (e1.trans e2).trans e3
        unfold cutD at q ns
        cases d with
        | lst ds =>
          obtain ⟨p, vs, rfl, t, _, rr⟩ := r3
          exact .inl ⟨p, vs, rfl, SqL.of t, fun p' hp => q _ _ _ rfl (e123.trans (ext_upd hp)) ⟨p', _, rfl, upd_same, z.new hp, repL_upd z hp rr.cut⟩⟩
        | scr ds =>
          obtain ⟨p, vs, rfl, t, rr⟩ := r3
          exact .inl ⟨p, vs, rfl, t.sqL, fun p' hp => q _ _ _ rfl (e123.trans (ext_upd hp)) ⟨p', _, rfl, upd_same, z.new hp, repL_upd z hp rr.cut⟩⟩
        | tup ds =>
          obtain ⟨p, vs, rfl, t, rr⟩ := r3
          refine .inr (.inl ⟨p, vs, rfl, t.sqT, fun hw => ?_, fun _ p' hp => q _ _ _ rfl (e123.trans (ext_upd hp)) ⟨p', _, rfl, .inl ⟨.inl upd_same, z.new hp⟩, repL_upd z hp rr.cut⟩⟩)
          have ec : cutL ds lo' hi' = ds := by
            unfold cutL
            rw [← rr.len, hw.1, hw.2]
            simp [rr.len]
          simp only [ec] at q
          exact q _ _ _ rfl e123 ⟨p, vs, rfl, t, rr⟩
        | str zz =>
          simp only at q ns
          cases r3.str
          by_cases hz : zz.length ≤ sizeLine
          · rw [if_pos hz] at q
            exact .inr (.inr ⟨zz, rfl, hz, q _ _ H3 rfl e123 rfl⟩)
          · rw [if_neg hz] at ns; exact absurd rfl ns
        | _ => exact absurd rfl ns
      · rw [hw] at qe
        exact qe x H3 rfl ((e1.trans e2).trans e3)
    · rw [hg] at qe
      exact qe x H2 rfl (e1.trans e2)
  · rw [hf] at qe
    exact qe x H1 rfl e1
/-- a slice of a list: a new list -/
theorem d_sliceL (F : Fit G S k X) {lo hi : Option Expr} {tl th : TO} {fl fh : DEnv → R (Option Int)} {p2 : Pos} (ha : DE G X W own l1 a ta f) (hl : DO G X W own lo tl fl) (hh : DO G X W own hi th fh) :
    DF G X W own l1 (.Subscript a (.Slice lo hi none p2) pos) (tSl (rSlL G.K) ta tl th) (sl3 cutLD f fl fh) := by
  refine ⟨pe_slice (F.K ▸ sl_list) ha.1 hl.1 hh.1, ?_⟩
  intro Z₀ α δ σ H Q E hX q qe ns
  unfold sl3 at q qe ns
  refine ha.2 Z₀ α δ σ H _ E hX (fun d v H1 hf e1 r1 => ?_) (fun x H1 hf e1 => ?_) (R.notstk_bind ns)
  · rw [hf] at q qe ns
    simp only [R.bind_ok] at q qe ns
    have E1 := E.ext e1
    refine hl.2 Z₀ α δ σ H1 _ E1 hX (fun lo' H2 hg e2 => ?_) (fun x H2 hg e2 => ?_) (R.notstk_bind ns)
    · rw [hg] at q qe ns
      simp only [R.bind_ok] at q qe ns
      have E2 := E1.ext e2
      refine hh.2 Z₀ α δ σ H2 _ E2 hX (fun hi' H3 hw e3 => ?_) (fun x H3 hw e3 => ?_) (R.notstk_bind ns)
      · rw [hw] at q qe ns
        simp only [R.bind_ok] at q qe ns
        have E3 := E2.ext e3
        have z : ZOk H3 (ZZ Z₀ α (minus own l1)) := E3.zsub minus_sub
        have r3 := r1.ext (E1.zsub minus_sub) (e2.trans e3)
        have e123 := (e1.trans e2).trans e3
        unfold cutLD at q ns
        cases d with
        | lst ds =>
          obtain ⟨p, vs, rfl, t, _, rr⟩ := r3
          exact ⟨p, vs, rfl, SqL.of t, fun p' hp => q _ p' _ rfl (e123.trans (ext_upd hp)) (e123.free hp) ⟨_, upd_same, repL_new z hp rr.cut⟩⟩
        | scr ds =>
          obtain ⟨p, vs, rfl, t, rr⟩ := r3
          exact ⟨p, vs, rfl, t.sqL, fun p' hp => q _ p' _ rfl (e123.trans (ext_upd hp)) (e123.free hp) ⟨_, upd_same, repL_new z hp rr.cut⟩⟩
        | _ => exact absurd rfl ns
      · rw [hw] at qe
        exact qe x H3 rfl ((e1.trans e2).trans e3)
    · rw [hg] at qe
      exact qe x H2 rfl (e1.trans e2)
  · rw [hf] at qe
    exact qe x H1 rfl e1

/-! ### arguments, displays -/
variable {es : List Expr} {t tr : TA} {fs gs : DEnv → R (List D)} {e : Expr} {te : TE}
def nilA : DEnv → R (List D) := fun _ => .ok []
def consA (f : DEnv → R D) (g : DEnv → R (List D)) : DEnv → R (List D) := fun δ => (f δ).bind fun d => (g δ).bind fun ds => .ok (d :: ds)
theorem a_nil : DA G X W own [] [] tNil nilA := ⟨pa_nil, fun Z₀ α δ σ H Q E hX q qe ns => q [] [] H rfl (Same.refl H) rfl⟩
theorem a_cons (ha : DE G X W own l1 e te f) (hr : DA G X W own l2 es tr gs) (hs : starEach (e :: es) X.env = (false, eval e X.env) :: starEach es X.env := by rfl) : DA G X W own (l1 ++ l2) (e :: es) (tCons te tr) (consA f gs) := by
  refine ⟨pa_cons ha.1 hr.1 hs, ?_⟩
  intro Z₀ α δ σ H Q E hX q qe ns
  unfold consA at q qe ns
  refine ha.2 Z₀ α δ σ H _ E hX (fun d v H1 hf e1 r1 => ?_) (fun x H1 hf e1 => ?_) (R.notstk_bind ns)
  · rw [hf] at q qe ns
    simp only [R.bind_ok] at q qe ns
    have E1 := E.ext e1
    refine hr.2 Z₀ α δ σ H1 _ E1 hX (fun ds vs H2 hg e2 r2 => ?_) (fun x H2 hg e2 => ?_) (R.notstk_bind ns)
    · rw [hg] at q
      have E2 := E1.ext e2
      have z1 : ZOk H1 (ZZ Z₀ α (minus own l1)) := E1.zsub minus_sub
      have z2 : ZOk H2 (ZZ Z₀ α (minus own l2)) := E2.zsub minus_sub
      have r1' := (r1.ext z1 e2).less (z1.ext e2) (ZZ.mono fun i hi => minus_l (l2 := l2) hi)
      have r2' := r2.less z2 (ZZ.mono fun i hi => minus_r (l1 := l1) hi)
      exact q (d :: ds) (v :: vs) H2 rfl (e1.trans e2) ⟨v, vs, rfl, r1', r2'⟩
    · rw [hg] at qe
      exact qe x H2 rfl (e1.trans e2)
  · rw [hf] at qe
    exact qe x H1 rfl e1
def tupA (g : DEnv → R (List D)) : DEnv → R D := fun δ => (g δ).bind fun ds => if ds.length ≤ sizeLine then .ok (.tup ds) else .stk
def lstA (g : DEnv → R (List D)) : DEnv → R D := fun δ => (g δ).bind fun ds => if ds.length ≤ sizeLine then .ok (.lst ds) else .stk
theorem d_tup {x1 : Nat} (h : DA G X W own l1 es t fs) : DE G X W own l1 (.Tuple es x1 pos) (tTup t) (tupA fs) := by
  refine ⟨pe_tup h.1, ?_⟩
  intro Z₀ α δ σ H Q E hX q qe ns
  unfold tupA at q qe ns
  refine h.2 Z₀ α δ σ H _ E hX (fun ds vs H1 hf e1 r1 => ?_) (fun x H1 hf e1 => ?_) (R.notstk_bind ns)
  · rw [hf] at q ns
    simp only [R.bind_ok] at q ns
    have z : ZOk H1 (ZZ Z₀ α (minus own l1)) := (E.ext e1).zsub minus_sub
    by_cases hz : ds.length ≤ sizeLine
    · rw [if_pos hz] at q
      exact ⟨by rw [r1.len]; exact hz, fun p hp => q _ _ _ rfl (e1.trans (ext_upd hp)) ⟨p, vs, rfl, .inl ⟨.inl upd_same, z.new hp⟩, repL_upd z hp r1⟩⟩
    · rw [if_neg hz] at ns; exact absurd rfl ns
  · rw [hf] at qe
    exact qe x H1 rfl e1
theorem d_lst (h : DA G X W own l1 es t fs) : DF G X W own l1 (.List es pos) (tLst t) (lstA fs) := by
  refine ⟨pe_lst h.1, ?_⟩
  intro Z₀ α δ σ H Q E hX q qe ns
  unfold lstA at q qe ns
  refine h.2 Z₀ α δ σ H _ E hX (fun ds vs H1 hf e1 r1 => ?_) (fun x H1 hf e1 => ?_) (R.notstk_bind ns)
  · rw [hf] at q ns
    simp only [R.bind_ok] at q ns
    have z : ZOk H1 (ZZ Z₀ α (minus own l1)) := (E.ext e1).zsub minus_sub
    by_cases hz : ds.length ≤ sizeLine
    · rw [if_pos hz] at q
      exact ⟨by rw [r1.len]; exact hz, fun p hp => q _ p _ rfl (e1.trans (ext_upd hp)) (e1.free hp) ⟨vs, upd_same, repL_new z hp r1⟩⟩
    · rw [if_neg hz] at ns; exact absurd rfl ns
  · rw [hf] at qe
    exact qe x H1 rfl e1
theorem DF.de {lk : List Nat} (h : DF G X W own lk e te f) : DE G X W own lk e te f := ⟨h.1, h.2.se⟩
theorem DE.chk {lk : List Nat} (h : DE G X W own lk e te f) : DE G X W own [] e te (chkImm f) := ⟨h.1, h.2.chk⟩
theorem DF.chk {lk : List Nat} (h : DF G X W own lk e te f) : DF G X W own [] e te (chkFlat f) := ⟨h.1, h.2.chk⟩

/-! ### calls of built-ins -/
def CallS (K : PySem.W.Frag) (h : List D → R D) (r : List V → Hp → VK → Prop) : Prop := ∀ (H : Hp) (Z : Addr → Prop) (vs : List V) (ds : List D) (Q : VK), ZOk H Z → RepL K H Z ds vs → (∃ c, h ds = .ok c ∧ ∀ v H', Ext H H' → Rep K H' Z c v → Q v H') → r vs H Q
def callF (h : List D → R D) (g : DEnv → R (List D)) : DEnv → R D := fun δ => (g δ).bind h
theorem SA.call (ha : SA G W own lk t fs) {h : List D → R D} {r : List V → Hp → VK → Prop} (cs : CallS G.K h r) (ne : ∀ d z, h d ≠ .err z) : SE G W own lk (tCB r t) (callF h fs) := by
  intro Z₀ α δ σ H Q E hX q qe ns
  unfold callF at q qe ns
  refine ha Z₀ α δ σ H _ E hX (fun ds vs H1 hf e1 r1 => ?_) (fun x H1 hf e1 => ?_) (R.notstk_bind ns)
  · rw [hf] at q ns
    simp only [R.bind_ok] at q ns
    refine cs H1 _ vs ds Q ((E.ext e1).zsub minus_sub) r1 ?_
    cases hh : h ds with
    | ok c => exact ⟨c, rfl, fun v H' e2 r2 => q c v H' hh (e1.trans e2) r2⟩
    | err x => exact absurd hh (ne _ x)
    | stk => exact absurd hh ns
  · rw [hf] at qe
    exact qe x H1 rfl e1
theorem imm_call {h : List D → R D} (hi : ∀ d c, h d = .ok c → imm c = true) : ∀ δ d, callF h fs δ = .ok d → imm d = true := by
  intro δ d q
  unfold callF at q
  cases e1 : fs δ with
  | ok x => rw [e1] at q; exact hi _ _ q
  | err _ => rw [e1] at q; cases q
  | stk => rw [e1] at q; cases q
end
end DL

set_option maxRecDepth 100001
set_option maxHeartbeats 1000001
namespace DL
open PySem PySem.Spec PyProof.Rows L2

section
variable {G : Cfg} {S : Sco} {k : Nat} {X : Cx} {W : WX} {own lk l1 l2 l3 : List Nat} {pos p : Pos} {e a b : Expr} {es : List Expr} {t : TA} {fs : DEnv → R (List D)} {x : PySem.Str}

theorem fit_gl (F : Fit G S k X) (hg : S.sc.names.lookup x = some .globalImplicit) : Gl X x := by show X.env.scope.names.lookup x = _; rw [F.sc]; exact hg
/-- f(e, ..), f a built-in function -/
theorem d_callB {id : String} {r : List V → Hp → VK → Prop} {h : List D → R D} (F : Fit G S k X) (hc : CallR X (.builtin id) r) (cs : CallS G.K h r) (ne : ∀ d z, h d ≠ .err z) (hg : S.sc.names.lookup x = some .globalImplicit) (hm : G.mg x = none) (hv : bootBuiltins x = some (.builtin id)) (ha : DA G X W own lk (e :: es) t fs)
    (hn : x ≠ "__name__" := by decide) (hdb : (x == ("__debug__" : PySem.Str)) = false := by decide) (he : starEach (e :: es) X.env = (false, eval e X.env) :: starEach es X.env := by rfl) (hpl : (backTo pos (starEach es X.env)).any (·.1) = false := by rfl) :
    DE G X W own lk (.Call (.Name x p) (e :: es) [] pos) (tCB r t) (callF h fs) :=
  ⟨pe_callB hc (fit_gl F hg) (by rw [F.mg]; exact hm) hv ha.1 hn hdb he hpl, ha.2.call cs ne⟩
theorem d_callTy {T : String} {r : List V → Hp → VK → Prop} {h : List D → R D} (F : Fit G S k X) (hc : CallR X (.type T) r) (cs : CallS G.K h r) (ne : ∀ d z, h d ≠ .err z) (hg : S.sc.names.lookup x = some .globalImplicit) (hm : G.mg x = none) (hv : bootBuiltins x = some (.type T)) (ha : DA G X W own lk (e :: es) t fs)
    (hn : x ≠ "__name__" := by decide) (hdb : (x == ("__debug__" : PySem.Str)) = false := by decide) (he : starEach (e :: es) X.env = (false, eval e X.env) :: starEach es X.env := by rfl) (hpl : (backTo pos (starEach es X.env)).any (·.1) = false := by rfl) :
    DE G X W own lk (.Call (.Name x p) (e :: es) [] pos) (tCB r t) (callF h fs) :=
  ⟨pe_callTy hc (fit_gl F hg) (by rw [F.mg]; exact hm) hv ha.1 hn hdb he hpl, ha.2.call cs ne⟩
theorem d_callBf {id : String} {r : List V → Hp → VK → Prop} {h : List D → R D} (F : Fit G S k X) (hc : CallR X (.builtin id) r) (cs : CallS G.K h r) (ne : ∀ d z, h d ≠ .err z) (hg : S.sc.names.lookup x = some .globalImplicit) (hm : G.mg x = some (.builtin id)) (ha : DA G X W own lk (e :: es) t fs)
    (hdb : (x == ("__debug__" : PySem.Str)) = false := by decide) (he : starEach (e :: es) X.env = (false, eval e X.env) :: starEach es X.env := by rfl) (hpl : (backTo pos (starEach es X.env)).any (·.1) = false := by rfl) :
    DE G X W own lk (.Call (.Name x p) (e :: es) [] pos) (tCB r t) (callF h fs) :=
  ⟨pe_callBfun hc (fit_gl F hg) (by rw [F.mg]; exact hm) ha.1 hdb he hpl, ha.2.call cs ne⟩
theorem DE.imm0 {te : TE} {f : DEnv → R D} (h : DE G X W own lk e te f) (hi : ∀ δ d, f δ = .ok d → imm d = true) : DE G X W own [] e te f := ⟨h.1, h.2.imm0 hi⟩

/-! len -/
def lenD : List D → R D
  | [.lst ds] => .ok (.int ds.length)
  | [.tup ds] => .ok (.int ds.length)
  | [.scr ds] => .ok (.int ds.length)
  | [.str z] => if z.length ≤ sizeLine then .ok (.int z.length) else .stk
  | _ => .stk
theorem cs_len {K : PySem.W.Frag} : CallS K lenD (fun xs H Q => ∃ x n, xs = [x] ∧ LenV K x H n ∧ Q (.int n) H) := by
  intro H Z vs ds Q z r q
  obtain ⟨c, hc, q⟩ := q
  unfold lenD at hc
  split at hc
  · cases hc
    obtain ⟨v, u, rfl, ⟨p, us, rfl, t, _, rr⟩, rfl⟩ := r
    exact ⟨_, us.length, rfl, .inl ⟨us, SqL.of t, rfl⟩, by rw [rr.len]; exact q _ H (Same.refl H) rfl⟩
  · cases hc
    obtain ⟨v, u, rfl, ⟨p, us, rfl, t, rr⟩, rfl⟩ := r
    exact ⟨_, us.length, rfl, .inr ⟨us, t.sqT, rfl⟩, by rw [rr.len]; exact q _ H (Same.refl H) rfl⟩
  · cases hc
    obtain ⟨v, u, rfl, ⟨p, us, rfl, t, rr⟩, rfl⟩ := r
    exact ⟨_, us.length, rfl, .inl ⟨us, t.sqL, rfl⟩, by rw [rr.len]; exact q _ H (Same.refl H) rfl⟩
  · split at hc
    · rename_i hz; cases hc
      obtain ⟨v, u, rfl, hv, rfl⟩ := r
      cases hv.str
      exact ⟨_, _, rfl, ⟨hz, rfl⟩, q _ H (Same.refl H) rfl⟩
    · cases hc
  · cases hc
theorem noerr_len (d : List D) (z : Exn) : lenD d ≠ .err z := by
  intro h; unfold lenD at h; repeat (first | contradiction | split at h)
theorem d_len (F : Fit G S k X) (hg : S.sc.names.lookup (PySem.Str.ofString "len") = some .globalImplicit) (hm : G.mg (PySem.Str.ofString "len") = none) (ha : DA G X W own lk (e :: es) t fs)
    (he : starEach (e :: es) X.env = (false, eval e X.env) :: starEach es X.env := by rfl) (hpl : (backTo pos (starEach es X.env)).any (·.1) = false := by rfl) :
    DE G X W own [] (.Call (.Name (PySem.Str.ofString "len") p) (e :: es) [] pos) (tCB (fun xs H Q => ∃ x n, xs = [x] ∧ LenV G.K x H n ∧ Q (.int n) H) t) (callF lenD fs) :=
  (d_callB F (F.K ▸ call_len) cs_len noerr_len hg hm PySem.boot_len ha (by decide) (by decide) he hpl).imm0 (imm_call (by intro d c h; unfold lenD at h; repeat (first | contradiction | (cases h; rfl) | split at h)))
/-! abs, gcd, int, sum -/
def absD : List D → R D
  | [.int i] => .ok (.int (if i < 0 then -i else i))
  | _ => .stk
theorem d_abs (F : Fit G S k X) (hg : S.sc.names.lookup (PySem.Str.ofString "abs") = some .globalImplicit) (hm : G.mg (PySem.Str.ofString "abs") = none) (ha : DA G X W own lk (e :: es) t fs)
    (he : starEach (e :: es) X.env = (false, eval e X.env) :: starEach es X.env := by rfl) (hpl : (backTo pos (starEach es X.env)).any (·.1) = false := by rfl) :
    DE G X W own [] (.Call (.Name (PySem.Str.ofString "abs") p) (e :: es) [] pos) (tCB (fun xs H Q => ∃ i, xs = [.int i] ∧ Q (.int (if i < 0 then -i else i)) H) t) (callF absD fs) :=
  (d_callB F call_abs (by
    intro H Z vs ds Q z r q
    obtain ⟨c, hc, q⟩ := q
    unfold absD at hc
    split at hc
    · cases hc
      obtain ⟨v, u, rfl, hv, rfl⟩ := r
      cases hv.int
      exact ⟨_, rfl, q _ H (Same.refl H) rfl⟩
    · cases hc) (by intro d z h; unfold absD at h; repeat (first | contradiction | split at h)) hg hm (by decide +kernel) ha (by decide) (by decide) he hpl).imm0 (imm_call (by intro d c h; unfold absD at h; repeat (first | contradiction | (cases h; rfl) | split at h)))
def gcdD : List D → R D
  | [.int i, .int j] => .ok (.int ((Nat.gcd i.natAbs j.natAbs : Nat) : Int))
  | _ => .stk
theorem d_gcd (F : Fit G S k X) (hg : S.sc.names.lookup x = some .globalImplicit) (hm : G.mg x = some (.builtin "math.gcd")) (ha : DA G X W own lk (e :: es) t fs) (hdb : (x == ("__debug__" : PySem.Str)) = false := by decide)
    (he : starEach (e :: es) X.env = (false, eval e X.env) :: starEach es X.env := by rfl) (hpl : (backTo pos (starEach es X.env)).any (·.1) = false := by rfl) :
    DE G X W own [] (.Call (.Name x p) (e :: es) [] pos) (tCB rGcd t) (callF gcdD fs) :=
  (d_callBf F cr_gcd (by
    intro H Z vs ds Q z r q
    obtain ⟨c, hc, q⟩ := q
    unfold gcdD at hc
    split at hc
    · cases hc
      obtain ⟨v, u, rfl, hv, v2, u2, rfl, hv2, rfl⟩ := r
      cases hv.int; cases hv2.int
      exact ⟨_, _, rfl, q _ H (Same.refl H) rfl⟩
    · cases hc) (by intro d z h; unfold gcdD at h; repeat (first | contradiction | split at h)) hg hm ha hdb he hpl).imm0 (imm_call (by intro d c h; unfold gcdD at h; repeat (first | contradiction | (cases h; rfl) | split at h)))
def intD : List D → R D
  | [.int i] => .ok (.int i)
  | [.bl k] => .ok (.int (if k then 1 else 0))
  | _ => .stk
theorem d_intC (F : Fit G S k X) (hg : S.sc.names.lookup (PySem.Str.ofString "int") = some .globalImplicit) (hm : G.mg (PySem.Str.ofString "int") = none) (ha : DA G X W own lk (e :: es) t fs)
    (he : starEach (e :: es) X.env = (false, eval e X.env) :: starEach es X.env := by rfl) (hpl : (backTo pos (starEach es X.env)).any (·.1) = false := by rfl) :
    DE G X W own [] (.Call (.Name (PySem.Str.ofString "int") p) (e :: es) [] pos) (tCB (fun xs H Q => (∃ i, xs = [.int i] ∧ Q (.int i) H) ∨ ∃ k, xs = [.bl k] ∧ Q (.int (if k then 1 else 0)) H) t) (callF intD fs) :=
  (d_callTy F call_int1 (by
    intro H Z vs ds Q z r q
    obtain ⟨c, hc, q⟩ := q
    unfold intD at hc
    split at hc
    · cases hc
      obtain ⟨v, u, rfl, hv, rfl⟩ := r
      cases hv.int
      exact .inl ⟨_, rfl, q _ H (Same.refl H) rfl⟩
    · cases hc
      obtain ⟨v, u, rfl, hv, rfl⟩ := r
      cases hv.bl
      exact .inr ⟨_, rfl, q _ H (Same.refl H) rfl⟩
    · cases hc) (by intro d z h; unfold intD at h; repeat (first | contradiction | split at h)) hg hm (by decide +kernel) ha (by decide) (by decide) he hpl).imm0 (imm_call (by intro d c h; unfold intD at h; repeat (first | contradiction | (cases h; rfl) | split at h)))
def asInts : List D → Option (List Int)
  | [] => some []
  | .int i :: ds => (asInts ds).map (i :: ·)
  | _ :: _ => none
theorem asInts_rep {K : PySem.W.Frag} {H : Hp} {Z : Addr → Prop} : ∀ {ds : List D} {vs : List V} {ns : List Int}, RepL K H Z ds vs → asInts ds = some ns → vs = ns.map V.int
  | [], _, _, r, h => by cases (show _ = [] from r); cases h; rfl
  | d :: ds, _, ns, r, h => by
    obtain ⟨v, u, rfl, hv, hu⟩ := r
    cases d with
    | int i =>
      rw [asInts] at h
      cases e : asInts ds with
      | none => rw [e] at h; cases h
      | some ms =>
        rw [e] at h
        cases h
        cases hv.int
        rw [asInts_rep hu e]
        rfl
    | _ => simp [asInts] at h
def sumD : List D → R D
  | [.lst ds] => match asInts ds with | some ns => .ok (.int ns.sum) | none => .stk
  | _ => .stk
theorem d_sum (F : Fit G S k X) (hh : S.hot = false) (hg : S.sc.names.lookup (PySem.Str.ofString "sum") = some .globalImplicit) (hm : G.mg (PySem.Str.ofString "sum") = none) (ha : DA G X W own lk (e :: es) t fs)
    (he : starEach (e :: es) X.env = (false, eval e X.env) :: starEach es X.env := by rfl) (hpl : (backTo pos (starEach es X.env)).any (·.1) = false := by rfl) :
    DE G X W own [] (.Call (.Name (PySem.Str.ofString "sum") p) (e :: es) [] pos) (tCB (rSum G.K) t) (callF sumD fs) :=
  (d_callB F (F.K ▸ cr_sum (F.calm hh)) (by
    intro H Z vs ds Q z r q
    obtain ⟨c, hc, q⟩ := q
    unfold sumD at hc
    split at hc
    · split at hc
      · rename_i h; cases hc
        obtain ⟨v, u, rfl, ⟨p, us, rfl, t, _, rr⟩, rfl⟩ := r
        refine ⟨p, _, rfl, ?_, q _ H (Same.refl H) rfl⟩
        rw [← asInts_rep rr h]
        exact SqL.of t
      · cases hc
    · cases hc) (by intro d z h; unfold sumD at h; repeat (first | contradiction | split at h)) hg hm (by decide +kernel) ha (by decide) (by decide) he hpl).imm0 (imm_call (by intro d c h; unfold sumD at h; repeat (first | contradiction | (cases h; rfl) | split at h)))
/-! list, tuple -/
def listD : List D → R D
  | [.lst ds] => .ok (.lst ds)
  | [.tup ds] => .ok (.lst ds)
  | [.scr ds] => .ok (.lst ds)
  | _ => .stk
theorem d_list (F : Fit G S k X) (hg : S.sc.names.lookup (PySem.Str.ofString "list") = some .globalImplicit) (hm : G.mg (PySem.Str.ofString "list") = none) (ha : DA G X W own lk (e :: es) t fs)
    (he : starEach (e :: es) X.env = (false, eval e X.env) :: starEach es X.env := by rfl) (hpl : (backTo pos (starEach es X.env)).any (·.1) = false := by rfl) :
    DF G X W own lk (.Call (.Name (PySem.Str.ofString "list") p) (e :: es) [] pos) (tCB (fun xs H Q => ∃ p ys, xs = [.ref p] ∧ (SqL G.K H p ys ∨ SqT G.K H p ys) ∧ ∀ l, H l = none → Q (.ref l) (upd H l (.lst ys))) t) (callF listD fs) := by
  refine ⟨pe_callTy (F.K ▸ call_list_of) (fit_gl F hg) (by rw [F.mg]; exact hm) (by decide +kernel) ha.1 (by decide) (by decide) he hpl, ?_⟩
  intro Z₀ α δ σ H Q E hX q qe ns
  unfold callF at q qe ns
  refine ha.2 Z₀ α δ σ H _ E hX (fun ds vs H1 hf e1 r1 => ?_) (fun x H1 hf e1 => ?_) (R.notstk_bind ns)
  · rw [hf] at q ns
    simp only [R.bind_ok] at q ns
    have z : ZOk H1 (ZZ Z₀ α (minus own lk)) := (E.ext e1).zsub minus_sub
    unfold listD at q ns
    split at q
    · obtain ⟨v, u, rfl, ⟨p, us, rfl, t, _, rr⟩, rfl⟩ := r1
      exact ⟨p, us, rfl, .inl (SqL.of t), fun l hl => q _ l _ rfl (e1.trans (ext_upd hl)) (e1.free hl) ⟨us, upd_same, repL_new z hl rr⟩⟩
    · obtain ⟨v, u, rfl, ⟨p, us, rfl, t, rr⟩, rfl⟩ := r1
      exact ⟨p, us, rfl, .inr t.sqT, fun l hl => q _ l _ rfl (e1.trans (ext_upd hl)) (e1.free hl) ⟨us, upd_same, repL_new z hl rr⟩⟩
    · obtain ⟨v, u, rfl, ⟨p, us, rfl, t, rr⟩, rfl⟩ := r1
      exact ⟨p, us, rfl, .inl t.sqL, fun l hl => q _ l _ rfl (e1.trans (ext_upd hl)) (e1.free hl) ⟨us, upd_same, repL_new z hl rr⟩⟩
    · exact absurd (by split <;> first | rfl | simp_all) ns
  · rw [hf] at qe
    exact qe x H1 rfl e1
def tupleD : List D → R D
  | [.lst ds] => .ok (.tup ds)
  | [.tup ds] => .ok (.tup ds)
  | _ => .stk
theorem d_tuple (F : Fit G S k X) (hg : S.sc.names.lookup (PySem.Str.ofString "tuple") = some .globalImplicit) (hm : G.mg (PySem.Str.ofString "tuple") = none) (ha : DA G X W own lk (e :: es) t fs)
    (he : starEach (e :: es) X.env = (false, eval e X.env) :: starEach es X.env := by rfl) (hpl : (backTo pos (starEach es X.env)).any (·.1) = false := by rfl) :
    DE G X W own lk (.Call (.Name (PySem.Str.ofString "tuple") p) (e :: es) [] pos) (tCB (fun xs H Q => ∃ p ys, xs = [.ref p] ∧ ((SqL G.K H p ys ∧ ∀ l, H l = none → Q (.ref l) (upd H l (.tup ys))) ∨ (SqT G.K H p ys ∧ Q (.ref p) H))) t) (callF tupleD fs) :=
  d_callTy F (F.K ▸ call_tuple_of) (by
    intro H Z vs ds Q z r q
    obtain ⟨c, hc, q⟩ := q
    unfold tupleD at hc
    split at hc
    · cases hc
      obtain ⟨v, u, rfl, ⟨p, us, rfl, t, _, rr⟩, rfl⟩ := r
      exact ⟨p, us, rfl, .inl ⟨SqL.of t, fun l hl => q _ _ (ext_upd hl) ⟨l, us, rfl, .inl ⟨.inl upd_same, z.new hl⟩, repL_upd z hl rr⟩⟩⟩
    · cases hc
      obtain ⟨v, u, rfl, ⟨p, us, rfl, t, rr⟩, rfl⟩ := r
      exact ⟨p, us, rfl, .inr ⟨t.sqT, q _ H (Same.refl H) ⟨p, us, rfl, t, rr⟩⟩⟩
    · cases hc) (by intro d z h; unfold tupleD at h; repeat (first | contradiction | split at h)) hg hm (by decide +kernel) ha (by decide) (by decide) he hpl
/-! isinstance -/
def tyN : D → String
  | .non => "NoneType"
  | .bl _ => "bool"
  | .int _ => "int"
  | .str _ => "str"
  | .tup _ => "tuple"
  | .lst _ => "list"
  | .scr _ => "list"
def isTb (a b : String) : Bool := a == b || (a == "bool" && b == "int")
def isiD (T : String) (d : D) : R D := .ok (.bl (isTb (tyN d) T))
theorem tyN_mem (d : D) : tyN d ∈ ["NoneType", "bool", "int", "str", "tuple", "list"] := by cases d <;> simp [tyN]
theorem tyx_rep {K : PySem.W.Frag} {H : Hp} {Z : Addr → Prop} {d : D} {v : V} (r : Rep K H Z d v) : TyX K H v (.type (tyN d)) := by
  cases d with
  | non => cases r.non; exact .base .non
  | bl b => cases r.bl; exact .base (.bl b)
  | int b => cases r.int; exact .base (.int b)
  | str b => cases r.str; exact .base (.str b)
  | tup ds =>
    obtain ⟨p, us, rfl, t, rr⟩ := r
    rcases t with ⟨h | ⟨o, h⟩, _⟩ | ⟨o, its, n, h, hc, _⟩
    · exact .base (.tup h)
    · exact .fTuple h
    · exact .kTuple h hc
  | lst ds =>
    obtain ⟨p, us, rfl, t, _, rr⟩ := r
    exact .base (.lst t)
  | scr ds =>
    obtain ⟨p, us, rfl, t, rr⟩ := r
    rcases t with ⟨h | ⟨o, h⟩, _⟩ | ⟨o, its, n, h, hc, _⟩
    · exact .base (.lst h)
    · exact .base (.frz h)
    · exact .kList h hc
theorem kit_all {T : String} (h : ∀ n ∈ ["NoneType", "bool", "int", "str", "tuple", "list"], kitB n T = some (isTb n T)) (d : D) : kitB (tyN d) T = some (isTb (tyN d) T) := h _ (tyN_mem d)
theorem d_isi {T : PySem.Str} {TS : String} {f : DEnv → R D} {te : TE} {p2 : Pos} (F : Fit G S k X) (hg : S.sc.names.lookup (PySem.Str.ofString "isinstance") = some .globalImplicit) (hm : G.mg (PySem.Str.ofString "isinstance") = none)
    (hgT : S.sc.names.lookup T = some .globalImplicit) (hmT : G.mg T = none) (hvT : bootBuiltins T = some (.type TS)) (hk : ∀ n ∈ ["NoneType", "bool", "int", "str", "tuple", "list"], kitB n TS = some (isTb n TS)) (ha : DE G X W own lk e te f)
    (hn : T ≠ "__name__" := by decide) (hd : (T == ("__debug__" : PySem.Str)) = false := by decide)
    (he : starEach [e, .Name T p2] X.env = (false, eval e X.env) :: starEach [.Name T p2] X.env := by rfl) (hpl : (backTo pos (starEach [.Name T p2] X.env)).any (·.1) = false := by rfl) :
    DE G X W own [] (.Call (.Name (PySem.Str.ofString "isinstance") p) [e, .Name T p2] [] pos) (tCB (rIsi G.K) (tCons te (tCons (tC (.ty TS)) tNil))) (u1 (isiD TS) f) := by
  have hpa : PA X [e, .Name T p2] (tCons te (tCons (tC (.ty TS)) tNil)) := pa_cons ha.1 (pa_cons (pe_bltn (v := .ty TS) (fit_gl F hgT) (by rw [F.mg]; exact hmT) hvT rfl hn hd) pa_nil) he
  refine ⟨pe_callB (F.K ▸ call_isi) (fit_gl F hg) (by rw [F.mg]; exact hm) (by decide +kernel) hpa (by decide) (by decide) he hpl, ?_⟩
  intro Z₀ α δ σ H Q E hX q qe ns
  unfold u1 isiD at q qe ns
  refine ha.2 Z₀ α δ σ H _ E hX (fun d v H1 hf e1 r1 => ?_) (fun x H1 hf e1 => ?_) (R.notstk_bind ns)
  · rw [hf] at q
    exact ⟨v, .ty TS, _, _, _, rfl, .ty TS, tyx_rep r1, kit_ty (kit_all hk d), q _ _ H1 rfl e1 rfl⟩
  · rw [hf] at qe
    exact qe x H1 rfl e1

/-! ### calls of defs -/
def RetOk (fr : Bool) (K : PySem.W.Frag) (H H' : Hp) (Z : Addr → Prop) (d : D) (v : V) : Prop :=
  (fr = true ∧ ∃ a, v = .ref a ∧ H a = none ∧ Top K H' (fun b => Z b ∨ b = a) d a) ∨ (fr = true ∧ imm d = true ∧ Rep K H' Z d v) ∨ (fr = false ∧ Rep K H' Z d v)
def spD (G : Cfg) (n : Nat) (fr : Bool) (Φ : List D → R D) : Sp := fun vs H Q E => ∃ (Z : Addr → Prop) (ds : List D), ds.length = n ∧ ZOk H Z ∧ RepL G.K H Z ds vs ∧
  (∀ d v H', Φ ds = .ok d → Ext H H' → RetOk fr G.K H H' Z d v → Q v H') ∧ (∀ x H', Φ ds = .err x → Ext H H' → E (G.cv x.cls) none H') ∧ Φ ds ≠ .stk
structure FnD (G : Cfg) (k : Nat) (x : PySem.Str) (n : Nat) (fr : Bool) (Φ : List D → R D) : Prop where
  ex : ∃ (f : Addr) (fd : FuncData) (ps : List PySem.Str), FnOk G.P G.w G.K G.mg G.base (L2.CX G.P G.w) k f fd ps (spD G n fr Φ) ∧ G.mg x = some (.ref f) ∧ PySem.W.keepIn G.K (.ref f) = true ∧ Binds G.K fd ps []
theorem RetOk.rep {fr : Bool} {K : PySem.W.Frag} {H H' : Hp} {Z : Addr → Prop} {d : D} {v : V} (z : ZOk H Z) (e : Ext H H') (h : RetOk fr K H H' Z d v) : Rep K H' Z d v := by
  rcases h with ⟨_, a, rfl, hn, t⟩ | ⟨_, _, r⟩ | ⟨_, r⟩
  · refine t.rep (Z := fun b => Z b ∨ b = a) (fun b hb => ?_) (fun b hb => .inl hb) (z.new hn)
    rcases hb with hb | rfl
    · exact z.ext e b hb
    · exact t.mut
  · exact r
  · exact r
theorem d_call {kf n : Nat} {fr : Bool} {Φ : List D → R D} (F : Fit G S k X) (tk : Takes X W) (C : FnD G kf x n fr Φ) (hk : kf ≤ k) (hg : S.sc.names.lookup x = some .globalImplicit) (ha : DA G X W own lk (e :: es) t fs) (hl : (e :: es).length = n)
    (hdb : (x == ("__debug__" : PySem.Str)) = false := by decide) (he : starEach (e :: es) X.env = (false, eval e X.env) :: starEach es X.env := by rfl) (hpl : (backTo pos (starEach es X.env)).any (·.1) = false := by rfl)
    (hlen : ∀ δ ds, fs δ = .ok ds → ds.length = n) (hh : S.hot = false := by rfl) :
    DE G X W own lk (.Call (.Name x p) (e :: es) [] pos) (tCallS (spD G n fr Φ) (WE W) t) (callF Φ fs) := by
  obtain ⟨f, fd, ps, C, hm, hkp, hb⟩ := C.ex
  refine ⟨?_, ?_⟩
  · have C' : FnOk X.prog X.w X.K X.mg X.base (L2.CX X.prog X.w) kf f fd ps (spD G n fr Φ) := by rw [F.prog, F.w, F.K, F.mg, F.base]; exact C
    exact pe_callS C' ((F.room hh).mono hk) (fit_gl F hg) (by rw [F.mg]; exact hm) (by rw [F.K]; exact hkp) (by rw [F.K]; exact hb) (fun σ => passAt tk σ) ha.1 hdb he hpl
  · intro Z₀ α δ σ H Q E hX q qe ns
    unfold callF at q qe ns
    refine ha.2 Z₀ α δ σ H _ E hX (fun ds vs H1 hf e1 r1 => ?_) (fun x H1 hf e1 => ?_) (R.notstk_bind ns)
    · rw [hf] at q qe ns
      simp only [R.bind_ok] at q qe ns
      have z : ZOk H1 (ZZ Z₀ α (minus own lk)) := (E.ext e1).zsub minus_sub
      exact ⟨_, ds, hlen δ ds hf, z, r1, fun d v H' hd e2 r2 => q d v H' hd (e1.trans e2) (r2.rep z e2), fun x H' hx e2 => qe x H' hx (e1.trans e2), ns⟩
    · rw [hf] at qe
      exact qe x H1 rfl e1
def isLst (f : DEnv → R D) : DEnv → R D := fun δ => (f δ).bind fun d => match d with
  | .lst ds => .ok (.lst ds)
  | _ => .stk
/-- a def that gives a new list -/
theorem d_callF {kf n : Nat} {Φ : List D → R D} (F : Fit G S k X) (tk : Takes X W) (C : FnD G kf x n true Φ) (hk : kf ≤ k) (hg : S.sc.names.lookup x = some .globalImplicit) (ha : DA G X W own lk (e :: es) t fs) (hl : (e :: es).length = n)
    (hdb : (x == ("__debug__" : PySem.Str)) = false := by decide) (he : starEach (e :: es) X.env = (false, eval e X.env) :: starEach es X.env := by rfl) (hpl : (backTo pos (starEach es X.env)).any (·.1) = false := by rfl)
    (hlen : ∀ δ ds, fs δ = .ok ds → ds.length = n) (hh : S.hot = false := by rfl) :
    DF G X W own lk (.Call (.Name x p) (e :: es) [] pos) (tCallS (spD G n true Φ) (WE W) t) (isLst (callF Φ fs)) := by
  refine ⟨(d_call F tk C hk hg ha hl hdb he hpl hlen hh).1, ?_⟩
  intro Z₀ α δ σ H Q E hX q qe ns
  unfold isLst callF at q qe ns
  refine ha.2 Z₀ α δ σ H _ E hX (fun ds vs H1 hf e1 r1 => ?_) (fun x H1 hf e1 => ?_) (fun h => by rw [h] at ns; exact ns rfl)
  · rw [hf] at q qe ns
    simp only [R.bind_ok] at q qe ns
    have z : ZOk H1 (ZZ Z₀ α (minus own lk)) := (E.ext e1).zsub minus_sub
    refine ⟨_, ds, hlen δ ds hf, z, r1, fun d v H' hd e2 r2 => ?_, fun x H' hx e2 => qe x H' (by rw [hx]; rfl) (e1.trans e2), fun h => by rw [h] at ns; exact ns rfl⟩
    rw [hd] at q ns
    simp only [R.bind_ok] at q ns
    cases d with
    | lst dl =>
      rcases r2 with ⟨_, a, rfl, hn, t⟩ | ⟨_, hi, _⟩ | ⟨hf, _⟩
      · exact q _ a H' rfl (e1.trans e2) (e1.free hn) t
      · cases hi
      · cases hf
    | _ => exact absurd rfl ns
  · rw [hf] at qe
    exact qe x H1 rfl e1
/-- how many arguments there are -/
theorem len_nil : ∀ δ ds, nilA δ = .ok ds → ds.length = 0 := fun δ ds h => by cases h; rfl
theorem len_cons {f : DEnv → R D} {g : DEnv → R (List D)} {n : Nat} (hg : ∀ δ ds, g δ = .ok ds → ds.length = n) : ∀ δ ds, consA f g δ = .ok ds → ds.length = n + 1 := fun δ ds h => by
  unfold consA at h
  cases e1 : f δ with
  | ok d =>
    rw [e1] at h
    simp only [R.bind_ok] at h
    cases e2 : g δ with
    | ok es => rw [e2] at h; cases h; simp [hg δ es e2]
    | err _ => rw [e2] at h; cases h
    | stk => rw [e2] at h; cases h
  | err _ => rw [e1] at h; cases h
  | stk => rw [e1] at h; cases h
end
end DL

set_option maxRecDepth 100001
set_option maxHeartbeats 1000001
namespace DL
open PySem PySem.Spec PyProof.Rows L2

section
variable {G : Cfg} {S : Sco} {k : Nat} {X : Cx} {W : WX} {own lk l1 l2 l3 : List Nat} {pos p : Pos} {e a b tg : Expr} {es : List Expr} {t : TA} {fs : DEnv → R (List D)} {x : PySem.Str} {te ta tb : TE} {f g : DEnv → R D}

/-! ### what is walked -/
def SI (G : Cfg) (W : WX) (own lk : List Nat) (wi : TI) (f : DEnv → R (List D)) : Prop := ∀ (Z₀ : Addr → Prop) (α : Nat → Addr) (δ : DEnv) (σ : L2.St) (H : Hp) (R₀ : It → Hp → Prop), EnvOk G.K Z₀ α own δ σ H → G.xi σ →
  (∀ ds J H1 Gd Y, f δ = .ok ds → Ext H H1 → Walk J ds.length Gd Y → (∀ H', Keeps (ZZ Z₀ α (minus own lk)) H1 H' → Gd H') →
    (∀ (Z' : Addr → Prop) i d x H2 H3, ds[i]? = some d → (∀ a, Z' a → ZZ Z₀ α (minus own lk) a ∨ H1 a = none) → Keeps (ZZ Z₀ α (minus own lk)) H1 H2 → ZOk H2 Z' → Y i H2 x H3 → Ext H2 H3 ∧ Rep G.K H3 Z' d x) → R₀ J H1) →
  (∀ x H', f δ = .err x → Ext H H' → W (G.cv x.cls) none σ H') → f δ ≠ .stk → wi σ H R₀
def DI (G : Cfg) (X : Cx) (W : WX) (own lk : List Nat) (tg e : Expr) (wi : TI) (f : DEnv → R (List D)) : Prop := PI X tg e wi ∧ SI G W own lk wi f
def itL (f : DEnv → R D) : DEnv → R (List D) := fun δ => (f δ).bind fun d => match d with
  | .lst ds => .ok ds
  | .scr ds => .ok ds
  | _ => .stk
def itT (f : DEnv → R D) : DEnv → R (List D) := fun δ => (f δ).bind fun d => match d with
  | .tup ds => .ok ds
  | _ => .stk
theorem Keeps.frz {Z : Addr → Prop} {H H' : Hp} (k : Keeps Z H H') (z : ZOk H Z) {a : Addr} {o : Obj} {u : HO} (h : H a = some (.frz o u)) : H' a = some (.frz o u) := k _ _ (fun q => z.nofrz _ _ _ q h) h
theorem i_list (F : Fit G S k X) (h : DE G X W own lk e te f) : DI G X W own lk tg e (iList G.K te) (itL f) := by
  refine ⟨F.K ▸ pi_list h.1, ?_⟩
  intro Z₀ α δ σ H R₀ E hX q qe ns
  unfold itL at q qe ns
  refine h.2 Z₀ α δ σ H _ E hX (fun d v H1 hf e1 r1 => ?_) (fun x H1 hf e1 => ?_) (R.notstk_bind ns)
  · rw [hf] at q ns
    simp only [R.bind_ok] at q ns
    have z : ZOk H1 (ZZ Z₀ α (minus own lk)) := (E.ext e1).zsub minus_sub
    cases d with
    | lst ds =>
      obtain ⟨p, vs, rfl, t, n, rr⟩ := r1
      refine ⟨p, rfl, ⟨vs, SqL.of t⟩, q ds _ H1 _ _ rfl e1 (rr.len ▸ walk_list (K := G.K) (a := p) (xs := vs)) (fun H' kp => SqL.of (kp _ _ n t)) (fun Z' i d x H2 H3 hd hz kp z2 y => ?_)⟩
      obtain ⟨rfl, hx⟩ := y
      obtain ⟨v, hv, rv⟩ := rr.get hd
      rw [hv] at hx; cases hx
      exact ⟨Same.refl _, Rep.step z hz kp _ _ rv⟩
    | scr ds =>
      obtain ⟨p, vs, rfl, t, rr⟩ := r1
      refine ⟨p, rfl, ⟨vs, t.sqL⟩, q ds _ H1 _ _ rfl e1 (rr.len ▸ walk_list (K := G.K) (a := p) (xs := vs)) (fun H' kp => (t.mono kp (fun _ q => q)).sqL) (fun Z' i d x H2 H3 hd hz kp z2 y => ?_)⟩
      obtain ⟨rfl, hx⟩ := y
      obtain ⟨v, hv, rv⟩ := rr.get hd
      rw [hv] at hx; cases hx
      exact ⟨Same.refl _, Rep.step z hz kp _ _ rv⟩
    | _ => exact absurd rfl ns
  · rw [hf] at qe
    exact qe x H1 rfl e1
theorem TupAt.keep {K : PySem.W.Frag} {Z : Addr → Prop} {H H' : Hp} {a : Addr} {xs : List V} (k : Keeps Z H H') (t : TupAt K H Z a xs) : SqT K H' a xs := (t.mono k (fun _ q => q)).sqT
theorem i_tup (F : Fit G S k X) (h : DE G X W own lk e te f) : DI G X W own lk tg e (iTup G.K te) (itT f) := by
  refine ⟨F.K ▸ pi_tup h.1, ?_⟩
  intro Z₀ α δ σ H R₀ E hX q qe ns
  unfold itT at q qe ns
  refine h.2 Z₀ α δ σ H _ E hX (fun d v H1 hf e1 r1 => ?_) (fun x H1 hf e1 => ?_) (R.notstk_bind ns)
  · rw [hf] at q ns
    simp only [R.bind_ok] at q ns
    have z : ZOk H1 (ZZ Z₀ α (minus own lk)) := (E.ext e1).zsub minus_sub
    cases d with
    | tup ds =>
      obtain ⟨p, vs, rfl, t, rr⟩ := r1
      refine ⟨p, rfl, ⟨vs, t.sqT⟩, q ds _ H1 _ _ rfl e1 (rr.len ▸ walk_tup (K := G.K) (a := p) (xs := vs)) (fun H' kp => t.keep kp) (fun Z' i d x H2 H3 hd hz kp z2 y => ?_)⟩
      obtain ⟨rfl, hx⟩ := y
      obtain ⟨v, hv, rv⟩ := rr.get hd
      rw [hv] at hx; cases hx
      exact ⟨Same.refl _, Rep.step z hz kp _ _ rv⟩
    | _ => exact absurd rfl ns
  · rw [hf] at qe
    exact qe x H1 rfl e1
def intsFrom (lo : Int) (n : Nat) : List D := (List.range n).map fun i => D.int (lo + (i : Nat))
def smR (j : Int) : Prop := -(2 ^ 62) ≤ j ∧ j < 2 ^ 62
open Classical in
noncomputable def rng1 (fs : DEnv → R (List D)) : DEnv → R (List D) := fun δ => (fs δ).bind fun ds => match ds with
  | [.int j] => if smR j then .ok (intsFrom 0 j.toNat) else .stk
  | _ => .stk
open Classical in
noncomputable def rng2 (fs : DEnv → R (List D)) : DEnv → R (List D) := fun δ => (fs δ).bind fun ds => match ds with
  | [.int i, .int j] => if smR i ∧ smR j then .ok (intsFrom i (j - i).toNat) else .stk
  | _ => .stk
theorem ints_len (lo : Int) (n : Nat) : (intsFrom lo n).length = n := by simp [intsFrom]
theorem ints_get {lo : Int} {n i : Nat} {d : D} (h : (intsFrom lo n)[i]? = some d) : d = .int (lo + (i : Nat)) := by
  unfold intsFrom at h
  rw [List.getElem?_map] at h
  by_cases hi : i < n
  · rw [List.getElem?_range hi] at h
    simpa using h.symm
  · rw [List.getElem?_eq_none (by simpa using hi)] at h
    cases h
theorem i_rng1 (F : Fit G S k X) (hg : S.sc.names.lookup (PySem.Str.ofString "range") = some .globalImplicit) (hm : G.mg (PySem.Str.ofString "range") = none) (ha : DA G X W own lk [a] t fs) (hs : starEach [a] X.env = [(false, eval a X.env)] := by rfl) :
    DI G X W own lk tg (.Call (.Name (PySem.Str.ofString "range") p) [a] [] pos) (iRng1 t) (rng1 fs) := by
  refine ⟨pi_range1 (fit_gl F hg) (by rw [F.mg]; exact hm) ha.1 hs, ?_⟩
  intro Z₀ α δ σ H R₀ E hX q qe ns
  unfold rng1 at q qe ns
  refine ha.2 Z₀ α δ σ H _ E hX (fun ds vs H1 hf e1 r1 => ?_) (fun x H1 hf e1 => ?_) (R.notstk_bind ns)
  · rw [hf] at q ns
    simp only [R.bind_ok] at q ns
    split at ns
    · obtain ⟨v, u, rfl, hv, rfl⟩ := r1
      cases hv.int
      rename_i j
      simp only at q ns
      by_cases hj : smR j
      · rw [if_pos hj] at q
        refine ⟨j, rfl, hj.1, hj.2, q _ _ H1 _ _ rfl e1 (by rw [ints_len]; exact walk_range) (fun _ _ => True.intro) (fun Z' i d x H2 H3 hd hz kp z2 y => ?_)⟩
        obtain ⟨rfl, rfl⟩ := y
        rw [ints_get hd]
        exact ⟨Same.refl _, rfl⟩
      · rw [if_neg hj] at ns; exact absurd rfl ns
    · exact absurd rfl ns
  · rw [hf] at qe
    exact qe x H1 rfl e1
theorem i_rng2 (F : Fit G S k X) (hg : S.sc.names.lookup (PySem.Str.ofString "range") = some .globalImplicit) (hm : G.mg (PySem.Str.ofString "range") = none) (ha : DA G X W own lk [a, b] t fs) (hs : starEach [a, b] X.env = [(false, eval a X.env), (false, eval b X.env)] := by rfl) (hs2 : starEach [b] X.env = [(false, eval b X.env)] := by rfl) :
    DI G X W own lk tg (.Call (.Name (PySem.Str.ofString "range") p) [a, b] [] pos) (iRng2 t) (rng2 fs) := by
  refine ⟨pi_range2 (fit_gl F hg) (by rw [F.mg]; exact hm) ha.1 hs hs2, ?_⟩
  intro Z₀ α δ σ H R₀ E hX q qe ns
  unfold rng2 at q qe ns
  refine ha.2 Z₀ α δ σ H _ E hX (fun ds vs H1 hf e1 r1 => ?_) (fun x H1 hf e1 => ?_) (R.notstk_bind ns)
  · rw [hf] at q ns
    simp only [R.bind_ok] at q ns
    split at ns
    · obtain ⟨v, u, rfl, hv, v2, u2, rfl, hv2, rfl⟩ := r1
      cases hv.int; cases hv2.int
      rename_i i j
      simp only at q ns
      by_cases hj : smR i ∧ smR j
      · rw [if_pos hj] at q
        refine ⟨i, j, rfl, ⟨hj.1.1, hj.1.2, hj.2.1, hj.2.2⟩, q _ _ H1 _ _ rfl e1 (by rw [ints_len]; exact walk_range) (fun _ _ => True.intro) (fun Z' i d x H2 H3 hd hz kp z2 y => ?_)⟩
        obtain ⟨rfl, rfl⟩ := y
        rw [ints_get hd]
        exact ⟨Same.refl _, rfl⟩
      · rw [if_neg hj] at ns; exact absurd rfl ns
    · exact absurd rfl ns
  · rw [hf] at qe
    exact qe x H1 rfl e1
/-- zip of two lists -/
def zipPairs : List D → List D → List D
  | x :: xs, y :: ys => .tup [x, y] :: zipPairs xs ys
  | _, _ => []
theorem zip_len : ∀ xs ys : List D, (zipPairs xs ys).length = min xs.length ys.length
  | [], _ => by simp [zipPairs]
  | _ :: _, [] => by simp [zipPairs]
  | x :: xs, y :: ys => by simp [zipPairs, zip_len xs ys]; done
theorem zip_get : ∀ {xs ys : List D} {i : Nat} {d : D}, (zipPairs xs ys)[i]? = some d → ∃ x y, xs[i]? = some x ∧ ys[i]? = some y ∧ d = .tup [x, y]
  | [], _, _, _, h => by simp [zipPairs] at h
  | _ :: _, [], _, _, h => by simp [zipPairs] at h
  | x :: xs, y :: ys, 0, _, h => by simp [zipPairs] at h; exact ⟨x, y, rfl, rfl, h.symm⟩
  | x :: xs, y :: ys, i + 1, _, h => by
    obtain ⟨x', y', h1, h2, h3⟩ := zip_get (i := i) (by simpa [zipPairs] using h)
    exact ⟨x', y', by simpa using h1, by simpa using h2, h3⟩
def seqOf : D → Option (List D × Bool)
  | .lst ds => some (ds, true)
  | .scr ds => some (ds, true)
  | .tup ds => some (ds, false)
  | _ => none
def zipA (fs : DEnv → R (List D)) : DEnv → R (List D) := fun δ => (fs δ).bind fun ds => match ds with
  | [.lst xs, .lst ys] => .ok (zipPairs xs ys)
  | [.tup xs, .tup ys] => .ok (zipPairs xs ys)
  | _ => .stk
theorem walk_zipT {K : PySem.W.Frag} {a b : Addr} {xs ys : List V} {n : Nat} (hn : n = min xs.length ys.length) : Walk (RZ.ItzT K a b) n (fun H => SqT K H a xs ∧ SqT K H b ys) (YPair (fun i => xs[i]?) (fun i => ys[i]?)) := by
  subst hn
  refine ⟨fun i _ hi q => ?_, fun _ q => ⟨xs, ys, q.1, q.2, by omega⟩, fun i H v H' _ q y => ?_⟩
  · have h1 : i < xs.length := by omega
    have h2 : i < ys.length := by omega
    exact ⟨xs, ys, xs[i], ys[i], q.1, q.2, by simp [h1], by simp [h2]⟩
  · obtain ⟨T, x, z, h1, h2, h3, h4, h5⟩ := y
    exact ⟨T, x, z, h1, h2, h3, h4 xs q.1, h5 ys q.2⟩
theorem rep_pair {K : PySem.W.Frag} {H : Hp} {Z : Addr → Prop} {T : Addr} {x y : V} {d e : D} (z : ZOk H Z) (hT : H T = none) (h1 : Rep K H Z d x) (h2 : Rep K H Z e y) : Ext H (upd H T (.tup [x, y])) ∧ Rep K (upd H T (.tup [x, y])) Z (.tup [d, e]) (.ref T) :=
  ⟨ext_upd hT, T, [x, y], rfl, .inl ⟨.inl upd_same, z.new hT⟩, x, [y], rfl, rep_upd z hT h1, y, [], rfl, rep_upd z hT h2, rfl⟩
theorem i_zip {elts : List Expr} {kk : Nat} {tpos : Pos} (F : Fit G S k X) (hg : S.sc.names.lookup (PySem.Str.ofString "zip") = some .globalImplicit) (hm : G.mg (PySem.Str.ofString "zip") = none) (ha : DA G X W own lk [a, b] t fs)
    (hs : starEach [a, b] X.env = (false, eval a X.env) :: starEach [b] X.env := by rfl) (hpl : (backTo pos (starEach [b] X.env)).any (·.1) = false := by rfl) :
    DI G X W own lk (.Tuple elts kk tpos) (.Call (.Name (PySem.Str.ofString "zip") p) [a, b] [] pos) (RZ.iZipA G.K t) (zipA fs) := by
  refine ⟨F.K ▸ RZ.pi_zipA (fit_gl F hg) (by rw [F.mg]; exact hm) ha.1 hs hpl, ?_⟩
  intro Z₀ α δ σ H R₀ E hX q qe ns
  unfold zipA at q qe ns
  refine ha.2 Z₀ α δ σ H _ E hX (fun ds vs H1 hf e1 r1 => ?_) (fun x H1 hf e1 => ?_) (R.notstk_bind ns)
  · rw [hf] at q ns
    simp only [R.bind_ok] at q ns
    have z : ZOk H1 (ZZ Z₀ α (minus own lk)) := (E.ext e1).zsub minus_sub
    split at ns
    · rename_i xs ys
      obtain ⟨v, u, rfl, ⟨p1, us, rfl, t1, n1, rr1⟩, v2, u2, rfl, ⟨p2, ws, rfl, t2, n2, rr2⟩, rfl⟩ := r1
      refine ⟨p1, p2, us, ws, rfl, .inl ⟨SqL.of t1, SqL.of t2, q _ _ H1 _ _ rfl e1 (walk_zip (K := G.K) (a := p1) (b := p2) (xs := us) (ys := ws) (by rw [zip_len, rr1.len, rr2.len])) (fun H' kp => ⟨SqL.of (kp _ _ n1 t1), SqL.of (kp _ _ n2 t2)⟩) (fun Z' i d x H2 H3 hd hz kp z2 y => ?_)⟩⟩
      obtain ⟨T, x1, x2, rfl, hT, rfl, f1, f2⟩ := y
      obtain ⟨d1, d2, g1, g2, rfl⟩ := zip_get hd
      obtain ⟨w1, h1, q1⟩ := rr1.get g1
      obtain ⟨w2, h2, q2⟩ := rr2.get g2
      have f1' : us[i]? = some x1 := f1
      have f2' : ws[i]? = some x2 := f2
      rw [h1] at f1'; cases f1'
      rw [h2] at f2'; cases f2'
      exact rep_pair z2 hT (Rep.step z hz kp _ _ q1) (Rep.step z hz kp _ _ q2)
    · rename_i xs ys
      obtain ⟨v, u, rfl, ⟨p1, us, rfl, t1, rr1⟩, v2, u2, rfl, ⟨p2, ws, rfl, t2, rr2⟩, rfl⟩ := r1
      refine ⟨p1, p2, us, ws, rfl, .inr ⟨t1.sqT, t2.sqT, q _ _ H1 _ _ rfl e1 (walk_zipT (K := G.K) (a := p1) (b := p2) (xs := us) (ys := ws) (by rw [zip_len, rr1.len, rr2.len])) (fun H' kp => ⟨t1.keep kp, t2.keep kp⟩) (fun Z' i d x H2 H3 hd hz kp z2 y => ?_)⟩⟩
      obtain ⟨T, x1, x2, rfl, hT, rfl, f1, f2⟩ := y
      obtain ⟨d1, d2, g1, g2, rfl⟩ := zip_get hd
      obtain ⟨w1, h1, q1⟩ := rr1.get g1
      obtain ⟨w2, h2, q2⟩ := rr2.get g2
      have f1' : us[i]? = some x1 := f1
      have f2' : ws[i]? = some x2 := f2
      rw [h1] at f1'; cases f1'
      rw [h2] at f2'; cases f2'
      exact rep_pair z2 hT (Rep.step z hz kp _ _ q1) (Rep.step z hz kp _ _ q2)
    · exact absurd rfl ns
  · rw [hf] at qe
    exact qe x H1 rfl e1
/-- enumerate of a list -/
def enumFrom' (i : Nat) : List D → List D
  | [] => []
  | d :: ds => .tup [.int (i : Nat), d] :: enumFrom' (i + 1) ds
theorem enum_len : ∀ (ds : List D) (i : Nat), (enumFrom' i ds).length = ds.length
  | [], _ => rfl
  | d :: ds, i => by simp [enumFrom', enum_len ds (i + 1)]
theorem enum_get : ∀ {ds : List D} {i j : Nat} {d : D}, (enumFrom' j ds)[i]? = some d → ∃ x, ds[i]? = some x ∧ d = .tup [.int ((j + i : Nat) : Int), x]
  | [], _, _, _, h => by simp [enumFrom'] at h
  | x :: ds, 0, j, _, h => by simp [enumFrom'] at h; exact ⟨x, rfl, by simpa using h.symm⟩
  | x :: ds, i + 1, j, _, h => by
    obtain ⟨y, h1, h2⟩ := enum_get (ds := ds) (i := i) (j := j + 1) (by simpa [enumFrom'] using h)
    refine ⟨y, by simpa using h1, ?_⟩
    rw [h2, show j + 1 + i = j + (i + 1) by omega]
def enumA (fs : DEnv → R (List D)) : DEnv → R (List D) := fun δ => (fs δ).bind fun ds => match ds with
  | [.lst xs] => .ok (enumFrom' 0 xs)
  | _ => .stk
theorem i_enum {elts : List Expr} {kk : Nat} {tpos : Pos} (F : Fit G S k X) (hg : S.sc.names.lookup (PySem.Str.ofString "enumerate") = some .globalImplicit) (hm : G.mg (PySem.Str.ofString "enumerate") = none) (ha : DA G X W own lk [a] t fs)
    (hs : starEach [a] X.env = [(false, eval a X.env)] := by rfl) :
    DI G X W own lk (.Tuple elts kk tpos) (.Call (.Name (PySem.Str.ofString "enumerate") p) [a] [] pos) (iEnum G.K t) (enumA fs) := by
  refine ⟨F.K ▸ pi_enum (fit_gl F hg) (by rw [F.mg]; exact hm) ha.1 hs, ?_⟩
  intro Z₀ α δ σ H R₀ E hX q qe ns
  unfold enumA at q qe ns
  refine ha.2 Z₀ α δ σ H _ E hX (fun ds vs H1 hf e1 r1 => ?_) (fun x H1 hf e1 => ?_) (R.notstk_bind ns)
  · rw [hf] at q ns
    simp only [R.bind_ok] at q ns
    have z : ZOk H1 (ZZ Z₀ α (minus own lk)) := (E.ext e1).zsub minus_sub
    split at ns
    · rename_i xs
      obtain ⟨v, u, rfl, ⟨p1, us, rfl, t1, n1, rr1⟩, rfl⟩ := r1
      refine ⟨p1, us, rfl, SqL.of t1, q _ _ H1 _ _ rfl e1 (by rw [enum_len, ← rr1.len]; exact walk_enum) (fun H' kp => SqL.of (kp _ _ n1 t1)) (fun Z' i d x H2 H3 hd hz kp z2 y => ?_)⟩
      obtain ⟨T, x1, x2, rfl, hT, rfl, f1, f2⟩ := y
      obtain ⟨d2, g2, rfl⟩ := enum_get hd
      obtain ⟨w2, h2, q2⟩ := rr1.get g2
      have f2' : us[i]? = some x2 := f2
      rw [h2] at f2'; cases f2'
      cases f1
      exact rep_pair z2 hT (by rw [Nat.zero_add]; rfl) (Rep.step z hz kp _ _ q2)
    · exact absurd rfl ns
  · rw [hf] at qe
    exact qe x H1 rfl e1

/-! ### targets -/
def SG (G : Cfg) (own ts : List Nat) (g : TG) (h : D → DEnv → R DEnv) : Prop := ∀ (Z₀ : Addr → Prop) (α : Nat → Addr) (δ : DEnv) (σ : L2.St) (H : Hp) (v : V) (d : D) (Q : L2.St → Hp → Prop), EnvOk G.K Z₀ α own δ σ H → Rep G.K H (ZZ Z₀ α own) d v →
  (∀ δ' σ', h d δ = .ok δ' → EnvOk G.K Z₀ α own δ' σ' H → (∀ vs, (∀ i ∈ ts, i ∈ vs) → wipe σ' vs = wipe σ vs) → Q σ' H) → (∃ δ', h d δ = .ok δ') → g v σ H Q
def SGs (G : Cfg) (own ts : List Nat) (g : TGs) (h : List D → DEnv → R DEnv) : Prop := ∀ (Z₀ : Addr → Prop) (α : Nat → Addr) (δ : DEnv) (σ : L2.St) (H : Hp) (vs : List V) (ds : List D) (Q : L2.St → Hp → Prop), EnvOk G.K Z₀ α own δ σ H → RepL G.K H (ZZ Z₀ α own) ds vs →
  (∀ δ' σ', h ds δ = .ok δ' → EnvOk G.K Z₀ α own δ' σ' H → (∀ vs, (∀ i ∈ ts, i ∈ vs) → wipe σ' vs = wipe σ vs) → Q σ' H) → (∃ δ', h ds δ = .ok δ') → g vs σ H Q
def DG (G : Cfg) (X : Cx) (own ts : List Nat) (tg : Expr) (g : TG) (h : D → DEnv → R DEnv) : Prop := PG X tg g ∧ SG G own ts g h
def DGs (G : Cfg) (X : Cx) (own ts : List Nat) (tg : List Expr) (g : TGs) (h : List D → DEnv → R DEnv) : Prop := PGs X tg g ∧ SGs G own ts g h
def putD (i : Nat) : D → DEnv → R DEnv := fun d δ => if i < δ.length then .ok (δ.set i (some d)) else .stk
theorem wipe_set {σ : L2.St} {i : Nat} {x : Option V} : ∀ {vs : List Nat}, i ∈ vs → wipe (σ.set i x) vs = wipe σ vs
  | v :: vs, h => by
    unfold wipe
    by_cases e : i ∈ vs
    · rw [wipe_set e]
    · rcases List.mem_cons.mp h with rfl | h'
      · have : wipe (σ.set i x) vs = (wipe σ vs).set i x := by
          clear h
          induction vs with
          | nil => rfl
          | cons w ws ih =>
            have hne : i ≠ w := fun z => e (by rw [z]; exact List.mem_cons_self)
            unfold wipe
            rw [ih (fun z => e (List.mem_cons_of_mem _ z)), List.set_comm _ _ hne]
        rw [this, List.set_set]
      · exact absurd h' e
theorem g_name {i : Nat} (F : Fit G S k X) (hN : S.N.Nodup) (hi : S.N[i]? = some x) (hx : L2.Loc S.sc x) (hf : S.fn x = true ∨ S.sc.names.lookup x = some .local) (ho : i ∉ own) : DG G X own [i] (.Name x pos) (gName i) (putD i) := by
  refine ⟨pg_name (by rw [F.N]; exact hN) (by rw [F.N]; exact hi) (by rw [F.sc]; exact hx) (by rw [F.fn, F.sc]; exact hf), ?_⟩
  intro Z₀ α δ σ H v d Q E r q hq
  unfold putD at q hq
  by_cases hl : i < δ.length
  · rw [if_pos hl] at q
    exact q _ _ rfl (E.put hl ho r) (fun vs h => wipe_set (h i (by simp)))
  · rw [if_neg hl] at hq
    obtain ⟨_, h⟩ := hq; cases h
def nilT : List D → DEnv → R DEnv := fun ds δ => match ds with
  | [] => .ok δ
  | _ => .stk
def consT (h : D → DEnv → R DEnv) (hs : List D → DEnv → R DEnv) : List D → DEnv → R DEnv := fun ds δ => match ds with
  | d :: r => (h d δ).bind fun δ1 => hs r δ1
  | [] => .stk
def tupT (hs : List D → DEnv → R DEnv) : D → DEnv → R DEnv := fun d δ => match d with
  | .tup ds => hs ds δ
  | _ => .stk
theorem gs_nil : DGs G X own [] [] gNil nilT := by
  refine ⟨pgs_nil, ?_⟩
  intro Z₀ α δ σ H vs ds Q E r q hq
  unfold nilT at q hq
  cases ds with
  | nil => cases (show vs = [] from r); exact ⟨rfl, q _ _ rfl E (fun _ _ => rfl)⟩
  | cons d ds => obtain ⟨_, h⟩ := hq; cases h
theorem gs_cons {e : Expr} {es : List Expr} {g : TG} {gs : TGs} {h : D → DEnv → R DEnv} {hs : List D → DEnv → R DEnv} (h1 : DG G X own l1 e g h) (h2 : DGs G X own l2 es gs hs) (hst : (assignEach (e :: es) X.env).map (·.2) = assign e X.env :: (assignEach es X.env).map (·.2) := by rfl) :
    DGs G X own (l1 ++ l2) (e :: es) (gCons g gs) (consT h hs) := by
  refine ⟨pgs_cons h1.1 h2.1 hst, ?_⟩
  intro Z₀ α δ σ H vs ds Q E r q hq
  unfold consT at q hq
  cases ds with
  | nil => obtain ⟨_, h⟩ := hq; cases h
  | cons d ds =>
    obtain ⟨v, u, rfl, r1, r2⟩ := r
    simp only at q hq
    cases hh : h d δ with
    | ok δ1 =>
      rw [hh] at q hq
      simp only [R.bind_ok] at q hq
      refine ⟨v, u, rfl, h1.2 Z₀ α δ σ H v d _ E r1 (fun δ' σ' e1 E1 w1 => ?_) ⟨δ1, hh⟩⟩
      rw [hh] at e1; cases e1
      exact h2.2 Z₀ α δ1 σ' H u ds Q E1 r2 (fun δ2 σ2 e2 E2 w2 => q δ2 σ2 e2 E2 fun vs hv => (w2 vs fun i hi => hv i (List.mem_append_right _ hi)).trans (w1 vs fun i hi => hv i (List.mem_append_left _ hi))) hq
    | err _ => rw [hh] at hq; obtain ⟨_, h⟩ := hq; cases h
    | stk => rw [hh] at hq; obtain ⟨_, h⟩ := hq; cases h
theorem hs_len : ∀ {ds : List D} {es : List Expr} {gs : TGs} {hs : List D → DEnv → R DEnv} {ts : List Nat} {δ δ' : DEnv}, True → True := fun _ => True.intro
/-- (a, b, ..) from a tuple -/
theorem g_tup {es : List Expr} {kk n : Nat} {gs : TGs} {hs : List D → DEnv → R DEnv} (F : Fit G S k X) (h : DGs G X own l1 es gs hs) (hn : (assignEach es X.env).length = n) (hst : (assignEach es X.env).findIdx? (·.1) = none := by rfl) (hl : ∀ ds δ δ', hs ds δ = .ok δ' → ds.length = n) (hh : S.hot = false := by rfl) :
    DG G X own l1 (.Tuple es kk pos) (gTup G.K n gs) (tupT hs) := by
  refine ⟨F.K ▸ pg_tup (F.calm hh) h.1 hn hst, ?_⟩
  intro Z₀ α δ σ H v d Q E r q hq
  unfold tupT at q hq
  cases d with
  | tup ds =>
    obtain ⟨p, vs, rfl, t, rr⟩ := r
    obtain ⟨δ', hd⟩ := hq
    exact ⟨p, vs, rfl, t.sqT, by rw [rr.len]; exact hl _ _ _ hd, h.2 Z₀ α δ σ H vs ds Q E rr q ⟨δ', hd⟩⟩
  | _ => obtain ⟨_, h⟩ := hq; cases h
theorem lenT_nil : ∀ ds δ δ', nilT ds δ = .ok δ' → ds.length = 0 := fun ds δ δ' h => by
  cases ds with
  | nil => rfl
  | cons _ _ => cases h
theorem lenT_cons {h : D → DEnv → R DEnv} {hs : List D → DEnv → R DEnv} {n : Nat} (hl : ∀ ds δ δ', hs ds δ = .ok δ' → ds.length = n) : ∀ ds δ δ', consT h hs ds δ = .ok δ' → ds.length = n + 1 := fun ds δ δ' q => by
  cases ds with
  | nil => cases q
  | cons d ds =>
    unfold consT at q
    simp only at q
    cases hh : h d δ with
    | ok δ1 => rw [hh] at q; simp [hl _ _ _ q]
    | err _ => rw [hh] at q; cases q
    | stk => rw [hh] at q; cases q
end
end DL

set_option maxRecDepth 100001
set_option maxHeartbeats 1000001
namespace DL
open PySem PySem.Spec PyProof.Rows L2

abbrev W0 : WX := fun _ _ _ _ => False
def Sco.blk (S : Sco) (scope : Scope) : Sco := { N := S.N, sc := relS scope S.sc, fn := fun x => scope.names.lookup x == some .cell, hot := S.hot, top := false }
theorem Fit.blk {G : Cfg} {S : Sco} {k : Nat} {X : Cx} (F : Fit G S k X) (s : Shared) (H : Hp) (scope : Scope) (C : Addr) (cl : List (PySem.Str × Addr)) (fp : List Addr) : Fit G (S.blk scope) k (X.blk s H scope (compEnvC scope cl C X.env) fp) where
  prog := F.prog
  w := F.w
  K := F.K
  mg := F.mg
  base := F.base
  N := F.N
  sc := by
    show relS scope X.env.scope = relS scope S.sc
    rw [F.sc]
  fn := rfl
  room' := F.room'
  calm' := F.calm'
  xi' := F.xi'
  tp' := fun h => nomatch h
def wipeD (δ : DEnv) : List Nat → DEnv
  | [] => δ
  | v :: vs => (wipeD δ vs).set v none
section
variable {K : PySem.W.Frag} {H H' : Hp} {Z₀ : Addr → Prop} {α : Nat → Addr} {own own' : List Nat} {δ : DEnv} {σ : L2.St}
theorem EnvOk.wipe (E : EnvOk K Z₀ α own δ σ H) : ∀ (vs : List Nat), (∀ i ∈ vs, i ∉ own) → EnvOk K Z₀ α own (wipeD δ vs) (L2.wipe σ vs) H
  | [], _ => E
  | v :: vs, h => by
    unfold wipeD L2.wipe
    exact (EnvOk.wipe E vs fun i hi => h i (List.mem_cons_of_mem _ hi)).unset (h v List.mem_cons_self)
/-- one more address is kept clear of: it was not there ahead -/
theorem EnvOk.guard (E : EnvOk K Z₀ α own δ σ H) {p : Addr} (hp : H p = none) (e : Ext H H') (hm : ∃ o, H' p = some o ∧ Mut (some o)) : EnvOk K (fun b => Z₀ b ∨ b = p) α own δ σ H' := by
  have zz : ∀ b, ZZ (fun b => Z₀ b ∨ b = p) α own b → (ZZ Z₀ α own b ∨ b = p) := fun b => by
    rintro ((q | q) | ⟨j, hj, q⟩)
    · exact .inl (.inl q)
    · exact .inr q
    · exact .inl (.inr ⟨j, hj, q⟩)
  have nal : ∀ j ∈ own, α j ≠ p := fun j hj q => by
    obtain ⟨d', _, _, t'⟩ := E.top j hj
    obtain ⟨o, h1, _⟩ := t'.mut
    rw [q, hp] at h1; cases h1
  have nf : ∀ b o u, (ZZ Z₀ α own b ∨ b = p) → H b ≠ some (.frz o u) := fun b o u hb => by
    rcases hb with hb | rfl
    · exact E.zok.nofrz b o u hb
    · rw [hp]; exact fun z => nomatch z
  refine ⟨fun b q => ?_, fun i hi q => ?_, E.inj, E.len, fun i d hi hd => ?_, fun i hi => ?_⟩
  · rcases q with q | rfl
    · exact E.z0.ext e b q
    · exact hm
  · rcases q with q | q
    · exact E.nz0 i hi q
    · exact nal i hi q
  · obtain ⟨v, h1, h2⟩ := E.free i d hi hd
    exact ⟨v, h1, Rep.mono nf (.of e) zz _ _ (Rep.avoid hp _ _ h2)⟩
  · obtain ⟨d, h1, h2, h3⟩ := E.top i hi
    refine ⟨d, h1, h2, ?_⟩
    have h4 := Top.avoid (a := p) hp h3
    cases d with
    | lst ds =>
      obtain ⟨vs, g, r⟩ := h4
      exact ⟨vs, e _ _ g, RepL.mono nf (.of e) zz _ _ r⟩
    | _ => exact False.elim h4
theorem ZZ.guard {p : Addr} : ∀ b, (ZZ Z₀ α own b ∨ b = p) → ZZ (fun b => Z₀ b ∨ b = p) α own b := fun b => by
  rintro ((q | ⟨j, hj, q⟩) | q)
  · exact .inl (.inl q)
  · exact .inr ⟨j, hj, q⟩
  · exact .inl (.inr q)
theorem wipe_idem (σ : L2.St) : ∀ vs : List Nat, L2.wipe (L2.wipe σ vs) vs = L2.wipe σ vs := fun vs => by
  have h : ∀ (ws : List Nat), (∀ i ∈ ws, i ∈ vs) → L2.wipe (L2.wipe σ ws) vs = L2.wipe σ vs := by
    intro ws
    induction ws with
    | nil => intro _; rfl
    | cons w ws ih =>
      intro h
      show L2.wipe ((L2.wipe σ ws).set w none) vs = _
      rw [wipe_set (h w List.mem_cons_self)]
      exact ih fun i hi => h i (List.mem_cons_of_mem _ hi)
  exact h vs fun _ hi => hi
end
def DTs (G : Cfg) (X : Cx) (W : WX) (own : List Nat) (es : List Expr) (t : TT) (f : DEnv → R Bool) : Prop := PTs X es t ∧ ST G W own t f
def yesB : DEnv → R Bool := fun _ => .ok true
theorem ts_nil {G : Cfg} {X : Cx} {W : WX} {own : List Nat} : DTs G X W own [] tYes yesB := ⟨pts_nil, fun Z₀ α δ σ H Q E hX q qe ns => q true H rfl (Same.refl H)⟩
theorem ts_one {G : Cfg} {X : Cx} {W : WX} {own : List Nat} {c : Expr} {t : TT} {f : DEnv → R Bool} (h : DT G X W own c t f) : DTs G X W own [c] t f := ⟨pts_one h.1, h.2⟩
def R.ne {β : Type} : R β → R β
  | .ok a => .ok a
  | _ => .stk
@[simp] theorem R.ne_ok {β : Type} (a : β) : (R.ok a).ne = .ok a := rfl
def compD (vs : List Nat) (h : D → DEnv → R DEnv) (c : DEnv → R Bool) (el : DEnv → R D) (δ : DEnv) : List D → R (List D)
  | [] => .ok []
  | d :: ds => (h d (wipeD δ vs)).bind fun δ1 => (c δ1).bind fun b => if b = true then (el δ1).bind fun y => (compD vs h c el δ ds).bind fun r => .ok (y :: r) else compD vs h c el δ ds
def lcD (vs : List Nat) (f : DEnv → R (List D)) (h : D → DEnv → R DEnv) (c : DEnv → R Bool) (el : DEnv → R D) : DEnv → R D := fun δ => (f δ).bind fun items => (compD vs h c el δ items).ne.bind fun r => if r.length ≤ sizeLine then .ok (.lst r) else .stk
theorem compD_step {vs : List Nat} {h : D → DEnv → R DEnv} {c : DEnv → R Bool} {el : DEnv → R D} {δ : DEnv} {d : D} {ds r : List D} (q : compD vs h c el δ (d :: ds) = .ok r) :
    ∃ δ1 b, h d (wipeD δ vs) = .ok δ1 ∧ c δ1 = .ok b ∧ ((b = true ∧ ∃ y r', el δ1 = .ok y ∧ compD vs h c el δ ds = .ok r' ∧ r = y :: r') ∨ (b = false ∧ compD vs h c el δ ds = .ok r)) := by
  unfold compD at q
  cases e1 : h d (wipeD δ vs) with
  | ok δ1 =>
    rw [e1] at q
    simp only [R.bind_ok] at q
    cases e2 : c δ1 with
    | ok b =>
      rw [e2] at q
      simp only [R.bind_ok] at q
      refine ⟨δ1, b, rfl, e2, ?_⟩
      cases b with
      | true =>
        rw [if_pos rfl] at q
        cases e3 : el δ1 with
        | ok y =>
          rw [e3] at q
          simp only [R.bind_ok] at q
          cases e4 : compD vs h c el δ ds with
          | ok r' => rw [e4] at q; cases q; exact .inl ⟨rfl, y, r', rfl, rfl, rfl⟩
          | err _ => rw [e4] at q; cases q
          | stk => rw [e4] at q; cases q
        | err _ => rw [e3] at q; cases q
        | stk => rw [e3] at q; cases q
      | false =>
        rw [if_neg Bool.false_ne_true] at q
        exact .inr ⟨rfl, q⟩
    | err _ => rw [e2] at q; cases q
    | stk => rw [e2] at q; cases q
  | err _ => rw [e1] at q; cases q
  | stk => rw [e1] at q; cases q
section
variable {G : Cfg} {S : Sco} {k : Nat} {X : Cx} {W : WX} {own lk lk2 : List Nat} {pos : Pos} {elt tg iter : Expr} {ifs : List Expr} {scope : Scope} {bo : List (PySem.Str × Nat)} {wi : TI} {g : TG} {tt : TT} {te : TE} {f : DEnv → R (List D)} {h : D → DEnv → R DEnv} {c : DEnv → R Bool} {el : DEnv → R D} {ts : List Nat}
theorem SF.lc (hxi : ∀ σ, G.xi σ) (hi : SI G W own lk wi f) (hg : SG G (minus own lk) ts g h) (ht : ST G W0 (minus own lk) tt c) (he : SE G W0 (minus own lk) lk2 te el) (hts : ∀ i ∈ ts, i ∈ bo.map (·.2)) (hvs : ∀ i ∈ bo.map (·.2), i ∉ minus own lk) :
    SF G W own (lk ++ lk2) (tLc wi g tt te (bo.map (·.2))) (lcD (bo.map (·.2)) f h c el) := by
  intro Z₀ α δ σ H Q E hX q qe ns
  unfold lcD at q qe ns
  refine hi Z₀ α δ σ H _ E hX (fun ds J H1 Gd Y hf e1 wk hG hY => ?_) (fun x H1 hf e1 => ?_) (R.notstk_bind ns)
  · rw [hf] at q ns
    simp only [R.bind_ok] at q ns
    cases hc : compD (bo.map (·.2)) h c el δ ds with
    | err _ => rw [hc] at ns; exact absurd rfl ns
    | stk => rw [hc] at ns; exact absurd rfl ns
    | ok res =>
      rw [hc] at q ns
      simp only [R.ne_ok, R.bind_ok] at q ns
      by_cases hz : res.length ≤ sizeLine
      · rw [if_pos hz] at q
        intro Dd hD
        have E1 := (E.ext e1).weak (own' := minus own lk) minus_sub
        have zr : ∀ i, i ∈ minus own (lk ++ lk2) → i ∈ minus (minus own lk) lk2 := fun i hi => mem_minus.mpr ⟨minus_l hi, fun z => (mem_minus.mp (minus_r hi)).2 z⟩
        refine lc_it wk (fun i H2 => ∃ (acc rest : List D) (av : List V), res = acc ++ rest ∧ compD (bo.map (·.2)) h c el δ (ds.drop i) = .ok rest ∧ H2 Dd = some (.lst av) ∧ RepL G.K H2 (fun b => ZZ Z₀ α (minus own (lk ++ lk2)) b ∨ b = Dd) acc av ∧ Ext H1 H2)
          ⟨[], res, [], rfl, hc, upd_same, rfl, ext_upd hD⟩ (fun i H2 hi p => ?_) (fun i x H2 H3 hi p y => ?_) (fun H2 p => ?_)
        · obtain ⟨acc, rest, av, _, _, _, _, ex⟩ := p
          exact hG H2 (.of ex)
        · obtain ⟨acc, rest, av, er, hr, hDd, ra, ex⟩ := p
          have hd : ds[i]? = some ds[i] := List.getElem?_eq_getElem hi
          have z2 : ZOk H2 (ZZ Z₀ α (minus own lk)) := E1.zok.ext ex
          have zg : ZOk H2 (ZZ (fun b => Z₀ b ∨ b = Dd) α (minus own lk)) := (E1.guard hD ex ⟨_, hDd, True.intro⟩).zok
          obtain ⟨e3, rx'⟩ := hY (ZZ (fun b => Z₀ b ∨ b = Dd) α (minus own lk)) i _ x H2 H3 hd (fun a q => by
            rcases q with (q | rfl) | q
            · exact .inl (.inl q)
            · exact .inr hD
            · exact .inl (.inr q)) (.of ex) zg y
          rw [List.drop_eq_getElem_cons hi] at hr
          obtain ⟨δ1, b, h1, h2, hb⟩ := compD_step hr
          have e13 := ex.trans e3
          have hm3 : ∃ o, H3 Dd = some o ∧ Mut (some o) := ⟨_, e3 _ _ hDd, True.intro⟩
          have E3 := (E1.guard hD e13 hm3).wipe (bo.map (·.2)) hvs
          refine hg _ α _ _ H3 x _ _ E3 rx' (fun δ' σ' hh E4 w4 => ?_) ⟨δ1, h1⟩
          rw [h1] at hh; cases hh
          refine ⟨(w4 _ hts).trans (wipe_idem _ _), ht _ α _ _ H3 _ E4 (hxi _) (fun b' H4 hb' e4 => ?_) (fun x H4 hx e4 => ?_) (fun z => by rw [h2] at z; cases z)⟩
          · rw [h2] at hb'; cases hb'
            rcases hb with ⟨rfl, y, r', hy, hr', rfl⟩ | ⟨rfl, hr'⟩
            · rw [if_pos rfl]
              have E5 := E4.ext e4
              refine he _ α _ _ H4 _ E5 (hxi _) (fun y' v H5 hy' e5 r5 => ?_) (fun x H5 hx e5 => ?_) (fun z => by rw [hy] at z; cases z)
              · rw [hy] at hy'; cases hy'
                have e35 := e4.trans e5
                have hD5 : H5 Dd = some (.lst av) := e35 _ _ (e3 _ _ hDd)
                have zd2 : ZOk H2 (fun b => ZZ Z₀ α (minus own (lk ++ lk2)) b ∨ b = Dd) := fun b hb => by
                  rcases hb with hb | rfl
                  · exact z2 b (ZZ.mono (fun i hi => minus_l hi) b hb)
                  · exact ⟨_, hDd, True.intro⟩
                have zd5 : ZOk H5 (fun b => ZZ Z₀ α (minus own (lk ++ lk2)) b ∨ b = Dd) := zd2.ext (e3.trans e35)
                have kp : Keeps (fun b => ZZ Z₀ α (minus own (lk ++ lk2)) b ∨ b = Dd) H5 (upd H5 Dd (.lst (av ++ [v]))) := fun b o n hb => by
                  rw [upd_ne (fun z => n (.inr z))]
                  exact hb
                refine ⟨av, hD5, ?_, acc ++ [y], r', av ++ [v], by rw [er]; simp, hr', upd_same, ?_, ?_⟩
                · rw [ra.len]
                  rw [er, List.length_append, List.length_cons] at hz
                  omega
                · refine RepL.app (RepL.mono zd5.nofrz kp (fun _ q => q) _ _ (ra.ext zd2 (e3.trans e35))) ⟨v, [], rfl, ?_, rfl⟩
                  refine Rep.mono zd5.nofrz kp (fun _ q => q) _ _ (r5.less ((E5.ext e5).zsub minus_sub) fun b hb => ZZ.guard b ?_)
                  rcases hb with hb | hb
                  · exact .inl (ZZ.mono zr b hb)
                  · exact .inr hb
                · intro b o hb
                  have : b ≠ Dd := fun z => by rw [z, hD] at hb; cases hb
                  rw [upd_ne this]
                  exact e35 _ _ (e13 _ _ hb)
              · rw [hy] at hx; cases hx
            · rw [if_neg Bool.false_ne_true]
              have zd2 : ZOk H2 (fun b => ZZ Z₀ α (minus own (lk ++ lk2)) b ∨ b = Dd) := fun b hb => by
                rcases hb with hb | rfl
                · exact z2 b (ZZ.mono (fun i hi => minus_l hi) b hb)
                · exact ⟨_, hDd, True.intro⟩
              exact ⟨acc, rest, av, er, hr', (e3.trans e4) _ _ hDd, ra.ext zd2 (e3.trans e4), e13.trans e4⟩
          · rw [h2] at hx; cases hx
        · obtain ⟨acc, rest, av, er, hr, hDd, ra, ex⟩ := p
          rw [List.drop_length] at hr
          cases (show R.ok [] = R.ok rest from hr)
          rw [List.append_nil] at er
          subst er
          exact q _ Dd H2 rfl (e1.trans ex) (e1.free hD) ⟨av, hDd, ra⟩
      · rw [if_neg hz] at ns; exact absurd rfl ns
  · rw [hf] at qe
    exact qe x H1 rfl e1
end
end DL

set_option maxRecDepth 100001
set_option maxHeartbeats 1000001
namespace DL
open PySem PySem.Spec PyProof.Rows L2

inductive Fl where
  | nx (δ : DEnv) | rt (d : D) | bk (δ : DEnv) | ct (δ : DEnv) | ex (x : Exn) (δ : DEnv) | stk
def OZ (α : Nat → Addr) (own : List Nat) : Addr → Prop := fun a => ∃ i, i ∈ own ∧ a = α i
/-- from one state to a later one -/
structure Step (α : Nat → Addr) (own : List Nat) (H : Hp) (α' : Nat → Addr) (own' : List Nat) (H' : Hp) : Prop where
  keep : Keeps (OZ α own) H H'
  new : ∀ i ∈ own', OZ α own (α' i) ∨ H (α' i) = none
def RetS (fr : Bool) (K : PySem.W.Frag) (α : Nat → Addr) (own : List Nat) (H H' : Hp) (Z : Addr → Prop) (d : D) (v : V) : Prop :=
  (fr = true ∧ ∃ a, v = .ref a ∧ (OZ α own a ∨ H a = none) ∧ Top K H' (fun b => Z b ∨ b = a) d a) ∨ (fr = true ∧ imm d = true ∧ Rep K H' Z d v) ∨ (fr = false ∧ Rep K H' Z d v)
section
variable {α α1 α2 : Nat → Addr} {own own1 own2 : List Nat} {H H1 H2 : Hp}
theorem Step.free {a : Addr} (s : Step α own H α1 own1 H1) (h : OZ α1 own1 a ∨ H1 a = none) : OZ α own a ∨ H a = none := by
  rcases h with ⟨i, hi, rfl⟩ | h
  · exact s.new i hi
  · by_cases q : OZ α own a
    · exact .inl q
    · cases e : H a with
      | none => exact .inr rfl
      | some o => rw [s.keep a o q e] at h; cases h
theorem Step.trans (s : Step α own H α1 own1 H1) (r : Step α1 own1 H1 α2 own2 H2) : Step α own H α2 own2 H2 := by
  refine ⟨fun a o n h => ?_, fun i hi => s.free (r.new i hi)⟩
  refine r.keep a o (fun q => ?_) (s.keep a o n h)
  rcases s.free (.inl q) with q | q
  · exact n q
  · rw [q] at h; cases h
theorem Step.keeps {own' : List Nat} (s : Step α own H α1 own1 H1) (e : Keeps (OZ α1 own1) H1 H2) : Keeps (OZ α own) H H2 := (s.trans (r := (⟨e, fun i hi => nomatch hi⟩ : Step α1 own1 H1 α1 [] H2))).keep
theorem Step.refl (h : ∀ i ∈ own1, i ∈ own) : Step α own H α own1 H := ⟨fun _ _ _ h => h, fun i hi => .inl ⟨i, h i hi, rfl⟩⟩
theorem Step.ext (e : Ext H H1) (h : ∀ i ∈ own1, i ∈ own) : Step α own H α own1 H1 := ⟨.of e, fun i hi => .inl ⟨i, h i hi, rfl⟩⟩
theorem Step.ret {fr : Bool} {K : PySem.W.Frag} {Z : Addr → Prop} {d : D} {v : V} (s : Step α own H α1 own1 H1) (r : RetS fr K α1 own1 H1 H2 Z d v) : RetS fr K α own H H2 Z d v := by
  rcases r with ⟨h, a, e, q, t⟩ | r
  · exact .inl ⟨h, a, e, s.free q, t⟩
  · exact .inr r
end
def SS (G : Cfg) (W : WX) (fr : Bool) (own own' ol ox : List Nat) (t : TS) (g : DEnv → Fl) : Prop := ∀ (Z₀ : Addr → Prop) (α : Nat → Addr) (δ : DEnv) (σ : L2.St) (H : Hp) (Dn : Ends), EnvOk G.K Z₀ α own δ σ H → G.xi σ →
  (∀ δ' α' σ' H', g δ = .nx δ' → EnvOk G.K Z₀ α' own' δ' σ' H' → Step α own H α' own' H' → Dn.nx σ' H') →
  (∀ d v H', g δ = .rt d → Keeps (OZ α own) H H' → RetS fr G.K α own H H' Z₀ d v → Dn.rt v H') →
  (∀ δ' α' σ' H', g δ = .bk δ' → EnvOk G.K Z₀ α' ol δ' σ' H' → Step α own H α' ol H' → Dn.bk σ' H') →
  (∀ δ' α' σ' H', g δ = .ct δ' → EnvOk G.K Z₀ α' ol δ' σ' H' → Step α own H α' ol H' → Dn.ct σ' H') →
  (∀ x δ' α' σ' H', g δ = .ex x δ' → EnvOk G.K Z₀ α' ox δ' σ' H' → Step α own H α' ox H' → W (G.cv x.cls) none σ' H') →
  g δ ≠ .stk → t Dn σ H
def DS (G : Cfg) (X : Cx) (W : WX) (fr : Bool) (own own' ol ox : List Nat) (st : Stmt) (t : TS) (g : DEnv → Fl) : Prop := PS X st t ∧ SS G W fr own own' ol ox t g
def DSs (G : Cfg) (X : Cx) (W : WX) (fr : Bool) (own own' ol ox : List Nat) (st : List Stmt) (t : TS) (g : DEnv → Fl) : Prop := PSs X st t ∧ SS G W fr own own' ol ox t g
def sub (l m : List Nat) : Bool := l.all fun i => m.contains i
theorem sub_mem {l m : List Nat} (h : sub l m = true) : ∀ i ∈ l, i ∈ m := fun i hi => by
  have := List.all_eq_true.mp h i hi
  simpa using this
/-- what stays owned behind the evaluation of a value that may hold the lists of lk, stored at i -/
def left (own' own lk : List Nat) : Bool := own'.all fun j => own.contains j && !(lk.contains j)
theorem left_mem {own' own lk : List Nat} (h : left own' own lk = true) : ∀ j ∈ own', j ∈ minus own lk := fun j hj => by
  have := List.all_eq_true.mp h j hj
  simp at this
  exact mem_minus.mpr ⟨this.1, this.2⟩
def nxD : DEnv → Fl := fun δ => .nx δ
def seqF (g h : DEnv → Fl) : DEnv → Fl := fun δ => match g δ with
  | .nx δ' => h δ'
  | .rt d => .rt d
  | .bk δ' => .bk δ'
  | .ct δ' => .ct δ'
  | .ex x δ' => .ex x δ'
  | .stk => .stk
section
variable {G : Cfg} {S : Sco} {k : Nat} {X : Cx} {W : WX} {fr : Bool} {own own' own1 ol ox lk l1 l2 : List Nat} {pos pos' : Pos} {st : Stmt} {rest : List Stmt} {t u : TS} {g h : DEnv → Fl} {e a b : Expr} {te ta tb : TE} {f f2 : DEnv → R D} {x y : PySem.Str} {i j : Nat}
theorem ss_nil (hs : sub own' own = true) : DSs G X W fr own own' ol ox [] tNext nxD := by
  refine ⟨pss_nil, ?_⟩
  intro Z₀ α δ σ H Dn E hX qn qr qb qc qe ns
  exact qn δ α σ H rfl (E.weak (sub_mem hs)) (.refl (sub_mem hs))
theorem SS.seq (hxi : ∀ σ, G.xi σ) (h1 : SS G W fr own own1 ol ox t g) (h2 : SS G W fr own1 own' ol ox u h) : SS G W fr own own' ol ox (tSeq t u) (seqF g h) := by
  intro Z₀ α δ σ H Dn E hX qn qr qb qc qe ns
  unfold seqF at qn qr qb qc qe ns
  refine h1 Z₀ α δ σ H { Dn with nx := u Dn } E hX (fun δ' α' σ' H' hg E' s => ?_) (fun d v H' hg kp r => ?_) (fun δ' α' σ' H' hg E' s => ?_) (fun δ' α' σ' H' hg E' s => ?_) (fun x δ' α' σ' H' hg E' s => ?_) (fun hg => by rw [hg] at ns; exact ns rfl)
  · rw [hg] at qn qr qb qc qe ns
    exact h2 Z₀ α' δ' σ' H' Dn E' (hxi _) (fun δ2 α2 σ2 H2 hh E2 s2 => qn δ2 α2 σ2 H2 hh E2 (s.trans s2)) (fun d v H2 hh kp r => qr d v H2 hh (s.keeps (own' := []) kp) (s.ret r)) (fun δ2 α2 σ2 H2 hh E2 s2 => qb δ2 α2 σ2 H2 hh E2 (s.trans s2)) (fun δ2 α2 σ2 H2 hh E2 s2 => qc δ2 α2 σ2 H2 hh E2 (s.trans s2)) (fun x δ2 α2 σ2 H2 hh E2 s2 => qe x δ2 α2 σ2 H2 hh E2 (s.trans s2)) ns
  · rw [hg] at qr; exact qr d v H' rfl kp r
  · rw [hg] at qb; exact qb δ' α' σ' H' rfl E' s
  · rw [hg] at qc; exact qc δ' α' σ' H' rfl E' s
  · rw [hg] at qe; exact qe x δ' α' σ' H' rfl E' s
theorem ss_cons (hxi : ∀ σ, G.xi σ) (h1 : DS G X W fr own own1 ol ox st t g) (h2 : DSs G X W fr own1 own' ol ox rest u h) : DSs G X W fr own own' ol ox (st :: rest) (tSeq t u) (seqF g h) := ⟨pss_cons h1.1 h2.1, SS.seq hxi h1.2 h2.2⟩
theorem ss_one (h1 : DS G X W fr own own' ol ox st t g) : DSs G X W fr own own' ol ox [st] t g := ⟨pss_one h1.1, h1.2⟩
theorem s_pass (hs : sub own' own = true) : DS G X W fr own own' ol ox (.Pass pos) tNext nxD := ⟨ps_pass, (ss_nil (X := X) hs).2⟩
/-- a value, then something with it -/
def withF (f : DEnv → R D) (h : D → DEnv → Fl) : DEnv → Fl := fun δ => match f δ with
  | .ok d => h d δ
  | .err x => .ex x δ
  | .stk => .stk
def setF (i : Nat) (f : DEnv → R D) : DEnv → Fl := withF f fun d δ => if i < δ.length then .nx (δ.set i (some d)) else .stk
theorem SS.set (he : SE G W own lk te f) (hl : left own' own (i :: lk) = true) (hx : sub ox own = true) : SS G W fr own own' ol ox (tAsg te (gName i)) (setF i f) := by
  intro Z₀ α δ σ H Dn E hX qn qr qb qc qe ns
  unfold setF withF at qn qr qb qc qe ns
  refine he Z₀ α δ σ H _ E hX (fun d v H1 hf e1 r1 => ?_) (fun x H1 hf e1 => ?_) (fun hf => by rw [hf] at ns; exact ns rfl)
  · rw [hf] at qn ns
    simp only at qn ns
    have hm : ∀ j ∈ own', j ∈ minus own lk := fun j hj => minus_sub2 (fun z hz => List.mem_cons_of_mem _ hz) j (left_mem hl j hj)
    have ho : ∀ j ∈ own', j ∈ own := fun j hj => minus_sub j (hm j hj)
    have hi : i ∉ own' := fun q => (mem_minus.mp (left_mem hl i q)).2 List.mem_cons_self
    by_cases hlen : i < δ.length
    · rw [if_pos hlen] at qn
      have E1 := (E.ext e1).weak ho
      exact qn _ α _ H1 rfl (E1.put hlen hi (r1.less ((E.ext e1).zsub minus_sub) (ZZ.mono hm))) (.ext e1 ho)
    · rw [if_neg hlen] at ns; exact absurd rfl ns
  · rw [hf] at qe
    exact qe x δ α σ H1 rfl ((E.ext e1).weak (sub_mem hx)) (.ext e1 (sub_mem hx))
theorem s_set (F : Fit G S k X) (hN : S.N.Nodup) (hi : S.N[i]? = some x) (hv : L2.Loc S.sc x) (hf : S.fn x = true ∨ S.sc.names.lookup x = some .local) (he : DE G X W own lk e te f) (hl : left own' own (i :: lk) = true) (hx : sub ox own = true)
    (hs : swapsWith e (some (.Name x pos')) pos.line X.env = pure false := by rfl) : DS G X W fr own own' ol ox (.Assign [.Name x pos'] e pos) (tAsg te (gName i)) (setF i f) :=
  ⟨ps_set (by rw [F.N]; exact hN) (by rw [F.N]; exact hi) (by rw [F.sc]; exact hv) he.1 hs (by rw [F.fn, F.sc]; exact hf), SS.set he.2 hl hx⟩
theorem SS.setF (he : SF G W own lk te f) (hl : left own' own (i :: lk) = true) (hx : sub ox own = true) : SS G W fr own (i :: own') ol ox (tAsg te (gName i)) (setF i f) := by
  intro Z₀ α δ σ H Dn E hX qn qr qb qc qe ns
  unfold DL.setF withF at qn qr qb qc qe ns
  refine he Z₀ α δ σ H _ E hX (fun d a H1 hf e1 hn t1 => ?_) (fun x H1 hf e1 => ?_) (fun hf => by rw [hf] at ns; exact ns rfl)
  · rw [hf] at qn ns
    simp only at qn ns
    have hm : ∀ j ∈ own', j ∈ minus own lk := fun j hj => minus_sub2 (fun z hz => List.mem_cons_of_mem _ hz) j (left_mem hl j hj)
    have ho : ∀ j ∈ own', j ∈ own := fun j hj => minus_sub j (hm j hj)
    have hi : i ∉ own' := fun q => (mem_minus.mp (left_mem hl i q)).2 List.mem_cons_self
    by_cases hlen : i < δ.length
    · rw [if_pos hlen] at qn
      have z : ZOk H1 (fun b => ZZ Z₀ α (minus own lk) b ∨ b = a) := fun b hb => by
        rcases hb with hb | rfl
        · exact (E.ext e1).zsub minus_sub b hb
        · exact t1.mut
      refine qn _ _ _ H1 rfl ((E.weak ho).putOwn hlen hi e1 hn (t1.less z fun b hb => ?_)) ⟨.of e1, fun j hj => ?_⟩
      · rcases hb with hb | hb
        · exact .inl (ZZ.mono hm b hb)
        · exact .inr hb
      · by_cases q : j = i
        · subst q; exact .inr (by simpa using hn)
        · refine .inl ⟨j, ho j ?_, by rw [if_neg q]⟩
          rcases List.mem_cons.mp hj with h | h
          · exact absurd h q
          · exact h
    · rw [if_neg hlen] at ns; exact absurd rfl ns
  · rw [hf] at qe
    exact qe x δ α σ H1 rfl ((E.ext e1).weak (sub_mem hx)) (.ext e1 (sub_mem hx))
theorem s_setF (F : Fit G S k X) (hN : S.N.Nodup) (hi : S.N[i]? = some x) (hv : L2.Loc S.sc x) (hf : S.fn x = true ∨ S.sc.names.lookup x = some .local) (he : DF G X W own lk e te f) (hl : left own' own (i :: lk) = true) (hx : sub ox own = true)
    (hs : swapsWith e (some (.Name x pos')) pos.line X.env = pure false := by rfl) : DS G X W fr own (i :: own') ol ox (.Assign [.Name x pos'] e pos) (tAsg te (gName i)) (setF i f) :=
  ⟨ps_set (by rw [F.N]; exact hN) (by rw [F.N]; exact hi) (by rw [F.sc]; exact hv) he.1 hs (by rw [F.fn, F.sc]; exact hf), SS.setF he.2 hl hx⟩
/-- return -/
def retF (f : DEnv → R D) : DEnv → Fl := withF f fun d _ => .rt d
theorem EnvOk.zz0 {K : PySem.W.Frag} {Z₀ : Addr → Prop} {α : Nat → Addr} {own : List Nat} : ∀ b, Z₀ b → ZZ Z₀ α own b := fun _ h => .inl h
theorem s_ret (he : DE G X W own lk e te f) (hfr : fr = false) (hx : sub ox own = true) : DS G X W fr own own' ol ox (.Return (some e) pos) (tRet te) (retF f) := by
  refine ⟨ps_ret he.1, ?_⟩
  intro Z₀ α δ σ H Dn E hX qn qr qb qc qe ns
  unfold retF withF at qn qr qb qc qe ns
  refine he.2 Z₀ α δ σ H _ E hX (fun d v H1 hf e1 r1 => ?_) (fun x H1 hf e1 => ?_) (fun hf => by rw [hf] at ns; exact ns rfl)
  · rw [hf] at qr
    exact qr d v H1 rfl (.of e1) (.inr (.inr ⟨hfr, r1.less ((E.ext e1).zsub minus_sub) fun b hb => .inl hb⟩))
  · rw [hf] at qe
    exact qe x δ α σ H1 rfl ((E.ext e1).weak (sub_mem hx)) (.ext e1 (sub_mem hx))
/-- .. of what cannot be changed, from a def that gives new lists -/
theorem s_retI (he : DE G X W own lk e te f) (hfr : fr = true) (hx : sub ox own = true) : DS G X W fr own own' ol ox (.Return (some e) pos) (tRet te) (retF (chkImm f)) := by
  refine ⟨ps_ret he.1, ?_⟩
  intro Z₀ α δ σ H Dn E hX qn qr qb qc qe ns
  unfold retF withF at qn qr qb qc qe ns
  have h := he.2.chk
  refine h Z₀ α δ σ H _ E hX (fun d v H1 hf e1 r1 => ?_) (fun x H1 hf e1 => ?_) (fun hf => by rw [hf] at ns; exact ns rfl)
  · rw [hf] at qr
    have hi : imm d = true := by
      unfold chkImm at hf
      cases q : f δ with
      | ok d' =>
        rw [q] at hf
        simp only [R.bind_ok] at hf
        by_cases hi : imm d' = true
        · rw [if_pos hi] at hf; cases hf; exact hi
        · rw [if_neg hi] at hf; cases hf
      | err _ => rw [q] at hf; cases hf
      | stk => rw [q] at hf; cases hf
    exact qr d v H1 rfl (.of e1) (.inr (.inl ⟨hfr, hi, r1.less ((E.ext e1).zsub minus_sub) fun b hb => .inl hb⟩))
  · rw [hf] at qe
    exact qe x δ α σ H1 rfl ((E.ext e1).weak (sub_mem hx)) (.ext e1 (sub_mem hx))
theorem s_retF (he : DF G X W own lk e te f) (hfr : fr = true) (hx : sub ox own = true) : DS G X W fr own own' ol ox (.Return (some e) pos) (tRet te) (retF f) := by
  refine ⟨ps_ret he.1, ?_⟩
  intro Z₀ α δ σ H Dn E hX qn qr qb qc qe ns
  unfold retF withF at qn qr qb qc qe ns
  refine he.2 Z₀ α δ σ H _ E hX (fun d a H1 hf e1 hn t1 => ?_) (fun x H1 hf e1 => ?_) (fun hf => by rw [hf] at ns; exact ns rfl)
  · rw [hf] at qr
    refine qr d _ H1 rfl (.of e1) (.inl ⟨hfr, a, rfl, .inr hn, t1.less (fun b hb => ?_) fun b hb => ?_⟩)
    · rcases hb with hb | rfl
      · exact (E.ext e1).zsub minus_sub b hb
      · exact t1.mut
    · rcases hb with hb | hb
      · exact .inl (.inl hb)
      · exact .inr hb
  · rw [hf] at qe
    exact qe x δ α σ H1 rfl ((E.ext e1).weak (sub_mem hx)) (.ext e1 (sub_mem hx))
/-- return x, x owning its list -/
theorem s_retO (F : Fit G S k X) (hN : S.N[i]? = some x) (hv : Vis S.sc x) (ho : i ∈ own) (hfr : fr = true) (h1 : (x == ("__debug__" : PySem.Str)) = false := by decide) (h2 : (x == ("__classdict__" : PySem.Str)) = false := by decide) :
    DS G X W fr own own' ol ox (.Return (some (.Name x pos')) pos) (tRet (tVar i)) (retF (nmD i)) := by
  refine ⟨ps_ret (pe_var (by rw [F.N]; exact hN) (by rw [F.sc]; exact hv) h1 h2), ?_⟩
  intro Z₀ α δ σ H Dn E hX qn qr qb qc qe ns
  obtain ⟨d, g1, g2, g3⟩ := E.top i ho
  refine ⟨_, g2, qr d _ H ?_ (.of (Same.refl H)) (.inl ⟨hfr, _, rfl, .inl ⟨i, ho, rfl⟩, g3.less E.zok fun b hb => ?_⟩)⟩
  · unfold retF withF nmD
    rw [g1]
  · rcases hb with hb | rfl
    · exact .inl hb
    · exact .inr ⟨i, ho, rfl⟩
def retNF : DEnv → Fl := fun _ => .rt .non
theorem s_retN : DS G X W fr own own' ol ox (.Return none pos) tRetN retNF := by
  refine ⟨ps_retN, ?_⟩
  intro Z₀ α δ σ H Dn E hX qn qr qb qc qe ns
  refine qr .non .non H rfl (.of (Same.refl H)) ?_
  cases fr with
  | true => exact .inr (.inl ⟨rfl, rfl, rfl⟩)
  | false => exact .inr (.inr ⟨rfl, rfl⟩)
/-- an expression whose value is dropped -/
def dropF (f : DEnv → R D) : DEnv → Fl := withF f fun _ δ => .nx δ
theorem s_expr (he : DE G X W own lk e te f) (hs' : sub own' own = true) (hx : sub ox own = true) (hs : swapsWith e none pos.line X.env = pure false := by rfl) : DS G X W fr own own' ol ox (.Expr e pos) (tDrop te) (dropF f) := by
  refine ⟨ps_expr he.1 hs, ?_⟩
  intro Z₀ α δ σ H Dn E hX qn qr qb qc qe ns
  unfold dropF withF at qn qr qb qc qe ns
  refine he.2 Z₀ α δ σ H _ E hX (fun d v H1 hf e1 r1 => ?_) (fun x H1 hf e1 => ?_) (fun hf => by rw [hf] at ns; exact ns rfl)
  · rw [hf] at qn
    exact qn δ α σ H1 rfl ((E.ext e1).weak (sub_mem hs')) (.ext e1 (sub_mem hs'))
  · rw [hf] at qe
    exact qe x δ α σ H1 rfl ((E.ext e1).weak (sub_mem hx)) (.ext e1 (sub_mem hx))
/-- if -/
def ifF (c : DEnv → R Bool) (g h : DEnv → Fl) : DEnv → Fl := fun δ => match c δ with
  | .ok b => if b = true then g δ else h δ
  | .err x => .ex x δ
  | .stk => .stk
theorem s_if {c : Expr} {aa bb : List Stmt} {tc : TT} {fc : DEnv → R Bool} (hc : DT G X W own c tc fc) (ha : DSs G X W fr own own' ol ox aa t g) (hb : DSs G X W fr own own' ol ox bb u h) (hx : sub ox own = true) :
    DS G X W fr own own' ol ox (.If c aa bb pos) (tIfS tc t u) (ifF fc g h) := by
  refine ⟨ps_if hc.1 ha.1 hb.1, ?_⟩
  intro Z₀ α δ σ H Dn E hX qn qr qb qc qe ns
  unfold ifF at qn qr qb qc qe ns
  refine hc.2 Z₀ α δ σ H _ E hX (fun d H1 hf e1 => ?_) (fun x H1 hf e1 => ?_) (fun hf => by rw [hf] at ns; exact ns rfl)
  · rw [hf] at qn qr qb qc qe ns
    simp only at qn qr qb qc qe ns
    have st : Step α own H α own H1 := .ext e1 fun _ h => h
    cases d with
    | true =>
      rw [if_pos rfl] at qn qr qb qc qe ns ⊢
      exact ha.2 Z₀ α δ σ H1 Dn (E.ext e1) hX (fun δ2 α2 σ2 H2 hh E2 s2 => qn δ2 α2 σ2 H2 hh E2 (st.trans s2)) (fun d v H2 hh kp r => qr d v H2 hh (st.keeps (own' := []) kp) (st.ret r)) (fun δ2 α2 σ2 H2 hh E2 s2 => qb δ2 α2 σ2 H2 hh E2 (st.trans s2)) (fun δ2 α2 σ2 H2 hh E2 s2 => qc δ2 α2 σ2 H2 hh E2 (st.trans s2)) (fun x δ2 α2 σ2 H2 hh E2 s2 => qe x δ2 α2 σ2 H2 hh E2 (st.trans s2)) ns
    | false =>
      rw [if_neg Bool.false_ne_true] at qn qr qb qc qe ns ⊢
      exact hb.2 Z₀ α δ σ H1 Dn (E.ext e1) hX (fun δ2 α2 σ2 H2 hh E2 s2 => qn δ2 α2 σ2 H2 hh E2 (st.trans s2)) (fun d v H2 hh kp r => qr d v H2 hh (st.keeps (own' := []) kp) (st.ret r)) (fun δ2 α2 σ2 H2 hh E2 s2 => qb δ2 α2 σ2 H2 hh E2 (st.trans s2)) (fun δ2 α2 σ2 H2 hh E2 s2 => qc δ2 α2 σ2 H2 hh E2 (st.trans s2)) (fun x δ2 α2 σ2 H2 hh E2 s2 => qe x δ2 α2 σ2 H2 hh E2 (st.trans s2)) ns
  · rw [hf] at qe
    exact qe x δ α σ H1 rfl ((E.ext e1).weak (sub_mem hx)) (.ext e1 (sub_mem hx))
/-- a, b = e1, e2 -/
def parF (i j : Nat) (fs : DEnv → R (List D)) : DEnv → Fl := fun δ => match fs δ with
  | .ok [d, e] => if i < δ.length ∧ j < δ.length then .nx ((δ.set i (some d)).set j (some e)) else .stk
  | .ok _ => .stk
  | .err x => .ex x δ
  | .stk => .stk
theorem s_par {px py pt : Pos} {kt k2 : Nat} {pt2 : Pos} {tt : TA} {fs : DEnv → R (List D)} (F : Fit G S k X) (hN : S.N.Nodup) (hi : S.N[i]? = some x) (hj : S.N[j]? = some y) (hij : i ≠ j) (hvx : S.sc.names.lookup x = some .local) (hvy : S.sc.names.lookup y = some .local)
    (ha : DA G X W own lk [a, b] tt fs) (hl : left own' own (i :: j :: lk) = true) (hx : sub ox own = true)
    (hw : swappedStores [.Tuple [.Name x px, .Name y py] kt pt] (.Tuple [a, b] k2 pt2) X.env = pure (some [x, y]))
    (hs : swapsWithSole [.Tuple [.Name x px, .Name y py] kt pt] (.Tuple [a, b] k2 pt2) pos.line X.env = pure false := by rfl) (hh : S.hot = false := by rfl) :
    DS G X W fr own own' ol ox (.Assign [.Tuple [.Name x px, .Name y py] kt pt] (.Tuple [a, b] k2 pt2) pos) (tPar i j tt) (parF i j fs) := by
  refine ⟨ps_par (F.calm hh) (by rw [F.N]; exact hN) (by rw [F.N]; exact hi) (by rw [F.N]; exact hj) hij (by rw [F.sc]; exact hvx) (by rw [F.sc]; exact hvy) ha.1 hw hs, ?_⟩
  intro Z₀ α δ σ H Dn E hX qn qr qb qc qe ns
  unfold parF at qn qr qb qc qe ns
  refine ha.2 Z₀ α δ σ H _ E hX (fun ds vs H1 hf e1 r1 => ?_) (fun x H1 hf e1 => ?_) (fun hf => by rw [hf] at ns; exact ns rfl)
  · rw [hf] at qn ns
    have hm : ∀ j ∈ own', j ∈ minus own lk := fun z hz => minus_sub2 (fun w hw => List.mem_cons_of_mem _ (List.mem_cons_of_mem _ hw)) z (left_mem hl z hz)
    have ho : ∀ j ∈ own', j ∈ own := fun j hj => minus_sub j (hm j hj)
    have hi' : i ∉ own' := fun q => (mem_minus.mp (left_mem hl i q)).2 List.mem_cons_self
    have hj' : j ∉ own' := fun q => (mem_minus.mp (left_mem hl j q)).2 (List.mem_cons_of_mem _ List.mem_cons_self)
    match ds, r1, qn, ns with
    | [d, e], r1, qn, ns =>
      simp only at qn ns
      obtain ⟨v, u, rfl, rv, v2, u2, rfl, rv2, rfl⟩ := r1
      by_cases hlen : i < δ.length ∧ j < δ.length
      · rw [if_pos hlen] at qn
        have z := (E.ext e1).zsub (own' := minus own lk) minus_sub
        have E1 := (((E.ext e1).weak ho).put hlen.1 hi' (rv.less z (ZZ.mono hm))).put (i := j) (by simpa using hlen.2) hj' (rv2.less z (ZZ.mono hm))
        exact ⟨v, v2, rfl, qn _ α _ H1 rfl E1 (.ext e1 ho)⟩
      · rw [if_neg hlen] at ns; exact absurd rfl ns
    | [], _, _, ns => exact absurd rfl ns
    | [_], _, _, ns => exact absurd rfl ns
    | _ :: _ :: _ :: _, _, _, ns => exact absurd rfl ns
  · rw [hf] at qe
    exact qe x δ α σ H1 rfl ((E.ext e1).weak (sub_mem hx)) (.ext e1 (sub_mem hx))
/-- target = value, any target -/
def asgF (f : DEnv → R D) (h : D → DEnv → R DEnv) : DEnv → Fl := fun δ => match f δ with
  | .ok d => (match h d δ with | .ok δ' => .nx δ' | _ => .stk)
  | .err x => .ex x δ
  | .stk => .stk
theorem s_asg {tg : Expr} {gt : TG} {ts : List Nat} {hh : D → DEnv → R DEnv} (he : DE G X W own lk e te f) (hg : DG G X own' ts tg gt hh) (hl : left own' own (ts ++ lk) = true) (hx : sub ox own = true)
    (hs : swapsWithSole [tg] e pos.line X.env = pure false := by rfl) (hw : swappedStores [tg] e X.env = pure none := by rfl) (h1 : (assignEach [tg] X.env).map (·.2) = [assign tg X.env] := by rfl) :
    DS G X W fr own own' ol ox (.Assign [tg] e pos) (tAsg te gt) (asgF f hh) := by
  refine ⟨ps_asg he.1 hg.1 hs hw h1, ?_⟩
  intro Z₀ α δ σ H Dn E hX qn qr qb qc qe ns
  unfold asgF at qn qr qb qc qe ns
  refine he.2 Z₀ α δ σ H _ E hX (fun d v H1 hf e1 r1 => ?_) (fun x H1 hf e1 => ?_) (fun hf => by rw [hf] at ns; exact ns rfl)
  · rw [hf] at qn ns
    simp only at qn ns
    have hm : ∀ j ∈ own', j ∈ minus own lk := fun z hz => minus_sub2 (fun w hw => List.mem_append_right _ hw) z (left_mem hl z hz)
    have ho : ∀ j ∈ own', j ∈ own := fun j hj => minus_sub j (hm j hj)
    cases hd : hh d δ with
    | ok δ1 =>
      rw [hd] at qn
      exact hg.2 Z₀ α δ σ H1 v d _ ((E.ext e1).weak ho) (r1.less ((E.ext e1).zsub minus_sub) (ZZ.mono hm)) (fun δ' σ' h2 E2 _ => qn δ' α σ' H1 (by rw [hd] at h2; cases h2; rfl) E2 (.ext e1 ho)) ⟨δ1, hd⟩
    | err _ => rw [hd] at ns; exact absurd rfl ns
    | stk => rw [hd] at ns; exact absurd rfl ns
  · rw [hf] at qe
    exact qe x δ α σ H1 rfl ((E.ext e1).weak (sub_mem hx)) (.ext e1 (sub_mem hx))
/-- name op= e -/
def augF (i : Nat) (h : D → D → R D) (f : DEnv → R D) : DEnv → Fl := withF (b2 h (nmD i) f) fun d δ => if i < δ.length then .nx (δ.set i (some d)) else .stk
theorem s_aug {op : Operator} {r : R2} {hh : D → D → R D} (F : Fit G S k X) (hN : S.N.Nodup) (hi : S.N[i]? = some x) (hv : L2.Loc S.sc x) (hf : S.fn x = true ∨ S.sc.names.lookup x = some .local) (ho : OpR X (inplaceOp op) r) (os : OpS G.K hh r) (ne : ∀ d e z, hh d e ≠ .err z)
    (he : DE G X W own lk e te f) (hio : i ∉ own) (hl : left own' own (i :: lk) = true) (hx : sub ox own = true) :
    DS G X W fr own own' ol ox (.AugAssign (.Name x pos') op e pos) (tAug i te r) (augF i hh f) := by
  refine ⟨ps_aug (by rw [F.N]; exact hN) (by rw [F.N]; exact hi) (by rw [F.sc]; exact hv) he.1 (fun pins s σ H x y v u Q I r1 r2 h => ho pins s σ H x y v u Q I r1 r2 h) (by rw [F.fn, F.sc]; exact hf), ?_⟩
  intro Z₀ α δ σ H Dn E hX qn qr qb qc qe ns
  unfold augF at qn qe ns
  have h2 := SS.set (G := G) (W := W) (fr := fr) (own := own) (own' := own') (ol := ol) (ox := ox) (i := i) (SE.op (SE.nm0 (G := G) (W := W) hio) he.2 os ne) (by simpa using hl) hx Z₀ α δ σ H Dn E hX qn (fun d v H' hg kp r => qr d v H' hg kp r) qb qc qe ns
  exact h2
/-- xs.append(e), the name xs owning its list -/
def appF (i : Nat) (f : DEnv → R D) : DEnv → Fl := withF f fun d δ => match δ[i]? with
  | some (some (.lst ds)) => if ds.length < sizeLine then .nx (δ.set i (some (.lst (ds ++ [d])))) else .stk
  | _ => .stk
theorem EnvOk.write {K : PySem.W.Frag} {Z₀ : Addr → Prop} {α : Nat → Addr} {own : List Nat} {δ : DEnv} {σ : L2.St} {H : Hp} (E : EnvOk K Z₀ α own δ σ H) {i : Nat} (hi : i ∈ own) {ds : List D} {vs : List V} (r : RepL K H (ZZ Z₀ α own) ds vs) :
    EnvOk K Z₀ α own (δ.set i (some (.lst ds))) σ (upd H (α i) (.lst vs)) := by
  have za : ZZ Z₀ α own (α i) := .inr ⟨i, hi, rfl⟩
  have kp : Keeps (ZZ Z₀ α own) H (upd H (α i) (.lst vs)) := fun b o n hb => by
    rw [upd_ne (fun (z : b = α i) => n (z ▸ za))]
    exact hb
  have z' : ∀ a, Z₀ a → ∃ o, upd H (α i) (.lst vs) a = some o ∧ Mut (some o) := fun a h => by
    by_cases q : a = α i
    · exact absurd (q ▸ h) (E.nz0 i hi)
    · rw [upd_ne q]; exact E.z0 a h
  obtain ⟨d0, g1, g2, _⟩ := E.top i hi
  have hlen : i < δ.length := (List.getElem?_eq_some_iff.mp g1).1
  refine ⟨z', E.nz0, E.inj, by simp [E.len], fun j d hj hd => ?_, fun j hj => ?_⟩
  · have q : i ≠ j := fun z => hj (z ▸ hi)
    rw [List.getElem?_set_ne q] at hd
    obtain ⟨v, h1, h2⟩ := E.free j d hj hd
    exact ⟨v, h1, Rep.mono E.zok.nofrz kp (fun _ q => q) _ _ h2⟩
  · by_cases q : i = j
    · subst q
      exact ⟨_, List.getElem?_set_self hlen, g2, vs, upd_same, RepL.mono E.zok.nofrz kp (fun _ q => q) _ _ r⟩
    · rw [List.getElem?_set_ne q]
      obtain ⟨d, h1, h2, h3⟩ := E.top j hj
      refine ⟨d, h1, h2, ?_⟩
      have ne : α j ≠ α i := fun z => q (E.inj j hj i hi z).symm
      cases d with
      | lst dl =>
        obtain ⟨us, h4, h5⟩ := h3
        exact ⟨us, by rw [upd_ne ne]; exact h4, RepL.mono E.zok.nofrz kp (fun _ q => q) _ _ h5⟩
      | _ => exact False.elim h3
theorem s_app {apos cpos p1 : Pos} (F : Fit G S k X) (hN : S.N[i]? = some x) (hv : Vis S.sc x) (he : DE G X W own lk e te f) (hi : i ∈ own') (hl : left own' own lk = true) (hx : sub ox own = true)
    (hbase : attributeBase (.Name x p1) (PySem.Str.ofString "append") X.env (eval (.Name x p1) X.env) = eval (.Name x p1) X.env := by rfl)
    (hfew : ((backTo cpos (starEach [e] X.env)).all (fun x => !x.1) && (backToKw cpos (keywordEach [] X.env)).all (fun x => x.1.isSome)
      && decide (([e] : List Expr).length + ([] : List Keyword).length + (if ([] : List Keyword).isEmpty then 0 else 1) < 30)) = true := by rfl)
    (hline : (apos.endLine == cpos.line) = true := by rfl) (hst : starEach [e] X.env = (false, eval e X.env) :: starEach [] X.env := by rfl) (hplain : (backTo cpos (starEach [] X.env)).any (·.1) = false := by rfl)
    (hs : swapsWith (.Call (.Attribute (.Name x p1) (PySem.Str.ofString "append") apos) [e] [] cpos) none pos.line X.env = pure false := by rfl) (h1 : (x == ("__debug__" : PySem.Str)) = false := by decide) (h2 : (x == ("__classdict__" : PySem.Str)) = false := by decide) :
    DS G X W fr own own' ol ox (.Expr (.Call (.Attribute (.Name x p1) (PySem.Str.ofString "append") apos) [e] [] cpos) pos) (tDrop (tBM G.K "list" rAppend (tVar i) (tCons te tNil))) (appF i f) := by
  refine ⟨ps_expr (F.K ▸ pe_bm PySem.F.plainAttrs_list PySem.F.slot_list_append PySem.F.type_list_append mt_append (pe_var (by rw [F.N]; exact hN) (by rw [F.sc]; exact hv) h1 h2) (pa_cons he.1 pa_nil hst) hbase hfew hline hst hplain) hs, ?_⟩
  intro Z₀ α δ σ H Dn E hX qn qr qb qc qe ns
  unfold appF withF at qn qr qb qc qe ns
  have hm := left_mem hl
  have ho : ∀ j ∈ own', j ∈ own := fun j hj => minus_sub j (hm j hj)
  obtain ⟨d0, g1, g2, g3⟩ := E.top i (ho i hi)
  refine ⟨_, g2, ?_⟩
  cases d0 with
  | lst ds =>
    obtain ⟨us, g4, g5⟩ := g3
    refine ⟨.inl ⟨rfl, us, SqL.of g4⟩, he.2 Z₀ α δ σ H _ E hX (fun d v H1 hf e1 r1 => ?_) (fun x H1 hf e1 => ?_) (fun hf => by rw [hf] at ns; exact ns rfl)⟩
    · rw [hf] at qn ns
      simp only [g1] at qn ns
      by_cases hz : ds.length < sizeLine
      · rw [if_pos hz] at qn
        have E1 := (E.ext e1).weak ho
        have r5 := (g5.ext E.zok e1).less (E.ext e1).zok (ZZ.mono ho)
        refine ⟨_, us, v, rfl, rfl, e1 _ _ g4, by rw [g5.len]; exact hz, qn _ α σ _ rfl (E1.write hi (r5.app ⟨v, [], rfl, r1.less ((E.ext e1).zsub minus_sub) (ZZ.mono hm), rfl⟩)) ⟨fun b o n hb => ?_, fun j hj => .inl ⟨j, ho j hj, rfl⟩⟩⟩
        rw [upd_ne (fun z => n ⟨i, ho i hi, z⟩)]
        exact e1 _ _ hb
      · rw [if_neg hz] at ns; exact absurd rfl ns
    · rw [hf] at qe
      exact qe x δ α σ H1 rfl ((E.ext e1).weak (sub_mem hx)) (.ext e1 (sub_mem hx))
  | _ => exact False.elim g3
end
end DL

set_option maxRecDepth 100001
set_option maxHeartbeats 1000001
namespace DL
open PySem PySem.Spec PyProof.Rows L2
/-- does the interpreter swap the name's old value away ahead of the comprehension -/
def swB (sc scope : Scope) (pos py : Pos) (y : PySem.Str) : Bool := (sc.names.lookup y == some .local) && (py.line == pos.line) && !(scope.names.any fun (n, k) => n == y && (k == .local || k == .cell))
theorem sw_of {elt : Expr} {gs : List Comprehension} {sc scope : Scope} {pos py : Pos} {y : PySem.Str} {l : Nat} {env : Env} {b : Bool} (he : env.scope = sc) (hk : sc.kind = .function) (h : swB sc scope pos py y = b) : swapsWith (.ListComp elt gs scope pos) (some (.Name y py)) l env = pure b := by
  subst he
  have hb : env.blockKind = .function := by unfold Env.blockKind; rw [hk]; rfl
  have ky : env.kindOf y = env.scope.names.lookup y := rfl
  unfold swapsWith
  simp only [hb, ky, Expr.pos]
  unfold swB at h
  rw [← h]
  rfl
section
variable {G : Cfg} {S : Sco} {k : Nat} {X : Cx} {W : WX} {fr : Bool} {own own' olp ol ox lk lk2 l1 l2 : List Nat} {pos pos' spos py : Pos} {st : Stmt} {rest body : List Stmt} {t u tb : TS} {g h : DEnv → Fl} {e a b elt tg iter : Expr} {te : TE} {f : DEnv → R (List D)} {x y : PySem.Str} {i j : Nat}

/-! ### comprehensions -/
theorem d_lc {ifs : List Expr} {scope : Scope} {bo : List (PySem.Str × Nat)} {wi : TI} {gt : TG} {tt : TT} {h : D → DEnv → R DEnv} {c : DEnv → R Bool} {el : DEnv → R D} {ts : List Nat} (F : Fit G S k X) (hN : S.N.Nodup) (ok : blkC S.N S.sc scope bo = true)
    (hi : DI G X W own lk tg iter wi f) (hg : ∀ X', Fit G (S.blk scope) k X' → DG G X' (minus own lk) ts tg gt h) (ht : ∀ X', Fit G (S.blk scope) k X' → Takes X' W0 → DTs G X' W0 (minus own lk) ifs tt c) (he : ∀ X', Fit G (S.blk scope) k X' → Takes X' W0 → DE G X' W0 (minus own lk) lk2 elt te el)
    (hts : sub ts (bo.map (·.2)) = true) (hvs : (bo.map (·.2)).all (fun i => !((minus own lk).contains i)) = true) (hs : ∀ x, foldedSetIterable iter X.env x = pure x := by intro _; rfl) (hh : S.hot = false := by rfl) :
    DF G X W own (lk ++ lk2) (.ListComp elt [⟨tg, iter, ifs, 0⟩] scope pos) (tLc wi gt tt te (bo.map (·.2))) (lcD (bo.map (·.2)) f h c el) := by
  have hvs' : ∀ i ∈ bo.map (·.2), i ∉ minus own lk := fun i hi q => by
    have := List.all_eq_true.mp hvs i hi
    simp [q] at this
  refine ⟨pe_lc (F.calm hh) (by rw [F.N]; exact hN) hi.1 (by rw [F.N, F.sc]; exact blkOk_by ok) (fun s H C cl fp => (hg _ (F.blk s H scope C cl fp)).1) (fun s H C cl fp => (ht _ (F.blk s H scope C cl fp) takes0).1) (fun s H C cl fp => (he _ (F.blk s H scope C cl fp) takes0).1) hs, ?_⟩
  exact SF.lc (F.xi hh) hi.2 (hg _ (F.blk X.s_0 X.H_0 scope 0 [] [])).2 (ht _ (F.blk X.s_0 X.H_0 scope 0 [] []) takes0).2 (he _ (F.blk X.s_0 X.H_0 scope 0 [] []) takes0).2 (sub_mem hts) hvs'
/-- name = [..] on one line -/
theorem s_setLcF {ifs : List Expr} {scope : Scope} {bo : List (PySem.Str × Nat)} {wi : TI} {gt : TG} {tt : TT} {h : D → DEnv → R DEnv} {c : DEnv → R Bool} {el : DEnv → R D} {ts : List Nat} (F : Fit G S k X) (hN : S.N.Nodup) (hy : S.N[i]? = some y) (hyl : S.sc.names.lookup y = some .local) (ok : blkC S.N S.sc scope bo = true)
    (hi : DI G X W own lk tg iter wi f) (hg : ∀ X', Fit G (S.blk scope) k X' → DG G X' (minus own lk) ts tg gt h) (ht : ∀ X', Fit G (S.blk scope) k X' → Takes X' W0 → DTs G X' W0 (minus own lk) ifs tt c) (he : ∀ X', Fit G (S.blk scope) k X' → Takes X' W0 → DE G X' W0 (minus own lk) lk2 elt te el)
    (hts : sub ts (bo.map (·.2)) = true) (hvs : (bo.map (·.2)).all (fun i => !((minus own lk).contains i)) = true) (hl : left own' own (i :: (lk ++ lk2)) = true) (hx : sub ox own = true) (hkd : S.sc.kind = .function)
    (hsw : swB S.sc scope pos py y = true) (hs : ∀ x, foldedSetIterable iter X.env x = pure x := by intro _; rfl) (hh : S.hot = false := by rfl) :
    DS G X W fr own (i :: own') ol ox (.Assign [.Name y py] (.ListComp elt [⟨tg, iter, ifs, 0⟩] scope pos) spos) (tAsg (tLc wi gt tt te (bo.map (·.2))) (gName i)) (setF i (lcD (bo.map (·.2)) f h c el)) := by
  have hvs' : ∀ i ∈ bo.map (·.2), i ∉ minus own lk := fun i hi q => by
    have := List.all_eq_true.mp hvs i hi
    simp [q] at this
  refine ⟨ps_setLc (F.calm hh) (by rw [F.N]; exact hN) (by rw [F.N]; exact hy) (by rw [F.sc]; exact hyl) (sw_of F.sc hkd hsw) hi.1 (by rw [F.N, F.sc]; exact blkOk_by ok) (fun s H C cl fp => (hg _ (F.blk s H scope C cl fp)).1) (fun s H C cl fp => (ht _ (F.blk s H scope C cl fp) takes0).1) (fun s H C cl fp => (he _ (F.blk s H scope C cl fp) takes0).1) hs, ?_⟩
  exact SS.setF (SF.lc (F.xi hh) hi.2 (hg _ (F.blk X.s_0 X.H_0 scope 0 [] [])).2 (ht _ (F.blk X.s_0 X.H_0 scope 0 [] []) takes0).2 (he _ (F.blk X.s_0 X.H_0 scope 0 [] []) takes0).2 (sub_mem hts) hvs') hl hx
/-- the name is a cell, or its lines are apart: nothing is swapped -/
theorem s_setLcN {ifs : List Expr} {scope : Scope} {f' : DEnv → R D} (F : Fit G S k X) (hN : S.N.Nodup) (hi : S.N[i]? = some x) (hv : L2.Loc S.sc x) (hf : S.fn x = true ∨ S.sc.names.lookup x = some .local) (he : DF G X W own lk (.ListComp elt [⟨tg, iter, ifs, 0⟩] scope pos) te f') (hl : left own' own (i :: lk) = true) (hx : sub ox own = true)
    (hkd : S.sc.kind = .function) (hsw : swB S.sc scope pos py x = false) : DS G X W fr own (i :: own') ol ox (.Assign [.Name x py] (.ListComp elt [⟨tg, iter, ifs, 0⟩] scope pos) spos) (tAsg te (gName i)) (setF i f') :=
  s_setF F hN hi hv hf he hl hx (sw_of F.sc hkd hsw)

/-! ### for -/
def forD (h : D → DEnv → R DEnv) (b : DEnv → Fl) : List D → DEnv → Fl
  | [], δ => .nx δ
  | d :: ds, δ => match h d δ with
    | .ok δ1 => (match b δ1 with
      | .nx δ' => forD h b ds δ'
      | .ct δ' => forD h b ds δ'
      | .bk δ' => .nx δ'
      | .rt d => .rt d
      | .ex x δ' => .ex x δ'
      | .stk => .stk)
    | _ => .stk
def forF (f : DEnv → R (List D)) (h : D → DEnv → R DEnv) (b : DEnv → Fl) : DEnv → Fl := fun δ => match f δ with
  | .ok ds => forD h b ds δ
  | .err x => .ex x δ
  | .stk => .stk
theorem s_for {wi : TI} {gt : TG} {ts : List Nat} {h : D → DEnv → R DEnv} (F : Fit G S k X) (po : PassesOwn (model X.prog X.w) X.A X.env X.xe) (hi : DI G X W own lk tg iter wi f) (hg : DG G X olp ts tg gt h) (hb : DSs G X W fr olp olp olp ox body tb g) (hl : left olp own lk = true) (hs' : sub own' olp = true) (hx : sub ox own = true)
    (hs : ∀ x, foldedSetIterable iter X.env x = pure x := by intro _; rfl) (hh : S.hot = false := by rfl) :
    DS G X W fr own own' ol ox (.For tg iter body [] pos) (tFor wi gt tb) (forF f h g) := by
  refine ⟨ps_for po (F.calm hh) hi.1 hg.1 hb.1 hs, ?_⟩
  intro Z₀ α δ σ H Dn E hX qn qr qb qc qe ns
  unfold forF at qn qr qb qc qe ns
  refine hi.2 Z₀ α δ σ H _ E hX (fun ds J H1 Gd Y hf e1 wk hG hY => ?_) (fun x H1 hf e1 => ?_) (fun hf => by rw [hf] at ns; exact ns rfl)
  · rw [hf] at qn qr qb qc qe ns
    simp only at qn qr qb qc qe ns
    have hm := left_mem hl
    have ho : ∀ j ∈ olp, j ∈ own := fun j hj => minus_sub j (hm j hj)
    have E1 : EnvOk G.K Z₀ α olp δ σ H1 := (E.ext e1).weak ho
    have s1 : Step α own H α olp H1 := .ext e1 ho
    have zmem : ∀ {α' : Nat → Addr} {H2 : Hp}, Step α olp H1 α' olp H2 → ∀ a, ZZ Z₀ α' olp a → ZZ Z₀ α (minus own lk) a ∨ H1 a = none := fun {α' H2} s a q => by
      rcases q with q | ⟨j, hj, rfl⟩
      · exact .inl (.inl q)
      · rcases s.new j hj with ⟨m, hm', e⟩ | q
        · exact .inl (.inr ⟨m, hm m hm', e⟩)
        · exact .inr q
    have kmem : ∀ {α' : Nat → Addr} {H2 : Hp}, Step α olp H1 α' olp H2 → Keeps (ZZ Z₀ α (minus own lk)) H1 H2 := fun {α' H2} s => s.keep.mono fun a ⟨j, hj, e⟩ => .inr ⟨j, hm j hj, e⟩
    refine for_it wk (fun i σ2 H2 => ∃ (α' : Nat → Addr) (δ2 : DEnv), EnvOk G.K Z₀ α' olp δ2 σ2 H2 ∧ Step α olp H1 α' olp H2 ∧ forD h g (ds.drop i) δ2 = forD h g ds δ)
      ⟨α, δ, E1, .refl (fun _ h => h), rfl⟩ (fun i σ2 H2 hi p => ?_) (fun i x σ2 H2 H3 hi p y => ?_) (fun σ2 H2 p => ?_)
    · obtain ⟨α', δ2, E2, s2, _⟩ := p
      exact hG H2 (kmem s2)
    · obtain ⟨α', δ2, E2, s2, hd2⟩ := p
      obtain ⟨e3, rx⟩ := hY (ZZ Z₀ α' olp) i _ x H2 H3 (List.getElem?_eq_getElem hi) (zmem s2) (kmem s2) E2.zok y
      rw [List.drop_eq_getElem_cons hi] at hd2
      rw [← hd2] at qn qr qb qc qe ns
      unfold forD at qn qr qb qc qe ns
      cases hq : h ds[i] δ2 with
      | ok δ1 =>
        rw [hq] at qn qr qb qc qe ns
        simp only at qn qr qb qc qe ns
        refine hg.2 Z₀ α' δ2 σ2 H3 x _ _ (E2.ext e3) rx (fun δ' σ' hh2 E4 _ => ?_) ⟨δ1, hq⟩
        rw [hq] at hh2; cases hh2
        have s3 : Step α olp H1 α' olp H3 := s2.trans (.ext e3 fun _ h => h)
        refine hb.2 Z₀ α' δ1 σ' H3 _ E4 (F.xi hh _) (fun δ5 α5 σ5 H5 h5 E5 s5 => ?_) (fun d v H5 h5 kp r => ?_) (fun δ5 α5 σ5 H5 h5 E5 s5 => ?_) (fun δ5 α5 σ5 H5 h5 E5 s5 => ?_) (fun x δ5 α5 σ5 H5 h5 E5 s5 => ?_) (fun h5 => by rw [h5] at ns; exact ns rfl)
        · refine ⟨α5, δ5, E5, s3.trans s5, ?_⟩
          rw [← hd2]
          show _ = forD h g (ds[i] :: ds.drop (i + 1)) δ2
          rw [forD, hq]
          simp only [h5]
        · rw [h5] at qr
          exact qr d v H5 rfl ((s1.trans s3).keeps (own' := []) kp) ((s1.trans s3).ret r)
        · rw [h5] at qn
          exact qn δ5 α5 σ5 H5 rfl (E5.weak (sub_mem hs')) ((s1.trans (s3.trans s5)).trans (.refl (sub_mem hs')))
        · refine ⟨α5, δ5, E5, s3.trans s5, ?_⟩
          rw [← hd2]
          show _ = forD h g (ds[i] :: ds.drop (i + 1)) δ2
          rw [forD, hq]
          simp only [h5]
        · rw [h5] at qe
          exact qe x δ5 α5 σ5 H5 rfl E5 ((s1.trans s3).trans s5)
      | err _ => rw [hq] at ns; exact absurd rfl ns
      | stk => rw [hq] at ns; exact absurd rfl ns
    · obtain ⟨α', δ2, E2, s2, hd2⟩ := p
      rw [List.drop_length] at hd2
      have : forD h g ds δ = .nx δ2 := hd2.symm
      exact qn δ2 α' σ2 H2 this (E2.weak (sub_mem hs')) ((s1.trans s2).trans (.refl (sub_mem hs')))
  · rw [hf] at qe
    exact qe x δ α σ H1 rfl ((E.ext e1).weak (sub_mem hx)) (.ext e1 (sub_mem hx))
end

/-! ### while -/
def whileN (c : DEnv → R Bool) (b : DEnv → Fl) : Nat → DEnv → Fl
  | 0, _ => .stk
  | n + 1, δ => match c δ with
    | .ok true => (match b δ with
      | .nx δ' => whileN c b n δ'
      | .ct δ' => whileN c b n δ'
      | .bk δ' => .nx δ'
      | .rt d => .rt d
      | .ex x δ' => .ex x δ'
      | .stk => .stk)
    | .ok false => .nx δ
    | .err x => .ex x δ
    | .stk => .stk
theorem whileN_up (c : DEnv → R Bool) (b : DEnv → Fl) : ∀ (n : Nat) (δ : DEnv), whileN c b n δ ≠ .stk → whileN c b (n + 1) δ = whileN c b n δ
  | 0, δ, h => absurd rfl h
  | n + 1, δ, h => by
    rw [whileN] at h
    rw [whileN, whileN]
    cases hc : c δ with
    | ok b' =>
      cases b' with
      | true =>
        rw [hc] at h
        simp only at h ⊢
        cases hb : b δ with
        | nx δ' => rw [hb] at h; exact whileN_up c b n δ' h
        | ct δ' => rw [hb] at h; exact whileN_up c b n δ' h
        | _ => rfl
      | false => rfl
    | err x => rfl
    | stk => rfl
theorem whileN_le (c : DEnv → R Bool) (b : DEnv → Fl) {n m : Nat} {δ : DEnv} (h : whileN c b n δ ≠ .stk) (hm : n ≤ m) : whileN c b m δ = whileN c b n δ := by
  obtain ⟨k, rfl⟩ := Nat.exists_eq_add_of_le hm
  clear hm
  induction k with
  | zero => rfl
  | succ k ih =>
    show whileN c b (n + k + 1) δ = _
    rw [whileN_up c b (n + k) δ (by rw [ih]; exact h), ih]
open Classical in
noncomputable def whileF (c : DEnv → R Bool) (b : DEnv → Fl) : DEnv → Fl := fun δ => if h : ∃ n, whileN c b n δ ≠ .stk then whileN c b h.choose δ else .stk
theorem whileF_of {c : DEnv → R Bool} {b : DEnv → Fl} {n : Nat} {δ : DEnv} {r : Fl} (h : whileN c b n δ = r) (hr : r ≠ .stk) : whileF c b δ = r := by
  have hn : whileN c b n δ ≠ .stk := by rw [h]; exact hr
  have hex : ∃ n, whileN c b n δ ≠ .stk := ⟨n, hn⟩
  unfold whileF
  rw [dif_pos hex]
  have h2 := hex.choose_spec
  rcases Nat.le_total n hex.choose with q | q
  · rw [whileN_le c b hn q, h]
  · rw [← whileN_le c b h2 q, h]
theorem whileF_ex {c : DEnv → R Bool} {b : DEnv → Fl} {δ : DEnv} (h : whileF c b δ ≠ .stk) : ∃ n, whileN c b n δ = whileF c b δ := by
  unfold whileF at h ⊢
  by_cases hex : ∃ n, whileN c b n δ ≠ .stk
  · rw [dif_pos hex]; exact ⟨_, rfl⟩
  · rw [dif_neg hex] at h; exact absurd rfl h
section
variable {G : Cfg} {S : Sco} {k : Nat} {X : Cx} {W : WX} {fr : Bool} {own own' olp ol ox : List Nat} {pos : Pos} {body : List Stmt} {tb : TS} {g : DEnv → Fl} {c : Expr} {tc : TT} {fc : DEnv → R Bool}
theorem s_while (F : Fit G S k X) (po : PassesOwn (model X.prog X.w) X.A X.env X.xe) (hc : DT G X W olp c tc fc) (hb : DSs G X W fr olp olp olp ox body tb g) (hl : sub olp own = true) (hs' : sub own' olp = true) (hx : sub ox olp = true) (hh : S.hot = false := by rfl) :
    DS G X W fr own own' ol ox (.While c body [] pos) (tWhile tc tb) (whileF fc g) := by
  refine ⟨ps_while po hc.1 hb.1, ?_⟩
  intro Z₀ α δ σ H Dn E hX qn qr qb qc qe ns
  obtain ⟨n0, h0⟩ := whileF_ex ns
  have ho := sub_mem hl
  refine ⟨fun n σ2 H2 => ∃ (α' : Nat → Addr) (δ2 : DEnv), EnvOk G.K Z₀ α' olp δ2 σ2 H2 ∧ Step α own H α' olp H2 ∧ whileN fc g n δ2 = whileF fc g δ, ⟨n0, α, δ, E.weak ho, .refl ho, h0⟩, ?_⟩
  rintro n σ2 H2 ⟨α', δ2, E2, s2, h2⟩
  rw [← h2] at qn qr qe ns
  cases n with
  | zero => exact absurd rfl ns
  | succ n =>
    rw [whileN] at qn qr qe ns h2
    refine hc.2 Z₀ α' δ2 σ2 H2 _ E2 (F.xi hh _) (fun b H3 hf e3 => ?_) (fun x H3 hf e3 => ?_) (fun hf => by rw [hf] at ns; exact ns rfl)
    · rw [hf] at qn qr qe ns h2
      have s3 : Step α own H α' olp H3 := s2.trans (.ext e3 fun _ h => h)
      cases b with
      | true =>
        rw [if_pos rfl]
        simp only at qn qr qe ns h2
        refine ⟨fun σ5 H5 => ∃ m, m < n + 1 ∧ ∃ (α' : Nat → Addr) (δ5 : DEnv), EnvOk G.K Z₀ α' olp δ5 σ5 H5 ∧ Step α own H α' olp H5 ∧ whileN fc g m δ5 = whileF fc g δ, fun _ _ h => h, ?_⟩
        refine hb.2 Z₀ α' δ2 σ2 H3 _ (E2.ext e3) (F.xi hh _) (fun δ5 α5 σ5 H5 h5 E5 s5 => ?_) (fun d v H5 h5 kp r => ?_) (fun δ5 α5 σ5 H5 h5 E5 s5 => ?_) (fun δ5 α5 σ5 H5 h5 E5 s5 => ?_) (fun x δ5 α5 σ5 H5 h5 E5 s5 => ?_) (fun h5 => by rw [h5] at ns; exact ns rfl)
        · rw [h5] at h2
          exact ⟨n, Nat.lt_succ_self n, α5, δ5, E5, s3.trans s5, h2⟩
        · rw [h5] at qr
          exact qr d v H5 rfl (s3.keeps (own' := []) kp) (s3.ret r)
        · rw [h5] at qn
          exact qn δ5 α5 σ5 H5 rfl (E5.weak (sub_mem hs')) ((s3.trans s5).trans (.refl (sub_mem hs')))
        · rw [h5] at h2
          exact ⟨n, Nat.lt_succ_self n, α5, δ5, E5, s3.trans s5, h2⟩
        · rw [h5] at qe
          exact qe x δ5 α5 σ5 H5 rfl E5 (s3.trans s5)
      | false =>
        rw [if_neg Bool.false_ne_true]
        exact qn δ2 α' σ2 H3 rfl ((E2.ext e3).weak (sub_mem hs')) (s3.trans (.refl (sub_mem hs')))
    · rw [hf] at qe
      exact qe x δ2 α' σ2 H3 rfl ((E2.ext e3).weak (sub_mem hx)) (s2.trans (.ext e3 (sub_mem hx)))
end
end DL

set_option maxRecDepth 100001
set_option maxHeartbeats 1000001
namespace DL
open PySem PySem.Spec PyProof.Rows L2

/-! ### exceptions of the program's own classes -/
structure ExK (G : Cfg) (x : PySem.Str) (nm : String) (C : Addr) : Prop where
  gC : G.mg x = some (.ref C)
  cv : G.cv nm = .ref C
  xC : PySem.W.excIn G.K C [.type "ValueError", .type "Exception", .type "BaseException", .type "object"] "ValueError.__new__" = true
  kC : PySem.W.keepIn G.K (.ref C) = true
  bC : PySem.W.subIn G.K (.ref C) (.type "BaseException") = some true
  tC : PySem.W.typeIn G.K (.ref C) = some (.type "type")
  hC : PySem.W.hasDictIn G.K C = true
  ec : ExcC G.K C
def raiseF (nm : String) : DEnv → Fl := fun δ => .ex ⟨nm⟩ δ
section
variable {G : Cfg} {S : Sco} {k : Nat} {X : Cx} {W : WX} {fr : Bool} {own own' ol ox oh : List Nat} {pos pos' p p2 np : Pos} {x n : PySem.Str} {nm : String} {C : Addr} {body suite : List Stmt} {b₀ : Stmt} {g : DEnv → Fl} {i : Nat}
theorem s_raise {m : PySem.Str} {j : Nat} (F : Fit G S k X) (tk : Takes X W) (K : ExK G x nm C) (hg : S.sc.names.lookup x = some .globalImplicit) (hx : sub ox own = true) (hdb : (x == ("__debug__" : PySem.Str)) = false := by decide) (hh : S.hot = false := by rfl) :
    DS G X W fr own own' ol ox (.Raise (some (.Call (.Name x p) [.Constant (.str m) j p2] [] pos)) none pos') (fun _ σ H => W (.ref C) none σ H) (raiseF nm) := by
  refine ⟨ps_raise (t := fun _ H Q => Q (.ref C) none H) (F.calm hh) tk (pmk_own PySem.F.excBase_ValueError (by rw [F.K]; exact K.xC) (by rw [F.mg]; exact K.gC) (by rw [F.K]; exact K.kC) (raises_own (by rw [F.K]; exact K.bC) (by rw [F.K]; exact K.tC)) (fit_gl F hg) hdb), ?_⟩
  intro Z₀ α δ σ H Dn E hX qn qr qb qc qe ns
  have := qe ⟨nm⟩ δ α σ H rfl (E.weak (sub_mem hx)) (.refl (sub_mem hx))
  rw [← K.cv]
  exact this

/-! ### try -/
def Cfg.held (G : Cfg) (i : Nat) (a : Addr) : Cfg := { G with xi := fun σ => σ[i]? = some (some (.ref a)) }
/-- what a suite may ask of the error that it holds -/
structure Held (G : Cfg) (X : Cx) (a D₀ : Addr) : Prop where
  isi : CallR X (.builtin "isinstance") (rIsE G.K D₀ a)
  isiT : CallR X (.builtin "isinstance") (fun xs H Q => ∃ (tp : Addr) (cs : List V) (us : List Value) (b : Bool), xs = [.ref a, .ref tp] ∧ H tp = some (.tup cs) ∧ Paired ClsV cs us ∧ PySem.W.kitAny G.K (.ref D₀) us = some b ∧ Q (.bl b) H)
theorem call_isET {X : Cx} {a D : Addr} {oe : Obj} {pn : List (Addr × Obj)} (C : ExcC X.K D) (hz : Zc (.ref D) none oe) (hf : ∃ vs, oe.data = .fields vs) :
    CallR (X.suite a ((a, oe) :: pn)) (.builtin "isinstance") (fun xs H Q => ∃ (tp : Addr) (cs : List V) (us : List Value) (b : Bool), xs = [.ref a, .ref tp] ∧ H tp = some (.tup cs) ∧ Paired ClsV cs us ∧ PySem.W.kitAny X.K (.ref D) us = some b ∧ Q (.bl b) H) := by
  intro pins s σ H xs us Q I r h
  obtain ⟨tp, cs, ws, b, rfl, hT, k, e, q⟩ := h
  obtain ⟨u1, u2, rfl, r1, r2⟩ := vals2 r
  cases (show u1 = Value.ref a from r1)
  cases (show u2 = Value.ref tp from r2)
  obtain ⟨hget, _⟩ := I.pin (a, oe) (List.mem_append.mpr (.inl List.mem_cons_self))
  obtain ⟨vs, hv⟩ := hf
  have J : PySem.W.InstAt s.heap a oe D none := by
    obtain ⟨oc, od, oda, osl⟩ := oe
    obtain ⟨h1, h2⟩ := hz
    dsimp only at h1 h2 hv
    subst h1 h2 hv
    exact ⟨hget, rfl, rfl, trivial⟩
  obtain ⟨_, its, rv, o, h1, h2, n, h3⟩ := (show ObjOk X.prog X.w H s.heap tp (.tup cs) from I.hok tp _ hT)
  have e3 := ClsV.all k rv
  subst e3
  obtain ⟨oc, od, dt, sl⟩ := o
  simp only at h2 h3
  subst h2 h3
  exact PySem.W.kia_tup (PySem.W.handS_kitx_exc C.hg C.hk C.hs C.hd C.ha C.hn C.ht C.hm) I.kIn J h1 e (fun z => nomatch z) fun tk => ⟨.bl b, H, I.kept (t' := tk) fun _ _ z => z, rfl, q⟩
def unsetF (i : Nat) : Fl → Fl
  | .nx δ => .nx (δ.set i none)
  | .bk δ => .bk (δ.set i none)
  | .ct δ => .ct (δ.set i none)
  | .rt d => .rt d
  | .ex _ _ => .stk
  | .stk => .stk
/-- ms: of each class of errors that may come, whether the clause takes it -/
def tryF (i : Nat) (ms : List (String × Bool)) (g : DEnv → Fl) (gs : String → DEnv → Fl) : DEnv → Fl := fun δ => match g δ with
  | .ex x δ' => (match ms.lookup x.cls with
    | some true => if i < δ'.length then unsetF i (gs x.cls (δ'.set i none)) else .stk
    | some false => .ex x δ'
    | none => .stk)
  | .nx δ' => .nx δ'
  | .bk δ' => .bk δ'
  | .ct δ' => .ct δ'
  | .rt d => .rt d
  | .stk => .stk
theorem EnvOk.junk {K : PySem.W.Frag} {Z₀ : Addr → Prop} {α : Nat → Addr} {own : List Nat} {δ : DEnv} {σ : L2.St} {H : Hp} (E : EnvOk K Z₀ α own δ σ H) {i : Nat} {v : Option V} (hi : i ∉ own) : EnvOk K Z₀ α own (δ.set i none) (σ.set i v) H := by
  refine ⟨E.z0, E.nz0, E.inj, by simp [E.len], fun j e hj he => ?_, fun j hj => ?_⟩
  · by_cases q : i = j
    · subst q
      by_cases hl : i < δ.length
      · rw [List.getElem?_set_self hl] at he; cases he
      · rw [List.getElem?_eq_none (by simpa using hl)] at he; cases he
    · rw [List.getElem?_set_ne q] at he ⊢
      exact E.free j e hj he
  · have q : i ≠ j := fun z => hi (z ▸ hj)
    rw [List.getElem?_set_ne q, List.getElem?_set_ne q]
    exact E.top j hj
theorem PSs.ex {X : Cx} {st : List Stmt} {ι : Type} {P : ι → Prop} {t : ι → TS} (h : ∀ z, P z → PSs X st (t z)) : PSs X st (fun D σ H => ∃ z, P z ∧ t z D σ H) :=
  ⟨fun pins s σ H D I ⟨z, hp, hq⟩ => (h z hp).run pins s σ H D I hq⟩
theorem lookup_mem {α : Type} : ∀ {l : List (String × α)} {n : String} {b : α}, l.lookup n = some b → (n, b) ∈ l
  | (k, v) :: r, n, b, h => by
    rw [List.lookup_cons] at h
    cases hb : n == k with
    | true =>
      rw [hb] at h
      cases h
      have : n = k := by simpa using hb
      subst this
      exact List.mem_cons_self
    | false =>
      rw [hb] at h
      exact List.mem_cons_of_mem _ (lookup_mem h)
theorem exk_held {X : Cx} (F : Fit G S k X) {nm' : String} {D₀ a : Addr} (hec : ExcC G.K D₀) {oe : Obj} {pn : List (Addr × Obj)} (hz : Zc (.ref D₀) none oe) (hf : ∃ vs, oe.data = .fields vs) : Held G (X.suite a ((a, oe) :: pn)) a D₀ := by
  have e : G.K = X.K := F.K.symm
  rw [e] at hec
  exact ⟨by rw [e]; exact call_isE hec hz hf, by rw [e]; exact call_isET hec hz hf⟩
theorem Fit.toSuite {X : Cx} {i : Nat} (F : Fit G S k X) (a : Addr) (pn : List (Addr × Obj)) : Fit (G.held i a) { S with hot := true, top := false } k (X.suite a pn) where
  prog := F.prog
  w := F.w
  K := F.K
  mg := F.mg
  base := F.base
  N := F.N
  sc := F.sc
  fn := F.fn
  room' := fun h => nomatch h
  calm' := fun h => nomatch h
  xi' := fun h => nomatch h
  tp' := fun h => nomatch h
theorem Fit.tr {X : Cx} (F : Fit G S k X) (pn : List (Addr × Obj)) (xe : Value → Shared → Prop) : Fit G S k (X.tr pn xe) where
  prog := F.prog
  w := F.w
  K := F.K
  mg := F.mg
  base := F.base
  N := F.N
  sc := F.sc
  fn := F.fn
  room' := F.room'
  calm' := F.calm'
  xi' := F.xi'
  tp' := F.tp'
/-- what is known of a suite's error: its class's name and address -/
def HeldP (G : Cfg) (cls : Value) (d : Option Addr) (z : String × Addr) : Prop := G.cv z.1 = .ref z.2 ∧ cls = .ref z.2 ∧ d = none ∧ ExcC G.K z.2
theorem s_tryAs {tb : WX → TS} {ts : Addr → Addr → TS} {gs : String → DEnv → Fl} {ms : List (String × Bool)} (F : Fit G S k X) (tk : Takes X W) (hN : S.N.Nodup) (hi : S.N[i]? = some n) (hln : S.sc.names.lookup n = some .local) (KX : ExK G x nm C) (hg : S.sc.names.lookup x = some .globalImplicit)
    (hms : ∀ q ∈ ms, ∃ D₀, G.cv q.1 = .ref D₀ ∧ ExcC G.K D₀ ∧ PySem.W.exmOne G.K (.ref D₀) (.ref C) = some q.2)
    (hb : ∀ X' W', Fit G S k X' → Takes X' W' → DSs G X' W' fr own own' ol oh body (tb W') g)
    (hsu : ∀ X' a D₀ nm', Fit (G.held i a) { S with hot := true, top := false } k X' → G.cv nm' = .ref D₀ → Held G X' a D₀ → DSs (G.held i a) X' W0 fr oh own' ol [] (b₀ :: suite) (ts a D₀) (gs nm'))
    (hio : i ∉ oh) (hi2 : i ∉ own') (hi3 : i ∉ ol) (hx : sub ox oh = true) (hdb : (x == ("__debug__" : PySem.Str)) = false := by decide) (hh : S.hot = false := by rfl) (ht : S.top = true := by rfl) :
    DS G X W fr own own' ol ox (.Try body [.ExceptHandler (some (.Name x np)) (some n) (b₀ :: suite) pos'] [] [] pos)
      (fun D σ H => tb (wAs G.K (.ref C) i (fun a cls d D σ H => ∃ z : String × Addr, HeldP G cls d z ∧ ts a z.2 D σ H) W D) D σ H) (tryF i ms g gs) := by
  obtain ⟨hs, hf⟩ := F.tp' ht
  refine ⟨?_, ?_⟩
  · have h := ps_try_as (X := X) (tb := tb) (ts := fun a cls d D σ H => ∃ z : String × Addr, HeldP G cls d z ∧ ts a z.2 D σ H) (Wout := W) (body := body) (b₀ := b₀) (suite := suite) (np := np) (pos := pos) (pos' := pos') (x := x) (n := n) (c := .ref C) (i := i) hs hf (by rw [F.N]; exact hN) (by rw [F.N]; exact hi)
      (by show X.env.scope.names.lookup n = _; rw [F.sc]; exact hln) ⟨fit_gl F hg, hdb, .inl (by rw [F.mg]; exact KX.gC)⟩ tk (fun W' pn xe tk' po => (hb _ W' (F.tr pn xe) tk').1) (fun a oe cls d pn hz hf => PSs.ex fun z hp => by
        obtain ⟨h1, rfl, rfl, h4⟩ := hp
        exact (hsu _ a z.2 z.1 (F.toSuite a _) h1 (exk_held (nm' := z.1) F h4 hz hf)).1)
    rw [F.K] at h
    exact h
  · intro Z₀ α δ σ H Dn E hX qn qr qb qc qe ns
    unfold tryF at qn qr qb qc qe ns
    have hbS := fun W' => (hb (X.tr X.pn (fun _ _ => True)) W' (F.tr X.pn _) (fun _ _ _ => trivial)).2
    refine hbS _ Z₀ α δ σ H Dn E hX (fun δ' α' σ' H' hg' E' s => ?_) (fun d v H' hg' kp r => ?_) (fun δ' α' σ' H' hg' E' s => ?_) (fun δ' α' σ' H' hg' E' s => ?_) (fun x δ' α' σ' H' hg' E' s => ?_) (fun hg' => by rw [hg'] at ns; exact ns rfl)
    · rw [hg'] at qn; exact qn δ' α' σ' H' rfl E' s
    · rw [hg'] at qr; exact qr d v H' rfl kp r
    · rw [hg'] at qb; exact qb δ' α' σ' H' rfl E' s
    · rw [hg'] at qc; exact qc δ' α' σ' H' rfl E' s
    · rw [hg'] at qn qr qb qc qe ns
      simp only at qn qr qb qc qe ns
      cases hm : ms.lookup x.cls with
      | none => rw [hm] at ns; exact absurd rfl ns
      | some b =>
        rw [hm] at qn qr qb qc qe ns
        obtain ⟨D₀, hcv, hec, hex⟩ := hms _ (lookup_mem hm)
        refine ⟨b, by rw [hcv]; exact hex, fun hbt a ha => ?_, fun hbf => ?_⟩
        · subst hbt
          dsimp only at qn qr qb qc ns
          by_cases hlen : i < δ'.length
          · rw [if_pos hlen] at qn qr qb qc ns
            refine ⟨(x.cls, D₀), ⟨hcv, hcv, rfl, hec⟩, ?_⟩
            have hsx : (σ'.set i (some (V.ref a)))[i]? = some (some (V.ref a)) := List.getElem?_set_self (by rw [E'.len]; exact hlen)
            have hS := (hsu _ a D₀ x.cls (F.toSuite (i := i) a ((a, { cls := .ref D₀, dict := none, data := .fields #[] }) :: [])) hcv (exk_held (nm' := "") F hec ⟨rfl, rfl⟩ ⟨_, rfl⟩)).2
            refine hS Z₀ α' (δ'.set i none) (σ'.set i (some (.ref a))) H' _ (E'.junk hio) hsx (fun δ5 α5 σ5 H5 h5 E5 s5 => ?_) (fun d v H5 h5 kp r => ?_) (fun δ5 α5 σ5 H5 h5 E5 s5 => ?_) (fun δ5 α5 σ5 H5 h5 E5 s5 => ?_) (fun x δ5 α5 σ5 H5 h5 E5 s5 => ?_) (fun h5 => by rw [h5] at ns; exact ns rfl)
            · rw [h5] at qn
              exact qn _ α5 _ H5 rfl (E5.unset hi2) (s.trans s5)
            · rw [h5] at qr
              exact qr d v H5 rfl (s.keeps (own' := []) kp) (s.ret r)
            · rw [h5] at qb
              exact qb _ α5 _ H5 rfl (E5.unset hi3) (s.trans s5)
            · rw [h5] at qc
              exact qc _ α5 _ H5 rfl (E5.unset hi3) (s.trans s5)
            · rw [h5] at ns; exact absurd rfl ns
          · rw [if_neg hlen] at ns; exact absurd rfl ns
        · subst hbf
          exact qe x δ' α' σ' H' rfl (E'.weak (sub_mem hx)) (s.trans (.refl (sub_mem hx)))
end
end DL

set_option maxRecDepth 100001
set_option maxHeartbeats 1000001
namespace DL
open PySem PySem.Spec PyProof.Rows L2
/-- try .. except X: (no name) -/
def tryOF (ms : List (String × Bool)) (g gs : DEnv → Fl) : DEnv → Fl := fun δ => match g δ with
  | .ex x δ' => (match ms.lookup x.cls with
    | some true => (match gs δ' with | .ex _ _ => .stk | r => r)
    | some false => .ex x δ'
    | none => .stk)
  | .nx δ' => .nx δ'
  | .bk δ' => .bk δ'
  | .ct δ' => .ct δ'
  | .rt d => .rt d
  | .stk => .stk
section
variable {G : Cfg} {S : Sco} {k : Nat} {X : Cx} {W : WX} {fr : Bool} {own own' ol ox oh : List Nat} {pos pos' p p2 np : Pos} {x n : PySem.Str} {nm : String} {C : Addr} {body suite : List Stmt} {b₀ : Stmt} {g gs : DEnv → Fl} {i : Nat}
theorem Fit.toSuite0 {X : Cx} (F : Fit G S k X) (a : Addr) (pn : List (Addr × Obj)) : Fit G { S with hot := true, top := false } k (X.suite a pn) where
  prog := F.prog
  w := F.w
  K := F.K
  mg := F.mg
  base := F.base
  N := F.N
  sc := F.sc
  fn := F.fn
  room' := fun h => nomatch h
  calm' := fun h => nomatch h
  xi' := fun h => nomatch h
  tp' := fun h => nomatch h
theorem s_tryOnly {tb : WX → TS} {ts : TS} {ms : List (String × Bool)} (F : Fit G S k X) (tk : Takes X W) (KX : ExK G x nm C) (hg : S.sc.names.lookup x = some .globalImplicit)
    (hms : ∀ q ∈ ms, PySem.W.exmOne G.K (G.cv q.1) (.ref C) = some q.2)
    (hb : ∀ X' W', Fit G S k X' → Takes X' W' → DSs G X' W' fr own own' ol oh body (tb W') g)
    (hsu : ∀ X', Fit G { S with hot := true, top := false } k X' → DSs G X' W0 fr oh own' ol [] (b₀ :: suite) ts gs)
    (hx : sub ox oh = true) (hdb : (x == ("__debug__" : PySem.Str)) = false := by decide) (hh : S.hot = false := by rfl) (ht : S.top = true := by rfl) :
    DS G X W fr own own' ol ox (.Try body [.ExceptHandler (some (.Name x np)) none (b₀ :: suite) pos'] [] [] pos)
      (fun D σ H => tb (wOnly G.K (.ref C) (fun _ _ _ => ts) W D) D σ H) (tryOF ms g gs) := by
  obtain ⟨hs, hf⟩ := F.tp' ht
  refine ⟨?_, ?_⟩
  · have h := ps_try_only (X := X) (tb := tb) (ts := fun _ _ _ => ts) (Wout := W) (body := body) (b₀ := b₀) (suite := suite) (np := np) (pos := pos) (pos' := pos') (x := x) (c := .ref C) hs hf ⟨fit_gl F hg, hdb, .inl (by rw [F.mg]; exact KX.gC)⟩ tk
      (fun W' pn xe tk' po => (hb _ W' (F.tr pn xe) tk').1) (fun a oe cls d pn hz hf => (hsu _ (F.toSuite0 a _)).1)
    rw [F.K] at h
    exact h
  · intro Z₀ α δ σ H Dn E hX qn qr qb qc qe ns
    unfold tryOF at qn qr qb qc qe ns
    have hbS := fun W' => (hb (X.tr X.pn (fun _ _ => True)) W' (F.tr X.pn _) (fun _ _ _ => trivial)).2
    refine hbS _ Z₀ α δ σ H Dn E hX (fun δ' α' σ' H' hg' E' s => ?_) (fun d v H' hg' kp r => ?_) (fun δ' α' σ' H' hg' E' s => ?_) (fun δ' α' σ' H' hg' E' s => ?_) (fun x δ' α' σ' H' hg' E' s => ?_) (fun hg' => by rw [hg'] at ns; exact ns rfl)
    · rw [hg'] at qn; exact qn δ' α' σ' H' rfl E' s
    · rw [hg'] at qr; exact qr d v H' rfl kp r
    · rw [hg'] at qb; exact qb δ' α' σ' H' rfl E' s
    · rw [hg'] at qc; exact qc δ' α' σ' H' rfl E' s
    · rw [hg'] at qn qr qb qc qe ns
      simp only at qn qr qb qc qe ns
      cases hm : ms.lookup x.cls with
      | none => rw [hm] at ns; exact absurd rfl ns
      | some b =>
        rw [hm] at qn qr qb qc qe ns
        refine ⟨b, hms _ (lookup_mem hm), fun hbt a ha => ?_, fun hbf => ?_⟩
        · subst hbt
          dsimp only at qn qr qb qc ns
          refine (hsu _ (F.toSuite0 a [])).2 Z₀ α' δ' σ' H' Dn E' (F.xi hh _) (fun δ5 α5 σ5 H5 h5 E5 s5 => ?_) (fun d v H5 h5 kp r => ?_) (fun δ5 α5 σ5 H5 h5 E5 s5 => ?_) (fun δ5 α5 σ5 H5 h5 E5 s5 => ?_) (fun x δ5 α5 σ5 H5 h5 E5 s5 => ?_) (fun h5 => by rw [h5] at ns; exact ns rfl)
          · rw [h5] at qn
            exact qn _ α5 _ H5 rfl E5 (s.trans s5)
          · rw [h5] at qr
            exact qr d v H5 rfl (s.keeps (own' := []) kp) (s.ret r)
          · rw [h5] at qb
            exact qb _ α5 _ H5 rfl E5 (s.trans s5)
          · rw [h5] at qc
            exact qc _ α5 _ H5 rfl E5 (s.trans s5)
          · rw [h5] at ns; exact absurd rfl ns
        · subst hbf
          exact qe x δ' α' σ' H' rfl (E'.weak (sub_mem hx)) (s.trans (.refl (sub_mem hx)))
/-! isinstance(e, C), e the error that the suite holds -/
def isE (tbl : List (String × Bool)) (nm : String) : DEnv → R D := fun _ => match tbl.lookup nm with
  | some b => .ok (.bl b)
  | none => .stk
/-- a class as a value: one of the program's own, or a built-in one -/
structure ClsA (G : Cfg) (S : Sco) (x : PySem.Str) (c : V) (u : Value) : Prop where
  cv : ClsV c u
  pe : ∀ {k : Nat} {X : Cx} {pos : Pos}, Fit G S k X → PE X (.Name x pos) (tC c)
theorem clsOwn {C : Addr} (hg : S.sc.names.lookup x = some .globalImplicit) (hm : G.mg x = some (.ref C)) (hd : (x == ("__debug__" : PySem.Str)) = false := by decide) : ClsA G S x (.ref C) (.ref C) :=
  ⟨.own C, fun F => pe_glob (fit_gl F hg) (by rw [F.mg]; exact hm) rfl hd⟩
theorem clsTy {T : String} (hg : S.sc.names.lookup x = some .globalImplicit) (hm : G.mg x = none) (hv : bootBuiltins x = some (.type T)) (hn : x ≠ "__name__" := by decide) (hd : (x == ("__debug__" : PySem.Str)) = false := by decide) : ClsA G S x (.ty T) (.type T) :=
  ⟨.ty T, fun F => pe_bltn (fit_gl F hg) (by rw [F.mg]; exact hm) hv rfl hn hd⟩
theorem d_isE {tbl : List (String × Bool)} {a D₀ : Addr} {c : V} {u : Value} {p1 p3 : Pos} {W : WX} {y : PySem.Str} (F : Fit (G.held i a) S k X) (HH : Held G X a D₀) (hnm : G.cv nm = .ref D₀) (hg : S.sc.names.lookup (PySem.Str.ofString "isinstance") = some .globalImplicit) (hm : G.mg (PySem.Str.ofString "isinstance") = none)
    (hN : S.N[i]? = some n) (hv : Vis S.sc n) (hc : ClsA (G.held i a) S y c u) (htb : ∀ q ∈ tbl, PySem.W.kitOne G.K (G.cv q.1) u = some q.2)
    (h1 : (n == ("__debug__" : PySem.Str)) = false := by decide) (h2 : (n == ("__classdict__" : PySem.Str)) = false := by decide)
    (he : starEach [.Name n p1, .Name y p3] X.env = (false, eval (.Name n p1) X.env) :: starEach [.Name y p3] X.env := by rfl) (hpl : (backTo pos (starEach [.Name y p3] X.env)).any (·.1) = false := by rfl) :
    DE (G.held i a) X W own [] (.Call (.Name (PySem.Str.ofString "isinstance") p) [.Name n p1, .Name y p3] [] pos) (tCB (rIsE G.K D₀ a) (tCons (tVar i) (tCons (tC c) tNil))) (isE tbl nm) := by
  refine ⟨pe_callB HH.isi (fit_gl F hg) (by rw [F.mg]; exact hm) (by decide +kernel) (pa_cons (pe_var (by rw [F.N]; exact hN) (by rw [F.sc]; exact hv) h1 h2) (pa_cons (hc.pe F) pa_nil) he) (by decide) (by decide) he hpl, ?_⟩
  intro Z₀ α δ σ H Q E hX q qe ns
  unfold isE at q ns
  cases hl : tbl.lookup nm with
  | none => rw [hl] at ns; exact absurd rfl ns
  | some b =>
    rw [hl] at q
    refine ⟨_, hX, c, u, b, rfl, fun w hw => hc.cv.eq hw, ?_, q _ _ H rfl (Same.refl H) rfl⟩
    rw [← hnm]
    exact htb _ (lookup_mem hl)
/-! isinstance(e, (C1, C2)) -/
theorem d_isE2 {tbl : List (String × Bool)} {a D₀ : Addr} {c c' : V} {u u' : Value} {p1 p3 p4 p5 : Pos} {W : WX} {y y' : PySem.Str} {x1 : Nat} (F : Fit (G.held i a) S k X) (HH : Held G X a D₀) (hnm : G.cv nm = .ref D₀) (hg : S.sc.names.lookup (PySem.Str.ofString "isinstance") = some .globalImplicit) (hm : G.mg (PySem.Str.ofString "isinstance") = none)
    (hN : S.N[i]? = some n) (hv : Vis S.sc n) (hc : ClsA (G.held i a) S y c u) (hc' : ClsA (G.held i a) S y' c' u') (htb : ∀ q ∈ tbl, PySem.W.kitAny G.K (G.cv q.1) [u, u'] = some q.2)
    (h1 : (n == ("__debug__" : PySem.Str)) = false := by decide) (h2 : (n == ("__classdict__" : PySem.Str)) = false := by decide)
    (he : starEach [.Name n p1, .Tuple [.Name y p3, .Name y' p4] x1 p5] X.env = (false, eval (.Name n p1) X.env) :: starEach [.Tuple [.Name y p3, .Name y' p4] x1 p5] X.env := by rfl)
    (hpl : (backTo pos (starEach [.Tuple [.Name y p3, .Name y' p4] x1 p5] X.env)).any (·.1) = false := by rfl) :
    DE (G.held i a) X W own [] (.Call (.Name (PySem.Str.ofString "isinstance") p) [.Name n p1, .Tuple [.Name y p3, .Name y' p4] x1 p5] [] pos)
      (tCB (fun xs H Q => ∃ (tp : Addr) (cs : List V) (us : List Value) (b : Bool), xs = [.ref a, .ref tp] ∧ H tp = some (.tup cs) ∧ Paired ClsV cs us ∧ PySem.W.kitAny G.K (.ref D₀) us = some b ∧ Q (.bl b) H) (tCons (tVar i) (tCons (tTup (tCons (tC c) (tCons (tC c') tNil))) tNil))) (isE tbl nm) := by
  refine ⟨pe_callB HH.isiT (fit_gl F hg) (by rw [F.mg]; exact hm) (by decide +kernel) (pa_cons (pe_var (by rw [F.N]; exact hN) (by rw [F.sc]; exact hv) h1 h2) (pa_cons (pe_tup (pa_cons (hc.pe F) (pa_cons (hc'.pe F) pa_nil))) pa_nil) he) (by decide) (by decide) he hpl, ?_⟩
  intro Z₀ α δ σ H Q E hX q qe ns
  unfold isE at q ns
  cases hl : tbl.lookup nm with
  | none => rw [hl] at ns; exact absurd rfl ns
  | some b =>
    rw [hl] at q
    refine ⟨_, hX, by show 2 ≤ sizeLine; rw [sizeLine_eq]; decide, fun tp ht => ⟨tp, _, [u, u'], b, rfl, upd_same, .cons hc.cv (.cons hc'.cv .nil), ?_, q _ _ _ rfl (ext_upd ht) rfl⟩⟩
    rw [← hnm]
    exact htb _ (lookup_mem hl)
end

/-! ### a def -/
def startD (m : Nat) (ds : List D) : DEnv := ds.map some ++ List.replicate (m - ds.length) none
def fnRes : Fl → R D
  | .nx _ => .ok .non
  | .rt d => .ok d
  | .ex x _ => .err x
  | _ => .stk
def runD (m : Nat) (g : DEnv → Fl) : List D → R D := fun ds => fnRes (g (startD m ds))
def bodyS (N : List PySem.Str) (st : Stmt) : Sco := { N := N, sc := defScope st, fn := fun _ => true }
theorem start_env {K : PySem.W.Frag} {H : Hp} {Z : Addr → Prop} {ds : List D} {vs : List V} {N : List PySem.Str} (z : ZOk H Z) (r : RepL K H Z ds vs) (α : Nat → Addr) : EnvOk K Z α [] (startD N.length ds) (L2.start N vs) H := by
  refine ⟨z, (fun i h => nomatch h), (fun i h => nomatch h), ?_, fun i d _ hd => ?_, (fun i h => nomatch h)⟩
  · unfold L2.start startD
    simp [r.len]
  · unfold startD at hd
    by_cases hi : i < ds.length
    · rw [List.getElem?_append_left (by simpa using hi), List.getElem?_map] at hd
      cases e : ds[i]? with
      | none => rw [e] at hd; cases hd
      | some d' =>
        rw [e] at hd
        cases hd
        obtain ⟨v, h1, h2⟩ := r.get e
        refine ⟨v, ?_, h2.less z fun b hb => ?_⟩
        · unfold L2.start
          rw [List.getElem?_append_left (by simp [r.len]; exact hi), List.getElem?_map, h1]
          rfl
        · rcases hb with hb | ⟨j, hj, _⟩
          · exact hb
          · cases hj
    · rw [List.getElem?_append_right (by simp; omega), List.getElem?_replicate] at hd
      split at hd <;> cases hd
section
variable {G : Cfg}
theorem fn_mk {x qual : PySem.Str} {st : Stmt} {f : Addr} {fd : FuncData} {N ps : List PySem.Str} {k n : Nat} {fr : Bool} {own' : List Nat} {t : WX → TS} {g : DEnv → Fl} (hxi : ∀ σ, G.xi σ) (F : Fun G.K x qual st f fd) (SC : FnScope N ps (defScope st)) (hps : ps.length = n)
    (hb : ∀ X W, Fit G (bodyS N st) k X → Takes X W → PassesOwn (model X.prog X.w) X.A X.env X.xe → DSs G X W fr [] own' [] [] (defBody st) (t W) g) :
    FnOk G.P G.w G.K G.mg G.base (L2.CX G.P G.w) (k + 1) f fd ps (spD G n fr (runD N.length g)) := by
  refine F.okX SC (fun vs H Q E h => ?_) (fun cdv A outer s H vs Q E hr h => ?_)
  · obtain ⟨Z, ds, hl, _, r, _⟩ := h
    rw [r.len, hl, hps]
  · obtain ⟨Z, ds, hl, z, r, q, qe, ns⟩ := h
    have fit : Fit G (bodyS N st) k (cxOf (L2.CX G.P G.w) G.P G.w G.K G.mg G.base N qual (defScope st) f cdv A outer s H E) :=
      { prog := rfl, w := rfl, K := rfl, mg := rfl, base := rfl, N := rfl, sc := rfl, fn := rfl, room' := fun _ => hr, calm' := fun _ => rfl, xi' := fun _ => hxi, tp' := fun _ => ⟨rfl, rfl⟩ }
    have hd := hb _ (fun cls d _ H' => E cls d H') fit (takes_of rfl rfl rfl rfl) (passes_of rfl)
    refine ⟨_, hd.1, ?_⟩
    unfold runD fnRes at q qe ns
    refine hd.2 Z (fun _ => 0) (startD N.length ds) (L2.start N vs) H _ (start_env z r _) (hxi _) (fun δ' α' σ' H' hg E' s => ?_) (fun d v H' hg kp rr => ?_) (fun δ' α' σ' H' hg E' s => ?_) (fun δ' α' σ' H' hg E' s => ?_) (fun x δ' α' σ' H' hg E' s => ?_) (fun hg => by rw [hg] at ns; exact ns rfl)
    · rw [hg] at q
      refine q .non .non H' rfl (fun b o h => s.keep b o (fun ⟨j, hj, _⟩ => nomatch hj) h) ?_
      cases fr with
      | true => exact .inr (.inl ⟨rfl, rfl, rfl⟩)
      | false => exact .inr (.inr ⟨rfl, rfl⟩)
    · rw [hg] at q
      refine q d v H' rfl (fun b o h => kp b o (fun ⟨j, hj, _⟩ => nomatch hj) h) ?_
      rcases rr with ⟨h1, a, h2, h3 | h3, h4⟩ | rr
      · obtain ⟨j, hj, _⟩ := h3; cases hj
      · exact .inl ⟨h1, a, h2, h3, h4⟩
      · exact .inr rr
    · rw [hg] at ns; exact absurd rfl ns
    · rw [hg] at ns; exact absurd rfl ns
    · rw [hg] at qe
      exact qe x H' rfl (fun b o h => s.keep b o (fun ⟨j, hj, _⟩ => nomatch hj) h)
end
end DL

set_option maxRecDepth 100001
set_option maxHeartbeats 1000001
namespace DL
open PySem PySem.Spec PyProof.Rows L2
/-! a, b = x, y: which stores -/
def swSB (sc : Scope) (x y : PySem.Str) (px py : Pos) (a b : Expr) : Bool := (sc.names.lookup x == some .local) && (sc.names.lookup y == some .local) && (py.line == px.line) && !(x == y) && !(([a, b] : List Expr).any fun | .Starred .. => true | _ => false)
theorem sws_env {env : Env} {sc : Scope} (he : env.scope = sc) (hk : sc.kind = .function) : env.blockKind = .function ∧ ∀ y, env.kindOf y = sc.names.lookup y := by
  subst he
  exact ⟨by unfold Env.blockKind; rw [hk]; rfl, fun _ => rfl⟩
theorem sws_some {env : Env} {sc : Scope} {x y : PySem.Str} {px py pt pt2 : Pos} {kt k2 : Nat} {a b : Expr} (he : env.scope = sc) (hk : sc.kind = .function) (h : swSB sc x y px py a b = true) (hf : ([a, b] : List Expr).all (foldedForSure 8) = false) (hc : ([a, b] : List Expr).all (constantsAlone 8) = false) :
    swappedStores [.Tuple [.Name x px, .Name y py] kt pt] (.Tuple [a, b] k2 pt2) env = pure (some [x, y]) := by
  obtain ⟨hb, kd⟩ := sws_env he hk
  unfold swSB at h
  simp only [Bool.and_eq_true, Bool.not_eq_true'] at h
  obtain ⟨⟨⟨⟨h1, h2⟩, h3⟩, h4⟩, h5⟩ := h
  have e1 : (env.kindOf x == some .local) = true := by rw [kd]; exact h1
  have e2 : (env.kindOf y == some .local) = true := by rw [kd]; exact h2
  have e6 : (px.line == px.line) = true := by simp
  have e7 : ([x, y] : List PySem.Str).eraseDups.length = 2 := by
    have hne : ¬ (y == x) = true := by
      intro q
      have : y = x := by simpa using q
      subst this
      simp at h4
    simp [List.eraseDups_cons, hne]
  unfold swappedStores
  simp only [hb, List.head?, Option.map, Option.getD, Expr.pos, List.filterMap_cons, List.filterMap_nil, e1, e2, h3, e6, Bool.and_self, if_true, List.length_cons, List.length_nil, hf, hc, e7]
  rw [if_neg (by decide)]
  split
  · rename_i q
    exact absurd (q.symm.trans h5) (by decide)
  · rfl
theorem sws_none {env : Env} {ts : List Expr} {pt pt2 : Pos} {kt k2 : Nat} {vs : List Expr} (hf : vs.all (foldedForSure 8) = true) (hs : (vs.any fun | .Starred .. => true | _ => false) = false) : swappedStores [.Tuple ts kt pt] (.Tuple vs k2 pt2) env = pure none := by
  unfold swappedStores
  simp only [hf]
  repeat (first | rfl | split)
theorem sws_cell {env : Env} {sc : Scope} {x y : PySem.Str} {px py pt pt2 : Pos} {kt k2 : Nat} {vs : List Expr} (he : env.scope = sc) (hk : sc.kind = .function) (h : ((sc.names.lookup x == some .local) && (sc.names.lookup y == some .local) && (py.line == px.line)) = false) :
    swappedStores [.Tuple [.Name x px, .Name y py] kt pt] (.Tuple vs k2 pt2) env = pure none := by
  obtain ⟨hb, kd⟩ := sws_env he hk
  have e6 : (px.line == px.line) = true := by simp
  unfold swappedStores
  simp only [hb, List.head?, Option.map, Option.getD, Expr.pos, List.filterMap_cons, List.filterMap_nil, kd, e6, Bool.and_true, List.length_cons, List.length_nil]
  cases h1 : (sc.names.lookup x == some .local) <;> cases h2 : (sc.names.lookup y == some .local) <;> cases h3 : (py.line == px.line) <;> simp [h1, h2, h3] at h ⊢ <;> (repeat (first | rfl | split)) <;> simp_all
/-! name += e, of ints and of texts -/
def iaddD : D → D → R D
  | .int i, .int j => .ok (.int (i + j))
  | .str x, .str y => if x.length + y.length ≤ sizeLine then .ok (.str (x ++ y)) else .stk
  | _, _ => .stk
def rIAdd : R2 := fun x y H Q => rI0 (fun i j => .int (i + j)) x y H Q ∨ (∃ i j, x = .str i ∧ y = .str j ∧ i.length + j.length ≤ sizeLine ∧ Q (.str (i ++ j)) H)
theorem iop_addA {X : Cx} : OpR X (inplaceOp .Add) rIAdd := iop_add.or iop_add_str
theorem os_iadd {K : PySem.W.Frag} : OpS K iaddD rIAdd := by
  intro H Z x y d e Q z hx hy q
  obtain ⟨c, hc, q⟩ := q
  unfold iaddD at hc
  split at hc
  · cases hc; cases hx.int; cases hy.int
    exact .inl ⟨_, _, rfl, rfl, q _ H (Same.refl H) rfl⟩
  · split at hc
    · rename_i h; cases hc; cases hx.str; cases hy.str
      exact .inr ⟨_, _, rfl, rfl, h, q _ H (Same.refl H) rfl⟩
    · cases hc
  · cases hc
theorem noerr_iadd (d e : D) (z : Exn) : iaddD d e ≠ .err z := by
  intro h; unfold iaddD at h; repeat (first | contradiction | split at h)
section
variable {G : Cfg} {S : Sco} {k : Nat} {X : Cx} {W : WX} {own lk l1 l2 : List Nat} {pos p : Pos} {a e tg : Expr} {ta te : TE} {f : DEnv → R D} {x : PySem.Str}
theorem t_isN {j : Nat} {p' : Pos} (ha : DE G X W own l1 a ta f) : DT G X W own (.Compare a [.Is] [.Constant .none j p'] pos) (tB (tIsN ta)) (toB (u1 isND f)) :=
  ⟨pt_cmp (pc_isN ha.1) rfl, ST.bl (d_isN (pos := pos) (j := j) (p' := p') ha).2⟩
theorem t_notN {j : Nat} {p' : Pos} (ha : DE G X W own l1 a ta f) : DT G X W own (.Compare a [.IsNot] [.Constant .none j p'] pos) (tB (tNotN ta)) (toB (u1 notND f)) :=
  ⟨pt_cmp (pc_notN ha.1) rfl, ST.bl (d_notN (pos := pos) (j := j) (p' := p') ha).2⟩
/-- a list, a tuple walked -/
def itS (f : DEnv → R D) : DEnv → R (List D) := fun δ => (f δ).bind fun d => match d with
  | .lst ds => .ok ds
  | .scr ds => .ok ds
  | .tup ds => .ok ds
  | _ => .stk
theorem i_seq (F : Fit G S k X) (h : DE G X W own lk e te f) : DI G X W own lk tg e (fun σ H R => iList G.K te σ H R ∨ iTup G.K te σ H R) (itS f) := by
  have hl := i_list (tg := tg) F h
  have ht := i_tup (tg := tg) F h
  refine ⟨⟨fun pins s σ H R I q => q.elim (hl.1.run pins s σ H R I) (ht.1.run pins s σ H R I)⟩, ?_⟩
  intro Z₀ α δ σ H R₀ E hX q qe ns
  unfold itS at q qe ns
  cases hf : f δ with
  | stk => rw [hf] at ns; exact absurd rfl ns
  | err x =>
    rw [hf] at q qe ns
    refine .inl (hl.2 Z₀ α δ σ H R₀ E hX (fun ds J H1 Gd Y hd => ?_) (fun x H' hd => ?_) (fun hd => ?_))
    · unfold itL at hd; rw [hf] at hd; cases hd
    · unfold itL at hd; rw [hf] at hd; exact qe x H' hd
    · unfold itL at hd; rw [hf] at hd; cases hd
  | ok d =>
    rw [hf] at q qe ns
    simp only [R.bind_ok] at q qe ns
    cases d with
    | lst ds =>
      refine .inl (hl.2 Z₀ α δ σ H R₀ E hX (fun ds' J H1 Gd Y hd => ?_) (fun x H' hd => ?_) (fun hd => ?_))
      · unfold itL at hd; rw [hf] at hd; exact q ds' J H1 Gd Y hd
      · unfold itL at hd; rw [hf] at hd; cases hd
      · unfold itL at hd; rw [hf] at hd; cases hd
    | scr ds =>
      refine .inl (hl.2 Z₀ α δ σ H R₀ E hX (fun ds' J H1 Gd Y hd => ?_) (fun x H' hd => ?_) (fun hd => ?_))
      · unfold itL at hd; rw [hf] at hd; exact q ds' J H1 Gd Y hd
      · unfold itL at hd; rw [hf] at hd; cases hd
      · unfold itL at hd; rw [hf] at hd; cases hd
    | tup ds =>
      refine .inr (ht.2 Z₀ α δ σ H R₀ E hX (fun ds' J H1 Gd Y hd => ?_) (fun x H' hd => ?_) (fun hd => ?_))
      · unfold itT at hd; rw [hf] at hd; exact q ds' J H1 Gd Y hd
      · unfold itT at hd; rw [hf] at hd; cases hd
      · unfold itT at hd; rw [hf] at hd; cases hd
    | _ => exact absurd rfl ns
/-- a def with its name, its code and its place -/
theorem fnd_mk {qual : PySem.Str} {st : Stmt} {f : Addr} {fd : FuncData} {ps : List PySem.Str} {k n : Nat} {fr : Bool} {Φ : List D → R D} (F : Fun G.K x qual st f fd) (hm : G.mg x = some (.ref f)) (hb : Binds G.K fd ps [])
    (ok : FnOk G.P G.w G.K G.mg G.base (L2.CX G.P G.w) k f fd ps (spD G n fr Φ)) : FnD G k x n fr Φ := ⟨f, fd, ps, ok, hm, F.kp, hb⟩
theorem FnD.mono {n : Nat} {fr : Bool} {Φ : List D → R D} {j : Nat} (h : FnD G j x n fr Φ) (hk : j ≤ k) : FnD G k x n fr Φ := by
  obtain ⟨f, fd, ps, ok, r⟩ := h.ex
  exact ⟨f, fd, ps, ok.mono hk, r⟩
/-- a tuple of the module that was written of ints -/
theorem rep_ktup {K : PySem.W.Frag} {a : Addr} {o : Obj} {its : Array Value} {m : Nat} (hl : K.lookup a = some o) (hc : o.cls = .type "tuple") (hd : o.data = .seq its m) (hz : its.size ≤ sizeLine) {ns : List Int} (hv : Vals (ns.map V.int) its.toList) :
    ∀ (H : Hp) (Z : Addr → Prop), Rep K H Z (.tup (ns.map D.int)) (.ref a) := fun H Z => by
  refine ⟨a, ns.map V.int, rfl, .inr ⟨o, its, m, hl, hc, hd, hz, hv⟩, ?_⟩
  clear hv hz
  induction ns with
  | nil => rfl
  | cons n ns ih => exact ⟨_, _, rfl, rfl, ih⟩
/-- the law's own promise, from its def's -/
theorem law_sp {G : Cfg} {H : Hp} {a : Addr} {ns : List Int} {Φ : List D → R D} (hS : SqL G.K H a (ns.map V.int)) (h : Φ [.scr (ns.map D.int)] = .ok (.bl true)) : spD G 1 false Φ [.ref a] H (fun v _ => v = .bl true) (fun _ _ _ => False) := by
  refine ⟨fun _ => False, [.scr (ns.map D.int)], rfl, fun _ h => h.elim, ⟨.ref a, [], rfl, ⟨a, ns.map V.int, rfl, ?_, ?_⟩, rfl⟩, fun d v H' hd e r => ?_, fun x H' hx _ => ?_, fun hn => ?_⟩
  · rcases hS with h | h
    · exact .inl ⟨h, id⟩
    · exact .inr h
  · clear hS h
    induction ns with
    | nil => rfl
    | cons n ns ih => exact ⟨_, _, rfl, rfl, ih⟩
  · rw [h] at hd
    cases hd
    rcases r with ⟨q, _⟩ | ⟨q, _⟩ | ⟨_, r⟩
    · cases q
    · cases q
    · exact r.bl
  · rw [h] at hx; cases hx
  · rw [h] at hn; cases hn
end
end DL

set_option maxRecDepth 100001
set_option maxHeartbeats 4000001
namespace DL
open PySem PySem.Spec PyProof.Rows L2
/-! the text -/
def topS (i : Nat) : Stmt := PySem.Challenge.pw_weighedgrids_k00_numbers_of_a_field.main.body.getD i (.Pass ⟨0, 0, 0, 0⟩)
/-- the class of that name, as the values tell it -/
def ca (G : Cfg) (n : String) : Addr := match G.cv n with | .ref a => a | _ => 0
/-- the address of a constant of that name -/
def ka (G : Cfg) (n : PySem.Str) : Addr := match G.mg n with | some (.ref a) => a | _ => 0
def k_PRIMES : D := .tup [.int 2, .int 3, .int 5, .int 7, .int 11]
structure Tp (G : Cfg)  : Prop where
  xi : ∀ σ, G.xi σ
  b_ValueError : G.mg (PySem.Str.ofString "ValueError") = none
  b_abs : G.mg (PySem.Str.ofString "abs") = none
  b_bool : G.mg (PySem.Str.ofString "bool") = none
  b_int : G.mg (PySem.Str.ofString "int") = none
  b_isinstance : G.mg (PySem.Str.ofString "isinstance") = none
  b_len : G.mg (PySem.Str.ofString "len") = none
  b_list : G.mg (PySem.Str.ofString "list") = none
  b_range : G.mg (PySem.Str.ofString "range") = none
  b_sum : G.mg (PySem.Str.ofString "sum") = none
  b_tuple : G.mg (PySem.Str.ofString "tuple") = none
  b_zip : G.mg (PySem.Str.ofString "zip") = none
  g_gcd : G.mg (PySem.Str.ofString "gcd") = some (.builtin "math.gcd")
  km_PRIMES : G.mg (PySem.Str.ofString "PRIMES") = some (.ref (ka G (PySem.Str.ofString "PRIMES")))
  kr_PRIMES : ∀ H Z, Rep G.K H Z k_PRIMES (.ref (ka G (PySem.Str.ofString "PRIMES")))
  e_GridError : ExK G (PySem.Str.ofString "GridError") "GridError" (ca G "GridError")
  e_InvalidField : ExK G (PySem.Str.ofString "InvalidField") "InvalidField" (ca G "InvalidField")
  e_InvalidNumber : ExK G (PySem.Str.ofString "InvalidNumber") "InvalidNumber" (ca G "InvalidNumber")
  e_NoInverse : ExK G (PySem.Str.ofString "NoInverse") "NoInverse" (ca G "NoInverse")
  x_InvalidField_InvalidField : PySem.W.exmOne G.K (.ref (ca G "InvalidField")) (.ref (ca G "InvalidField")) = some true
  x_NoInverse_GridError : PySem.W.exmOne G.K (.ref (ca G "NoInverse")) (.ref (ca G "GridError")) = some true
  x_NoInverse_NoInverse : PySem.W.exmOne G.K (.ref (ca G "NoInverse")) (.ref (ca G "NoInverse")) = some true
  k1_InvalidField_GridError : PySem.W.kitOne G.K (G.cv "InvalidField") (.ref (ca G "GridError")) = some true
  k1_InvalidField_ValueError : PySem.W.kitOne G.K (G.cv "InvalidField") (.type "ValueError") = some true
  k1_NoInverse_NoInverse : PySem.W.kitOne G.K (G.cv "NoInverse") (.ref (ca G "NoInverse")) = some true
  k1_NoInverse_ValueError : PySem.W.kitOne G.K (G.cv "NoInverse") (.type "ValueError") = some true
  k2_InvalidField_NoInverse_InvalidNumber : PySem.W.kitAny G.K (G.cv "InvalidField") [(.ref (ca G "NoInverse")), (.ref (ca G "InvalidNumber"))] = some false
  k2_NoInverse_InvalidField_InvalidNumber : PySem.W.kitAny G.K (G.cv "NoInverse") [(.ref (ca G "InvalidField")), (.ref (ca G "InvalidNumber"))] = some false
/-! ### check_field -/
abbrev s_check_field : Stmt := topS 8
abbrev N_check_field : List PySem.Str := ["prime"]
theorem sc_check_field : FnScope N_check_field ["prime"] (defScope s_check_field) := ⟨rfl, rfl, rfl, by decide +kernel, rfl, by decide +kernel, by decide +kernel⟩
theorem nd_check_field : (bodyS N_check_field s_check_field).N.Nodup := sc_check_field.nd
theorem n_check_field_0 : (bodyS N_check_field s_check_field).N[0]? = some (PySem.Str.ofString "prime") := rfl
theorem v_check_field_0 : Vis (bodyS N_check_field s_check_field).sc (PySem.Str.ofString "prime") := Or.inl (by decide +kernel)
theorem l_check_field_0 : L2.Loc (bodyS N_check_field s_check_field).sc (PySem.Str.ofString "prime") := Or.inl (by decide +kernel)
theorem l0_check_field_0 : (bodyS N_check_field s_check_field).sc.names.lookup (PySem.Str.ofString "prime") = some .local := by decide +kernel
theorem gl_check_field_InvalidField : (bodyS N_check_field s_check_field).sc.names.lookup (PySem.Str.ofString "InvalidField") = some .globalImplicit := by decide +kernel
theorem gl_check_field_PRIMES : (bodyS N_check_field s_check_field).sc.names.lookup (PySem.Str.ofString "PRIMES") = some .globalImplicit := by decide +kernel
noncomputable def body_check_field : DEnv → Fl := seqF (ifF (andB (toB (b2 neD (nmD 0) (cD (.int 0)))) (toB (b2 ninD (nmD 0) (cD k_PRIMES)))) (raiseF "InvalidField") (nxD)) (nxD)
noncomputable def den_check_field : List D → R D := runD 1 body_check_field
theorem ok_check_field {G : Cfg} (T : Tp G)  {f : Addr} {fd : FuncData} (FF : Fun G.K (PySem.Str.ofString "check_field") (PySem.Str.ofString "check_field") s_check_field f fd) : FnOk G.P G.w G.K G.mg G.base (L2.CX G.P G.w) 1 f fd ["prime"] (spD G 1 false den_check_field) :=
  fn_mk (N := N_check_field) (t := _) (g := body_check_field) (own' := []) T.xi FF sc_check_field rfl fun X W F tk po =>
    (ss_cons T.xi (s_if (own' := []) (DW.dt (w_and (t_cmp F cr_ne (d_nm0 F n_check_field_0 v_check_field_0 (by decide)) d_int (nomark _)) (w_and1 (t_cmp F cr_nin (d_nm0 F n_check_field_0 v_check_field_0 (by decide)) (d_glob (v := .ref (ka G (PySem.Str.ofString "PRIMES"))) F gl_check_field_PRIMES T.km_PRIMES rfl T.kr_PRIMES) (by rfl))))) (ss_one (s_raise F tk T.e_InvalidField gl_check_field_InvalidField (by rfl))) (ss_nil (own' := []) (by rfl)) (by rfl)) (ss_nil (own' := []) (by rfl)))
/-! ### lowest -/
abbrev s_lowest : Stmt := topS 9
abbrev N_lowest : List PySem.Str := ["n", "d", "common"]
theorem sc_lowest : FnScope N_lowest ["n", "d"] (defScope s_lowest) := ⟨rfl, rfl, rfl, by decide +kernel, rfl, by decide +kernel, by decide +kernel⟩
theorem nd_lowest : (bodyS N_lowest s_lowest).N.Nodup := sc_lowest.nd
theorem n_lowest_0 : (bodyS N_lowest s_lowest).N[0]? = some (PySem.Str.ofString "n") := rfl
theorem v_lowest_0 : Vis (bodyS N_lowest s_lowest).sc (PySem.Str.ofString "n") := Or.inl (by decide +kernel)
theorem l_lowest_0 : L2.Loc (bodyS N_lowest s_lowest).sc (PySem.Str.ofString "n") := Or.inl (by decide +kernel)
theorem l0_lowest_0 : (bodyS N_lowest s_lowest).sc.names.lookup (PySem.Str.ofString "n") = some .local := by decide +kernel
theorem n_lowest_1 : (bodyS N_lowest s_lowest).N[1]? = some (PySem.Str.ofString "d") := rfl
theorem v_lowest_1 : Vis (bodyS N_lowest s_lowest).sc (PySem.Str.ofString "d") := Or.inl (by decide +kernel)
theorem l_lowest_1 : L2.Loc (bodyS N_lowest s_lowest).sc (PySem.Str.ofString "d") := Or.inl (by decide +kernel)
theorem l0_lowest_1 : (bodyS N_lowest s_lowest).sc.names.lookup (PySem.Str.ofString "d") = some .local := by decide +kernel
theorem n_lowest_2 : (bodyS N_lowest s_lowest).N[2]? = some (PySem.Str.ofString "common") := rfl
theorem v_lowest_2 : Vis (bodyS N_lowest s_lowest).sc (PySem.Str.ofString "common") := Or.inl (by decide +kernel)
theorem l_lowest_2 : L2.Loc (bodyS N_lowest s_lowest).sc (PySem.Str.ofString "common") := Or.inl (by decide +kernel)
theorem l0_lowest_2 : (bodyS N_lowest s_lowest).sc.names.lookup (PySem.Str.ofString "common") = some .local := by decide +kernel
theorem gl_lowest_gcd : (bodyS N_lowest s_lowest).sc.names.lookup (PySem.Str.ofString "gcd") = some .globalImplicit := by decide +kernel
noncomputable def body_lowest : DEnv → Fl := seqF (setF 2 (callF gcdD (consA (nmD 0) (consA (nmD 1) (nilA))))) (seqF (ifF (toB (b2 ltD (nmD 1) (cD (.int 0)))) (seqF (setF 2 (u1 negD (nmD 2))) (nxD)) (nxD)) (retF (tupA (consA (b2 fdivD (nmD 0) (nmD 2)) (consA (b2 fdivD (nmD 1) (nmD 2)) (nilA))))))
noncomputable def den_lowest : List D → R D := runD 3 body_lowest
theorem ok_lowest {G : Cfg} (T : Tp G)  {f : Addr} {fd : FuncData} (FF : Fun G.K (PySem.Str.ofString "lowest") (PySem.Str.ofString "lowest") s_lowest f fd) : FnOk G.P G.w G.K G.mg G.base (L2.CX G.P G.w) 1 f fd ["n", "d"] (spD G 2 false den_lowest) :=
  fn_mk (N := N_lowest) (t := _) (g := body_lowest) (own' := []) T.xi FF sc_lowest rfl fun X W F tk po =>
    (ss_cons T.xi (s_set (own' := []) F nd_lowest n_lowest_2 l_lowest_2 (Or.inl rfl) (d_gcd F gl_lowest_gcd T.g_gcd (a_cons (d_nm0 F n_lowest_0 v_lowest_0 (by decide)) (a_cons (d_nm0 F n_lowest_1 v_lowest_1 (by decide)) a_nil))) (by rfl) (by rfl)) (ss_cons T.xi (s_if (own' := []) (t_cmp F cr_lt (d_nm0 F n_lowest_1 v_lowest_1 (by decide)) d_int (nomark _)) (ss_cons T.xi (s_set (own' := []) F nd_lowest n_lowest_2 l_lowest_2 (Or.inl rfl) (d_neg (d_nm0 F n_lowest_2 v_lowest_2 (by decide))) (by rfl) (by rfl)) (ss_nil (own' := []) (by rfl))) (ss_nil (own' := []) (by rfl)) (by rfl)) (ss_one (s_ret (d_tup (a_cons (d_fdiv (d_nm0 F n_lowest_0 v_lowest_0 (by decide)) (d_nm0 F n_lowest_2 v_lowest_2 (by decide))) (a_cons (d_fdiv (d_nm0 F n_lowest_1 v_lowest_1 (by decide)) (d_nm0 F n_lowest_2 v_lowest_2 (by decide))) a_nil))) rfl (by rfl)))))
/-! ### is_integer -/
abbrev s_is_integer : Stmt := topS 10
abbrev N_is_integer : List PySem.Str := ["value"]
theorem sc_is_integer : FnScope N_is_integer ["value"] (defScope s_is_integer) := ⟨rfl, rfl, rfl, by decide +kernel, rfl, by decide +kernel, by decide +kernel⟩
theorem nd_is_integer : (bodyS N_is_integer s_is_integer).N.Nodup := sc_is_integer.nd
theorem n_is_integer_0 : (bodyS N_is_integer s_is_integer).N[0]? = some (PySem.Str.ofString "value") := rfl
theorem v_is_integer_0 : Vis (bodyS N_is_integer s_is_integer).sc (PySem.Str.ofString "value") := Or.inl (by decide +kernel)
theorem l_is_integer_0 : L2.Loc (bodyS N_is_integer s_is_integer).sc (PySem.Str.ofString "value") := Or.inl (by decide +kernel)
theorem l0_is_integer_0 : (bodyS N_is_integer s_is_integer).sc.names.lookup (PySem.Str.ofString "value") = some .local := by decide +kernel
theorem gl_is_integer_bool : (bodyS N_is_integer s_is_integer).sc.names.lookup (PySem.Str.ofString "bool") = some .globalImplicit := by decide +kernel
theorem gl_is_integer_int : (bodyS N_is_integer s_is_integer).sc.names.lookup (PySem.Str.ofString "int") = some .globalImplicit := by decide +kernel
theorem gl_is_integer_isinstance : (bodyS N_is_integer s_is_integer).sc.names.lookup (PySem.Str.ofString "isinstance") = some .globalImplicit := by decide +kernel
noncomputable def body_is_integer : DEnv → Fl := retF (andV (u1 (isiD "int") (nmD 0)) (u1 notD (u1 (isiD "bool") (nmD 0))))
noncomputable def den_is_integer : List D → R D := runD 1 body_is_integer
theorem ok_is_integer {G : Cfg} (T : Tp G)  {f : Addr} {fd : FuncData} (FF : Fun G.K (PySem.Str.ofString "is_integer") (PySem.Str.ofString "is_integer") s_is_integer f fd) : FnOk G.P G.w G.K G.mg G.base (L2.CX G.P G.w) 1 f fd ["value"] (spD G 1 false den_is_integer) :=
  fn_mk (N := N_is_integer) (t := _) (g := body_is_integer) (own' := []) T.xi FF sc_is_integer rfl fun X W F tk po =>
    (ss_one (s_ret (d_and (d_isi F gl_is_integer_isinstance T.b_isinstance gl_is_integer_int T.b_int (by decide +kernel) (by decide +kernel) (d_nm0 F n_is_integer_0 v_is_integer_0 (by decide))) (d_one (d_not (d_isi F gl_is_integer_isinstance T.b_isinstance gl_is_integer_bool T.b_bool (by decide +kernel) (by decide +kernel) (d_nm0 F n_is_integer_0 v_is_integer_0 (by decide)))))) rfl (by rfl)))
/-! ### is_number -/
abbrev s_is_number : Stmt := topS 11
abbrev N_is_number : List PySem.Str := ["prime", "value"]
theorem sc_is_number : FnScope N_is_number ["prime", "value"] (defScope s_is_number) := ⟨rfl, rfl, rfl, by decide +kernel, rfl, by decide +kernel, by decide +kernel⟩
theorem nd_is_number : (bodyS N_is_number s_is_number).N.Nodup := sc_is_number.nd
theorem n_is_number_0 : (bodyS N_is_number s_is_number).N[0]? = some (PySem.Str.ofString "prime") := rfl
theorem v_is_number_0 : Vis (bodyS N_is_number s_is_number).sc (PySem.Str.ofString "prime") := Or.inl (by decide +kernel)
theorem l_is_number_0 : L2.Loc (bodyS N_is_number s_is_number).sc (PySem.Str.ofString "prime") := Or.inl (by decide +kernel)
theorem l0_is_number_0 : (bodyS N_is_number s_is_number).sc.names.lookup (PySem.Str.ofString "prime") = some .local := by decide +kernel
theorem n_is_number_1 : (bodyS N_is_number s_is_number).N[1]? = some (PySem.Str.ofString "value") := rfl
theorem v_is_number_1 : Vis (bodyS N_is_number s_is_number).sc (PySem.Str.ofString "value") := Or.inl (by decide +kernel)
theorem l_is_number_1 : L2.Loc (bodyS N_is_number s_is_number).sc (PySem.Str.ofString "value") := Or.inl (by decide +kernel)
theorem l0_is_number_1 : (bodyS N_is_number s_is_number).sc.names.lookup (PySem.Str.ofString "value") = some .local := by decide +kernel
theorem gl_is_number_gcd : (bodyS N_is_number s_is_number).sc.names.lookup (PySem.Str.ofString "gcd") = some .globalImplicit := by decide +kernel
theorem gl_is_number_is_integer : (bodyS N_is_number s_is_number).sc.names.lookup (PySem.Str.ofString "is_integer") = some .globalImplicit := by decide +kernel
theorem gl_is_number_isinstance : (bodyS N_is_number s_is_number).sc.names.lookup (PySem.Str.ofString "isinstance") = some .globalImplicit := by decide +kernel
theorem gl_is_number_len : (bodyS N_is_number s_is_number).sc.names.lookup (PySem.Str.ofString "len") = some .globalImplicit := by decide +kernel
theorem gl_is_number_tuple : (bodyS N_is_number s_is_number).sc.names.lookup (PySem.Str.ofString "tuple") = some .globalImplicit := by decide +kernel
noncomputable def body_is_number : DEnv → Fl := seqF (ifF (toB (b2 gtD (nmD 0) (cD (.int 0)))) (retF (andV (callF den_is_integer (consA (nmD 1) (nilA))) (chainD leD ltD (cD (.int 0)) (nmD 1) (nmD 0)))) (nxD)) (seqF (ifF (orB (notB (toT (u1 (isiD "tuple") (nmD 1)))) (toB (b2 neD (callF lenD (consA (nmD 1) (nilA))) (cD (.int 2))))) (retF (cD (.bl false))) (nxD)) (seqF (ifF (orB (notB (toT (callF den_is_integer (consA (b2 idxD (nmD 1) (cD (.int 0))) (nilA))))) (notB (toT (callF den_is_integer (consA (b2 idxD (nmD 1) (cD (.int 1))) (nilA)))))) (retF (cD (.bl false))) (nxD)) (retF (andV (b2 gtD (b2 idxD (nmD 1) (cD (.int 1))) (cD (.int 0))) (b2 eqD (callF gcdD (consA (b2 idxD (nmD 1) (cD (.int 0))) (consA (b2 idxD (nmD 1) (cD (.int 1))) (nilA)))) (cD (.int 1)))))))
noncomputable def den_is_number : List D → R D := runD 2 body_is_number
theorem ok_is_number {G : Cfg} (T : Tp G) (c_is_integer : FnD G 1 (PySem.Str.ofString "is_integer") 1 false den_is_integer) {f : Addr} {fd : FuncData} (FF : Fun G.K (PySem.Str.ofString "is_number") (PySem.Str.ofString "is_number") s_is_number f fd) : FnOk G.P G.w G.K G.mg G.base (L2.CX G.P G.w) 2 f fd ["prime", "value"] (spD G 2 false den_is_number) :=
  fn_mk (N := N_is_number) (t := _) (g := body_is_number) (own' := []) T.xi FF sc_is_number rfl fun X W F tk po =>
    (ss_cons T.xi (s_if (own' := []) (t_cmp F cr_gt (d_nm0 F n_is_number_0 v_is_number_0 (by decide)) d_int (nomark _)) (ss_one (s_ret (d_and (d_call F tk c_is_integer (by decide) gl_is_number_is_integer (a_cons (d_nm0 F n_is_number_1 v_is_number_1 (by decide)) a_nil) rfl (hlen := (len_cons len_nil))) (d_one (d_chain F cr_le cr_lt d_int (d_nm0 F n_is_number_1 v_is_number_1 (by decide)) (d_nm0 F n_is_number_0 v_is_number_0 (by decide))))) rfl (by rfl))) (ss_nil (own' := []) (by rfl)) (by rfl)) (ss_cons T.xi (s_if (own' := []) (DW.dt (w_or (t_not (t_tru F (d_isi F gl_is_number_isinstance T.b_isinstance gl_is_number_tuple T.b_tuple (by decide +kernel) (by decide +kernel) (d_nm0 F n_is_number_1 v_is_number_1 (by decide))))) (w_or1 (t_cmp F cr_ne (d_len F gl_is_number_len T.b_len (a_cons (d_nm0 F n_is_number_1 v_is_number_1 (by decide)) a_nil)) d_int (nomark _))))) (ss_one (s_ret d_bl rfl (by rfl))) (ss_nil (own' := []) (by rfl)) (by rfl)) (ss_cons T.xi (s_if (own' := []) (DW.dt (w_or (t_not (t_tru F (d_call F tk c_is_integer (by decide) gl_is_number_is_integer (a_cons (d_ixN F n_is_number_1 v_is_number_1 d_int) a_nil) rfl (hlen := (len_cons len_nil))))) (w_or1 (t_not (t_tru F (d_call F tk c_is_integer (by decide) gl_is_number_is_integer (a_cons (d_ixN F n_is_number_1 v_is_number_1 d_int) a_nil) rfl (hlen := (len_cons len_nil)))))))) (ss_one (s_ret d_bl rfl (by rfl))) (ss_nil (own' := []) (by rfl)) (by rfl)) (ss_one (s_ret (d_and (d_cmp F cr_gt (d_ixN F n_is_number_1 v_is_number_1 d_int) d_int (nomark _)) (d_one (d_cmp F cr_eq (d_gcd F gl_is_number_gcd T.g_gcd (a_cons (d_ixN F n_is_number_1 v_is_number_1 d_int) (a_cons (d_ixN F n_is_number_1 v_is_number_1 d_int) a_nil))) d_int (nomark _)))) rfl (by rfl))))))
/-! ### number_of -/
abbrev s_number_of : Stmt := topS 12
abbrev N_number_of : List PySem.Str := ["prime", "n"]
theorem sc_number_of : FnScope N_number_of ["prime", "n"] (defScope s_number_of) := ⟨rfl, rfl, rfl, by decide +kernel, rfl, by decide +kernel, by decide +kernel⟩
theorem nd_number_of : (bodyS N_number_of s_number_of).N.Nodup := sc_number_of.nd
theorem n_number_of_0 : (bodyS N_number_of s_number_of).N[0]? = some (PySem.Str.ofString "prime") := rfl
theorem v_number_of_0 : Vis (bodyS N_number_of s_number_of).sc (PySem.Str.ofString "prime") := Or.inl (by decide +kernel)
theorem l_number_of_0 : L2.Loc (bodyS N_number_of s_number_of).sc (PySem.Str.ofString "prime") := Or.inl (by decide +kernel)
theorem l0_number_of_0 : (bodyS N_number_of s_number_of).sc.names.lookup (PySem.Str.ofString "prime") = some .local := by decide +kernel
theorem n_number_of_1 : (bodyS N_number_of s_number_of).N[1]? = some (PySem.Str.ofString "n") := rfl
theorem v_number_of_1 : Vis (bodyS N_number_of s_number_of).sc (PySem.Str.ofString "n") := Or.inl (by decide +kernel)
theorem l_number_of_1 : L2.Loc (bodyS N_number_of s_number_of).sc (PySem.Str.ofString "n") := Or.inl (by decide +kernel)
theorem l0_number_of_1 : (bodyS N_number_of s_number_of).sc.names.lookup (PySem.Str.ofString "n") = some .local := by decide +kernel
noncomputable def body_number_of : DEnv → Fl := seqF (ifF (toB (b2 gtD (nmD 0) (cD (.int 0)))) (retF (b2 modD (nmD 1) (nmD 0))) (nxD)) (retF (tupA (consA (nmD 1) (consA (cD (.int 1)) (nilA)))))
noncomputable def den_number_of : List D → R D := runD 2 body_number_of
theorem ok_number_of {G : Cfg} (T : Tp G)  {f : Addr} {fd : FuncData} (FF : Fun G.K (PySem.Str.ofString "number_of") (PySem.Str.ofString "number_of") s_number_of f fd) : FnOk G.P G.w G.K G.mg G.base (L2.CX G.P G.w) 1 f fd ["prime", "n"] (spD G 2 false den_number_of) :=
  fn_mk (N := N_number_of) (t := _) (g := body_number_of) (own' := []) T.xi FF sc_number_of rfl fun X W F tk po =>
    (ss_cons T.xi (s_if (own' := []) (t_cmp F cr_gt (d_nm0 F n_number_of_0 v_number_of_0 (by decide)) d_int (nomark _)) (ss_one (s_ret (d_mod (d_nm0 F n_number_of_1 v_number_of_1 (by decide)) (d_nm0 F n_number_of_0 v_number_of_0 (by decide))) rfl (by rfl))) (ss_nil (own' := []) (by rfl)) (by rfl)) (ss_one (s_ret (d_tup (a_cons (d_nm0 F n_number_of_1 v_number_of_1 (by decide)) (a_cons d_int a_nil))) rfl (by rfl))))
/-! ### add -/
abbrev s_add : Stmt := topS 13
abbrev N_add : List PySem.Str := ["prime", "a", "b"]
theorem sc_add : FnScope N_add ["prime", "a", "b"] (defScope s_add) := ⟨rfl, rfl, rfl, by decide +kernel, rfl, by decide +kernel, by decide +kernel⟩
theorem nd_add : (bodyS N_add s_add).N.Nodup := sc_add.nd
theorem n_add_0 : (bodyS N_add s_add).N[0]? = some (PySem.Str.ofString "prime") := rfl
theorem v_add_0 : Vis (bodyS N_add s_add).sc (PySem.Str.ofString "prime") := Or.inl (by decide +kernel)
theorem l_add_0 : L2.Loc (bodyS N_add s_add).sc (PySem.Str.ofString "prime") := Or.inl (by decide +kernel)
theorem l0_add_0 : (bodyS N_add s_add).sc.names.lookup (PySem.Str.ofString "prime") = some .local := by decide +kernel
theorem n_add_1 : (bodyS N_add s_add).N[1]? = some (PySem.Str.ofString "a") := rfl
theorem v_add_1 : Vis (bodyS N_add s_add).sc (PySem.Str.ofString "a") := Or.inl (by decide +kernel)
theorem l_add_1 : L2.Loc (bodyS N_add s_add).sc (PySem.Str.ofString "a") := Or.inl (by decide +kernel)
theorem l0_add_1 : (bodyS N_add s_add).sc.names.lookup (PySem.Str.ofString "a") = some .local := by decide +kernel
theorem n_add_2 : (bodyS N_add s_add).N[2]? = some (PySem.Str.ofString "b") := rfl
theorem v_add_2 : Vis (bodyS N_add s_add).sc (PySem.Str.ofString "b") := Or.inl (by decide +kernel)
theorem l_add_2 : L2.Loc (bodyS N_add s_add).sc (PySem.Str.ofString "b") := Or.inl (by decide +kernel)
theorem l0_add_2 : (bodyS N_add s_add).sc.names.lookup (PySem.Str.ofString "b") = some .local := by decide +kernel
theorem gl_add_lowest : (bodyS N_add s_add).sc.names.lookup (PySem.Str.ofString "lowest") = some .globalImplicit := by decide +kernel
noncomputable def body_add : DEnv → Fl := seqF (ifF (toB (b2 gtD (nmD 0) (cD (.int 0)))) (retF (b2 modD (b2 addD (nmD 1) (nmD 2)) (nmD 0))) (nxD)) (retF (callF den_lowest (consA (b2 addD (b2 mulD (b2 idxD (nmD 1) (cD (.int 0))) (b2 idxD (nmD 2) (cD (.int 1)))) (b2 mulD (b2 idxD (nmD 2) (cD (.int 0))) (b2 idxD (nmD 1) (cD (.int 1))))) (consA (b2 mulD (b2 idxD (nmD 1) (cD (.int 1))) (b2 idxD (nmD 2) (cD (.int 1)))) (nilA)))))
noncomputable def den_add : List D → R D := runD 3 body_add
theorem ok_add {G : Cfg} (T : Tp G) (c_lowest : FnD G 1 (PySem.Str.ofString "lowest") 2 false den_lowest) {f : Addr} {fd : FuncData} (FF : Fun G.K (PySem.Str.ofString "add") (PySem.Str.ofString "add") s_add f fd) : FnOk G.P G.w G.K G.mg G.base (L2.CX G.P G.w) 2 f fd ["prime", "a", "b"] (spD G 3 false den_add) :=
  fn_mk (N := N_add) (t := _) (g := body_add) (own' := []) T.xi FF sc_add rfl fun X W F tk po =>
    (ss_cons T.xi (s_if (own' := []) (t_cmp F cr_gt (d_nm0 F n_add_0 v_add_0 (by decide)) d_int (nomark _)) (ss_one (s_ret (d_mod (d_add F (d_nm0 F n_add_1 v_add_1 (by decide)) (d_nm0 F n_add_2 v_add_2 (by decide))) (d_nm0 F n_add_0 v_add_0 (by decide))) rfl (by rfl))) (ss_nil (own' := []) (by rfl)) (by rfl)) (ss_one (s_ret (d_call F tk c_lowest (by decide) gl_add_lowest (a_cons (d_add F (d_mul (d_ixN F n_add_1 v_add_1 d_int) (d_ixN F n_add_2 v_add_2 d_int)) (d_mul (d_ixN F n_add_2 v_add_2 d_int) (d_ixN F n_add_1 v_add_1 d_int))) (a_cons (d_mul (d_ixN F n_add_1 v_add_1 d_int) (d_ixN F n_add_2 v_add_2 d_int)) a_nil)) rfl (hlen := (len_cons (len_cons len_nil)))) rfl (by rfl))))
/-! ### negate -/
abbrev s_negate : Stmt := topS 14
abbrev N_negate : List PySem.Str := ["prime", "a"]
theorem sc_negate : FnScope N_negate ["prime", "a"] (defScope s_negate) := ⟨rfl, rfl, rfl, by decide +kernel, rfl, by decide +kernel, by decide +kernel⟩
theorem nd_negate : (bodyS N_negate s_negate).N.Nodup := sc_negate.nd
theorem n_negate_0 : (bodyS N_negate s_negate).N[0]? = some (PySem.Str.ofString "prime") := rfl
theorem v_negate_0 : Vis (bodyS N_negate s_negate).sc (PySem.Str.ofString "prime") := Or.inl (by decide +kernel)
theorem l_negate_0 : L2.Loc (bodyS N_negate s_negate).sc (PySem.Str.ofString "prime") := Or.inl (by decide +kernel)
theorem l0_negate_0 : (bodyS N_negate s_negate).sc.names.lookup (PySem.Str.ofString "prime") = some .local := by decide +kernel
theorem n_negate_1 : (bodyS N_negate s_negate).N[1]? = some (PySem.Str.ofString "a") := rfl
theorem v_negate_1 : Vis (bodyS N_negate s_negate).sc (PySem.Str.ofString "a") := Or.inl (by decide +kernel)
theorem l_negate_1 : L2.Loc (bodyS N_negate s_negate).sc (PySem.Str.ofString "a") := Or.inl (by decide +kernel)
theorem l0_negate_1 : (bodyS N_negate s_negate).sc.names.lookup (PySem.Str.ofString "a") = some .local := by decide +kernel
noncomputable def body_negate : DEnv → Fl := seqF (ifF (toB (b2 gtD (nmD 0) (cD (.int 0)))) (retF (b2 modD (b2 subD (nmD 0) (nmD 1)) (nmD 0))) (nxD)) (retF (tupA (consA (u1 negD (b2 idxD (nmD 1) (cD (.int 0)))) (consA (b2 idxD (nmD 1) (cD (.int 1))) (nilA)))))
noncomputable def den_negate : List D → R D := runD 2 body_negate
theorem ok_negate {G : Cfg} (T : Tp G)  {f : Addr} {fd : FuncData} (FF : Fun G.K (PySem.Str.ofString "negate") (PySem.Str.ofString "negate") s_negate f fd) : FnOk G.P G.w G.K G.mg G.base (L2.CX G.P G.w) 1 f fd ["prime", "a"] (spD G 2 false den_negate) :=
  fn_mk (N := N_negate) (t := _) (g := body_negate) (own' := []) T.xi FF sc_negate rfl fun X W F tk po =>
    (ss_cons T.xi (s_if (own' := []) (t_cmp F cr_gt (d_nm0 F n_negate_0 v_negate_0 (by decide)) d_int (nomark _)) (ss_one (s_ret (d_mod (d_sub (d_nm0 F n_negate_0 v_negate_0 (by decide)) (d_nm0 F n_negate_1 v_negate_1 (by decide))) (d_nm0 F n_negate_0 v_negate_0 (by decide))) rfl (by rfl))) (ss_nil (own' := []) (by rfl)) (by rfl)) (ss_one (s_ret (d_tup (a_cons (d_neg (d_ixN F n_negate_1 v_negate_1 d_int)) (a_cons (d_ixN F n_negate_1 v_negate_1 d_int) a_nil))) rfl (by rfl))))
/-! ### subtract -/
abbrev s_subtract : Stmt := topS 15
abbrev N_subtract : List PySem.Str := ["prime", "a", "b"]
theorem sc_subtract : FnScope N_subtract ["prime", "a", "b"] (defScope s_subtract) := ⟨rfl, rfl, rfl, by decide +kernel, rfl, by decide +kernel, by decide +kernel⟩
theorem nd_subtract : (bodyS N_subtract s_subtract).N.Nodup := sc_subtract.nd
theorem n_subtract_0 : (bodyS N_subtract s_subtract).N[0]? = some (PySem.Str.ofString "prime") := rfl
theorem v_subtract_0 : Vis (bodyS N_subtract s_subtract).sc (PySem.Str.ofString "prime") := Or.inl (by decide +kernel)
theorem l_subtract_0 : L2.Loc (bodyS N_subtract s_subtract).sc (PySem.Str.ofString "prime") := Or.inl (by decide +kernel)
theorem l0_subtract_0 : (bodyS N_subtract s_subtract).sc.names.lookup (PySem.Str.ofString "prime") = some .local := by decide +kernel
theorem n_subtract_1 : (bodyS N_subtract s_subtract).N[1]? = some (PySem.Str.ofString "a") := rfl
theorem v_subtract_1 : Vis (bodyS N_subtract s_subtract).sc (PySem.Str.ofString "a") := Or.inl (by decide +kernel)
theorem l_subtract_1 : L2.Loc (bodyS N_subtract s_subtract).sc (PySem.Str.ofString "a") := Or.inl (by decide +kernel)
theorem l0_subtract_1 : (bodyS N_subtract s_subtract).sc.names.lookup (PySem.Str.ofString "a") = some .local := by decide +kernel
theorem n_subtract_2 : (bodyS N_subtract s_subtract).N[2]? = some (PySem.Str.ofString "b") := rfl
theorem v_subtract_2 : Vis (bodyS N_subtract s_subtract).sc (PySem.Str.ofString "b") := Or.inl (by decide +kernel)
theorem l_subtract_2 : L2.Loc (bodyS N_subtract s_subtract).sc (PySem.Str.ofString "b") := Or.inl (by decide +kernel)
theorem l0_subtract_2 : (bodyS N_subtract s_subtract).sc.names.lookup (PySem.Str.ofString "b") = some .local := by decide +kernel
theorem gl_subtract_add : (bodyS N_subtract s_subtract).sc.names.lookup (PySem.Str.ofString "add") = some .globalImplicit := by decide +kernel
theorem gl_subtract_negate : (bodyS N_subtract s_subtract).sc.names.lookup (PySem.Str.ofString "negate") = some .globalImplicit := by decide +kernel
noncomputable def body_subtract : DEnv → Fl := retF (callF den_add (consA (nmD 0) (consA (nmD 1) (consA (callF den_negate (consA (nmD 0) (consA (nmD 2) (nilA)))) (nilA)))))
noncomputable def den_subtract : List D → R D := runD 3 body_subtract
theorem ok_subtract {G : Cfg} (T : Tp G) (c_add : FnD G 2 (PySem.Str.ofString "add") 3 false den_add) (c_negate : FnD G 1 (PySem.Str.ofString "negate") 2 false den_negate) {f : Addr} {fd : FuncData} (FF : Fun G.K (PySem.Str.ofString "subtract") (PySem.Str.ofString "subtract") s_subtract f fd) : FnOk G.P G.w G.K G.mg G.base (L2.CX G.P G.w) 3 f fd ["prime", "a", "b"] (spD G 3 false den_subtract) :=
  fn_mk (N := N_subtract) (t := _) (g := body_subtract) (own' := []) T.xi FF sc_subtract rfl fun X W F tk po =>
    (ss_one (s_ret (d_call F tk c_add (by decide) gl_subtract_add (a_cons (d_nm0 F n_subtract_0 v_subtract_0 (by decide)) (a_cons (d_nm0 F n_subtract_1 v_subtract_1 (by decide)) (a_cons (d_call F tk c_negate (by decide) gl_subtract_negate (a_cons (d_nm0 F n_subtract_0 v_subtract_0 (by decide)) (a_cons (d_nm0 F n_subtract_2 v_subtract_2 (by decide)) a_nil)) rfl (hlen := (len_cons (len_cons len_nil)))) a_nil))) rfl (hlen := (len_cons (len_cons (len_cons len_nil))))) rfl (by rfl)))
/-! ### multiply -/
abbrev s_multiply : Stmt := topS 16
abbrev N_multiply : List PySem.Str := ["prime", "a", "b"]
theorem sc_multiply : FnScope N_multiply ["prime", "a", "b"] (defScope s_multiply) := ⟨rfl, rfl, rfl, by decide +kernel, rfl, by decide +kernel, by decide +kernel⟩
theorem nd_multiply : (bodyS N_multiply s_multiply).N.Nodup := sc_multiply.nd
theorem n_multiply_0 : (bodyS N_multiply s_multiply).N[0]? = some (PySem.Str.ofString "prime") := rfl
theorem v_multiply_0 : Vis (bodyS N_multiply s_multiply).sc (PySem.Str.ofString "prime") := Or.inl (by decide +kernel)
theorem l_multiply_0 : L2.Loc (bodyS N_multiply s_multiply).sc (PySem.Str.ofString "prime") := Or.inl (by decide +kernel)
theorem l0_multiply_0 : (bodyS N_multiply s_multiply).sc.names.lookup (PySem.Str.ofString "prime") = some .local := by decide +kernel
theorem n_multiply_1 : (bodyS N_multiply s_multiply).N[1]? = some (PySem.Str.ofString "a") := rfl
theorem v_multiply_1 : Vis (bodyS N_multiply s_multiply).sc (PySem.Str.ofString "a") := Or.inl (by decide +kernel)
theorem l_multiply_1 : L2.Loc (bodyS N_multiply s_multiply).sc (PySem.Str.ofString "a") := Or.inl (by decide +kernel)
theorem l0_multiply_1 : (bodyS N_multiply s_multiply).sc.names.lookup (PySem.Str.ofString "a") = some .local := by decide +kernel
theorem n_multiply_2 : (bodyS N_multiply s_multiply).N[2]? = some (PySem.Str.ofString "b") := rfl
theorem v_multiply_2 : Vis (bodyS N_multiply s_multiply).sc (PySem.Str.ofString "b") := Or.inl (by decide +kernel)
theorem l_multiply_2 : L2.Loc (bodyS N_multiply s_multiply).sc (PySem.Str.ofString "b") := Or.inl (by decide +kernel)
theorem l0_multiply_2 : (bodyS N_multiply s_multiply).sc.names.lookup (PySem.Str.ofString "b") = some .local := by decide +kernel
theorem gl_multiply_lowest : (bodyS N_multiply s_multiply).sc.names.lookup (PySem.Str.ofString "lowest") = some .globalImplicit := by decide +kernel
noncomputable def body_multiply : DEnv → Fl := seqF (ifF (toB (b2 gtD (nmD 0) (cD (.int 0)))) (retF (b2 modD (b2 mulD (nmD 1) (nmD 2)) (nmD 0))) (nxD)) (retF (callF den_lowest (consA (b2 mulD (b2 idxD (nmD 1) (cD (.int 0))) (b2 idxD (nmD 2) (cD (.int 0)))) (consA (b2 mulD (b2 idxD (nmD 1) (cD (.int 1))) (b2 idxD (nmD 2) (cD (.int 1)))) (nilA)))))
noncomputable def den_multiply : List D → R D := runD 3 body_multiply
theorem ok_multiply {G : Cfg} (T : Tp G) (c_lowest : FnD G 1 (PySem.Str.ofString "lowest") 2 false den_lowest) {f : Addr} {fd : FuncData} (FF : Fun G.K (PySem.Str.ofString "multiply") (PySem.Str.ofString "multiply") s_multiply f fd) : FnOk G.P G.w G.K G.mg G.base (L2.CX G.P G.w) 2 f fd ["prime", "a", "b"] (spD G 3 false den_multiply) :=
  fn_mk (N := N_multiply) (t := _) (g := body_multiply) (own' := []) T.xi FF sc_multiply rfl fun X W F tk po =>
    (ss_cons T.xi (s_if (own' := []) (t_cmp F cr_gt (d_nm0 F n_multiply_0 v_multiply_0 (by decide)) d_int (nomark _)) (ss_one (s_ret (d_mod (d_mul (d_nm0 F n_multiply_1 v_multiply_1 (by decide)) (d_nm0 F n_multiply_2 v_multiply_2 (by decide))) (d_nm0 F n_multiply_0 v_multiply_0 (by decide))) rfl (by rfl))) (ss_nil (own' := []) (by rfl)) (by rfl)) (ss_one (s_ret (d_call F tk c_lowest (by decide) gl_multiply_lowest (a_cons (d_mul (d_ixN F n_multiply_1 v_multiply_1 d_int) (d_ixN F n_multiply_2 v_multiply_2 d_int)) (a_cons (d_mul (d_ixN F n_multiply_1 v_multiply_1 d_int) (d_ixN F n_multiply_2 v_multiply_2 d_int)) a_nil)) rfl (hlen := (len_cons (len_cons len_nil)))) rfl (by rfl))))
/-! ### invert -/
abbrev s_invert : Stmt := topS 17
abbrev N_invert : List PySem.Str := ["prime", "a", "inverse"]
theorem sc_invert : FnScope N_invert ["prime", "a"] (defScope s_invert) := ⟨rfl, rfl, rfl, by decide +kernel, rfl, by decide +kernel, by decide +kernel⟩
theorem nd_invert : (bodyS N_invert s_invert).N.Nodup := sc_invert.nd
theorem n_invert_0 : (bodyS N_invert s_invert).N[0]? = some (PySem.Str.ofString "prime") := rfl
theorem v_invert_0 : Vis (bodyS N_invert s_invert).sc (PySem.Str.ofString "prime") := Or.inl (by decide +kernel)
theorem l_invert_0 : L2.Loc (bodyS N_invert s_invert).sc (PySem.Str.ofString "prime") := Or.inl (by decide +kernel)
theorem l0_invert_0 : (bodyS N_invert s_invert).sc.names.lookup (PySem.Str.ofString "prime") = some .local := by decide +kernel
theorem n_invert_1 : (bodyS N_invert s_invert).N[1]? = some (PySem.Str.ofString "a") := rfl
theorem v_invert_1 : Vis (bodyS N_invert s_invert).sc (PySem.Str.ofString "a") := Or.inl (by decide +kernel)
theorem l_invert_1 : L2.Loc (bodyS N_invert s_invert).sc (PySem.Str.ofString "a") := Or.inl (by decide +kernel)
theorem l0_invert_1 : (bodyS N_invert s_invert).sc.names.lookup (PySem.Str.ofString "a") = some .local := by decide +kernel
theorem n_invert_2 : (bodyS N_invert s_invert).N[2]? = some (PySem.Str.ofString "inverse") := rfl
theorem v_invert_2 : Vis (bodyS N_invert s_invert).sc (PySem.Str.ofString "inverse") := Or.inl (by decide +kernel)
theorem l_invert_2 : L2.Loc (bodyS N_invert s_invert).sc (PySem.Str.ofString "inverse") := Or.inl (by decide +kernel)
theorem l0_invert_2 : (bodyS N_invert s_invert).sc.names.lookup (PySem.Str.ofString "inverse") = some .local := by decide +kernel
theorem gl_invert_NoInverse : (bodyS N_invert s_invert).sc.names.lookup (PySem.Str.ofString "NoInverse") = some .globalImplicit := by decide +kernel
theorem gl_invert_lowest : (bodyS N_invert s_invert).sc.names.lookup (PySem.Str.ofString "lowest") = some .globalImplicit := by decide +kernel
theorem gl_invert_number_of : (bodyS N_invert s_invert).sc.names.lookup (PySem.Str.ofString "number_of") = some .globalImplicit := by decide +kernel
noncomputable def body_invert : DEnv → Fl := seqF (ifF (toB (b2 eqD (nmD 1) (callF den_number_of (consA (nmD 0) (consA (cD (.int 0)) (nilA)))))) (raiseF "NoInverse") (nxD)) (seqF (ifF (toB (b2 eqD (nmD 0) (cD (.int 0)))) (retF (callF den_lowest (consA (b2 idxD (nmD 1) (cD (.int 1))) (consA (b2 idxD (nmD 1) (cD (.int 0))) (nilA))))) (nxD)) (seqF (setF 2 (cD (.int 1))) (seqF (whileF (toB (b2 neD (b2 modD (b2 mulD (nmD 2) (nmD 1)) (nmD 0)) (cD (.int 1)))) (seqF (augF 2 iaddD (cD (.int 1))) (nxD))) (retF (nmD 2)))))
noncomputable def den_invert : List D → R D := runD 3 body_invert
theorem ok_invert {G : Cfg} (T : Tp G) (c_lowest : FnD G 1 (PySem.Str.ofString "lowest") 2 false den_lowest) (c_number_of : FnD G 1 (PySem.Str.ofString "number_of") 2 false den_number_of) {f : Addr} {fd : FuncData} (FF : Fun G.K (PySem.Str.ofString "invert") (PySem.Str.ofString "invert") s_invert f fd) : FnOk G.P G.w G.K G.mg G.base (L2.CX G.P G.w) 2 f fd ["prime", "a"] (spD G 2 false den_invert) :=
  fn_mk (N := N_invert) (t := _) (g := body_invert) (own' := []) T.xi FF sc_invert rfl fun X W F tk po =>
    (ss_cons T.xi (s_if (own' := []) (t_cmp F cr_eq (d_nm0 F n_invert_1 v_invert_1 (by decide)) (d_call F tk c_number_of (by decide) gl_invert_number_of (a_cons (d_nm0 F n_invert_0 v_invert_0 (by decide)) (a_cons d_int a_nil)) rfl (hlen := (len_cons (len_cons len_nil)))) (nomark _)) (ss_one (s_raise F tk T.e_NoInverse gl_invert_NoInverse (by rfl))) (ss_nil (own' := []) (by rfl)) (by rfl)) (ss_cons T.xi (s_if (own' := []) (t_cmp F cr_eq (d_nm0 F n_invert_0 v_invert_0 (by decide)) d_int (nomark _)) (ss_one (s_ret (d_call F tk c_lowest (by decide) gl_invert_lowest (a_cons (d_ixN F n_invert_1 v_invert_1 d_int) (a_cons (d_ixN F n_invert_1 v_invert_1 d_int) a_nil)) rfl (hlen := (len_cons (len_cons len_nil)))) rfl (by rfl))) (ss_nil (own' := []) (by rfl)) (by rfl)) (ss_cons T.xi (s_set (own' := []) F nd_invert n_invert_2 l_invert_2 (Or.inl rfl) d_int (by rfl) (by rfl)) (ss_cons T.xi (s_while (own' := []) (olp := []) F po (t_cmp F cr_ne (d_mod (d_mul (d_nm0 F n_invert_2 v_invert_2 (by decide)) (d_nm0 F n_invert_1 v_invert_1 (by decide))) (d_nm0 F n_invert_0 v_invert_0 (by decide))) d_int (nomark _)) (ss_cons T.xi (s_aug (own' := []) F nd_invert n_invert_2 l_invert_2 (Or.inl rfl) iop_addA os_iadd noerr_iadd d_int (by decide) (by rfl) (by rfl)) (ss_nil (own' := []) (by rfl))) (by rfl) (by rfl) (by rfl)) (ss_one (s_ret (d_nm0 F n_invert_2 v_invert_2 (by decide)) rfl (by rfl)))))))
/-! ### divide -/
abbrev s_divide : Stmt := topS 18
abbrev N_divide : List PySem.Str := ["prime", "a", "b"]
theorem sc_divide : FnScope N_divide ["prime", "a", "b"] (defScope s_divide) := ⟨rfl, rfl, rfl, by decide +kernel, rfl, by decide +kernel, by decide +kernel⟩
theorem nd_divide : (bodyS N_divide s_divide).N.Nodup := sc_divide.nd
theorem n_divide_0 : (bodyS N_divide s_divide).N[0]? = some (PySem.Str.ofString "prime") := rfl
theorem v_divide_0 : Vis (bodyS N_divide s_divide).sc (PySem.Str.ofString "prime") := Or.inl (by decide +kernel)
theorem l_divide_0 : L2.Loc (bodyS N_divide s_divide).sc (PySem.Str.ofString "prime") := Or.inl (by decide +kernel)
theorem l0_divide_0 : (bodyS N_divide s_divide).sc.names.lookup (PySem.Str.ofString "prime") = some .local := by decide +kernel
theorem n_divide_1 : (bodyS N_divide s_divide).N[1]? = some (PySem.Str.ofString "a") := rfl
theorem v_divide_1 : Vis (bodyS N_divide s_divide).sc (PySem.Str.ofString "a") := Or.inl (by decide +kernel)
theorem l_divide_1 : L2.Loc (bodyS N_divide s_divide).sc (PySem.Str.ofString "a") := Or.inl (by decide +kernel)
theorem l0_divide_1 : (bodyS N_divide s_divide).sc.names.lookup (PySem.Str.ofString "a") = some .local := by decide +kernel
theorem n_divide_2 : (bodyS N_divide s_divide).N[2]? = some (PySem.Str.ofString "b") := rfl
theorem v_divide_2 : Vis (bodyS N_divide s_divide).sc (PySem.Str.ofString "b") := Or.inl (by decide +kernel)
theorem l_divide_2 : L2.Loc (bodyS N_divide s_divide).sc (PySem.Str.ofString "b") := Or.inl (by decide +kernel)
theorem l0_divide_2 : (bodyS N_divide s_divide).sc.names.lookup (PySem.Str.ofString "b") = some .local := by decide +kernel
theorem gl_divide_invert : (bodyS N_divide s_divide).sc.names.lookup (PySem.Str.ofString "invert") = some .globalImplicit := by decide +kernel
theorem gl_divide_multiply : (bodyS N_divide s_divide).sc.names.lookup (PySem.Str.ofString "multiply") = some .globalImplicit := by decide +kernel
noncomputable def body_divide : DEnv → Fl := retF (callF den_multiply (consA (nmD 0) (consA (nmD 1) (consA (callF den_invert (consA (nmD 0) (consA (nmD 2) (nilA)))) (nilA)))))
noncomputable def den_divide : List D → R D := runD 3 body_divide
theorem ok_divide {G : Cfg} (T : Tp G) (c_multiply : FnD G 2 (PySem.Str.ofString "multiply") 3 false den_multiply) (c_invert : FnD G 2 (PySem.Str.ofString "invert") 2 false den_invert) {f : Addr} {fd : FuncData} (FF : Fun G.K (PySem.Str.ofString "divide") (PySem.Str.ofString "divide") s_divide f fd) : FnOk G.P G.w G.K G.mg G.base (L2.CX G.P G.w) 3 f fd ["prime", "a", "b"] (spD G 3 false den_divide) :=
  fn_mk (N := N_divide) (t := _) (g := body_divide) (own' := []) T.xi FF sc_divide rfl fun X W F tk po =>
    (ss_one (s_ret (d_call F tk c_multiply (by decide) gl_divide_multiply (a_cons (d_nm0 F n_divide_0 v_divide_0 (by decide)) (a_cons (d_nm0 F n_divide_1 v_divide_1 (by decide)) (a_cons (d_call F tk c_invert (by decide) gl_divide_invert (a_cons (d_nm0 F n_divide_0 v_divide_0 (by decide)) (a_cons (d_nm0 F n_divide_2 v_divide_2 (by decide)) a_nil)) rfl (hlen := (len_cons (len_cons len_nil)))) a_nil))) rfl (hlen := (len_cons (len_cons (len_cons len_nil))))) rfl (by rfl)))
/-! ### ratio_of -/
abbrev s_ratio_of : Stmt := topS 19
abbrev N_ratio_of : List PySem.Str := ["prime", "n", "d"]
theorem sc_ratio_of : FnScope N_ratio_of ["prime", "n", "d"] (defScope s_ratio_of) := ⟨rfl, rfl, rfl, by decide +kernel, rfl, by decide +kernel, by decide +kernel⟩
theorem nd_ratio_of : (bodyS N_ratio_of s_ratio_of).N.Nodup := sc_ratio_of.nd
theorem n_ratio_of_0 : (bodyS N_ratio_of s_ratio_of).N[0]? = some (PySem.Str.ofString "prime") := rfl
theorem v_ratio_of_0 : Vis (bodyS N_ratio_of s_ratio_of).sc (PySem.Str.ofString "prime") := Or.inl (by decide +kernel)
theorem l_ratio_of_0 : L2.Loc (bodyS N_ratio_of s_ratio_of).sc (PySem.Str.ofString "prime") := Or.inl (by decide +kernel)
theorem l0_ratio_of_0 : (bodyS N_ratio_of s_ratio_of).sc.names.lookup (PySem.Str.ofString "prime") = some .local := by decide +kernel
theorem n_ratio_of_1 : (bodyS N_ratio_of s_ratio_of).N[1]? = some (PySem.Str.ofString "n") := rfl
theorem v_ratio_of_1 : Vis (bodyS N_ratio_of s_ratio_of).sc (PySem.Str.ofString "n") := Or.inl (by decide +kernel)
theorem l_ratio_of_1 : L2.Loc (bodyS N_ratio_of s_ratio_of).sc (PySem.Str.ofString "n") := Or.inl (by decide +kernel)
theorem l0_ratio_of_1 : (bodyS N_ratio_of s_ratio_of).sc.names.lookup (PySem.Str.ofString "n") = some .local := by decide +kernel
theorem n_ratio_of_2 : (bodyS N_ratio_of s_ratio_of).N[2]? = some (PySem.Str.ofString "d") := rfl
theorem v_ratio_of_2 : Vis (bodyS N_ratio_of s_ratio_of).sc (PySem.Str.ofString "d") := Or.inl (by decide +kernel)
theorem l_ratio_of_2 : L2.Loc (bodyS N_ratio_of s_ratio_of).sc (PySem.Str.ofString "d") := Or.inl (by decide +kernel)
theorem l0_ratio_of_2 : (bodyS N_ratio_of s_ratio_of).sc.names.lookup (PySem.Str.ofString "d") = some .local := by decide +kernel
theorem gl_ratio_of_divide : (bodyS N_ratio_of s_ratio_of).sc.names.lookup (PySem.Str.ofString "divide") = some .globalImplicit := by decide +kernel
theorem gl_ratio_of_number_of : (bodyS N_ratio_of s_ratio_of).sc.names.lookup (PySem.Str.ofString "number_of") = some .globalImplicit := by decide +kernel
noncomputable def body_ratio_of : DEnv → Fl := retF (callF den_divide (consA (nmD 0) (consA (callF den_number_of (consA (nmD 0) (consA (nmD 1) (nilA)))) (consA (callF den_number_of (consA (nmD 0) (consA (nmD 2) (nilA)))) (nilA)))))
noncomputable def den_ratio_of : List D → R D := runD 3 body_ratio_of
theorem ok_ratio_of {G : Cfg} (T : Tp G) (c_number_of : FnD G 1 (PySem.Str.ofString "number_of") 2 false den_number_of) (c_divide : FnD G 3 (PySem.Str.ofString "divide") 3 false den_divide) {f : Addr} {fd : FuncData} (FF : Fun G.K (PySem.Str.ofString "ratio_of") (PySem.Str.ofString "ratio_of") s_ratio_of f fd) : FnOk G.P G.w G.K G.mg G.base (L2.CX G.P G.w) 4 f fd ["prime", "n", "d"] (spD G 3 false den_ratio_of) :=
  fn_mk (N := N_ratio_of) (t := _) (g := body_ratio_of) (own' := []) T.xi FF sc_ratio_of rfl fun X W F tk po =>
    (ss_one (s_ret (d_call F tk c_divide (by decide) gl_ratio_of_divide (a_cons (d_nm0 F n_ratio_of_0 v_ratio_of_0 (by decide)) (a_cons (d_call F tk c_number_of (by decide) gl_ratio_of_number_of (a_cons (d_nm0 F n_ratio_of_0 v_ratio_of_0 (by decide)) (a_cons (d_nm0 F n_ratio_of_1 v_ratio_of_1 (by decide)) a_nil)) rfl (hlen := (len_cons (len_cons len_nil)))) (a_cons (d_call F tk c_number_of (by decide) gl_ratio_of_number_of (a_cons (d_nm0 F n_ratio_of_0 v_ratio_of_0 (by decide)) (a_cons (d_nm0 F n_ratio_of_2 v_ratio_of_2 (by decide)) a_nil)) rfl (hlen := (len_cons (len_cons len_nil)))) a_nil))) rfl (hlen := (len_cons (len_cons (len_cons len_nil))))) rfl (by rfl)))
/-! ### raise_to -/
abbrev s_raise_to : Stmt := topS 20
abbrev N_raise_to : List PySem.Str := ["prime", "a", "power", "result", "_"]
theorem sc_raise_to : FnScope N_raise_to ["prime", "a", "power"] (defScope s_raise_to) := ⟨rfl, rfl, rfl, by decide +kernel, rfl, by decide +kernel, by decide +kernel⟩
theorem nd_raise_to : (bodyS N_raise_to s_raise_to).N.Nodup := sc_raise_to.nd
theorem n_raise_to_0 : (bodyS N_raise_to s_raise_to).N[0]? = some (PySem.Str.ofString "prime") := rfl
theorem v_raise_to_0 : Vis (bodyS N_raise_to s_raise_to).sc (PySem.Str.ofString "prime") := Or.inl (by decide +kernel)
theorem l_raise_to_0 : L2.Loc (bodyS N_raise_to s_raise_to).sc (PySem.Str.ofString "prime") := Or.inl (by decide +kernel)
theorem l0_raise_to_0 : (bodyS N_raise_to s_raise_to).sc.names.lookup (PySem.Str.ofString "prime") = some .local := by decide +kernel
theorem n_raise_to_1 : (bodyS N_raise_to s_raise_to).N[1]? = some (PySem.Str.ofString "a") := rfl
theorem v_raise_to_1 : Vis (bodyS N_raise_to s_raise_to).sc (PySem.Str.ofString "a") := Or.inl (by decide +kernel)
theorem l_raise_to_1 : L2.Loc (bodyS N_raise_to s_raise_to).sc (PySem.Str.ofString "a") := Or.inl (by decide +kernel)
theorem l0_raise_to_1 : (bodyS N_raise_to s_raise_to).sc.names.lookup (PySem.Str.ofString "a") = some .local := by decide +kernel
theorem n_raise_to_2 : (bodyS N_raise_to s_raise_to).N[2]? = some (PySem.Str.ofString "power") := rfl
theorem v_raise_to_2 : Vis (bodyS N_raise_to s_raise_to).sc (PySem.Str.ofString "power") := Or.inl (by decide +kernel)
theorem l_raise_to_2 : L2.Loc (bodyS N_raise_to s_raise_to).sc (PySem.Str.ofString "power") := Or.inl (by decide +kernel)
theorem l0_raise_to_2 : (bodyS N_raise_to s_raise_to).sc.names.lookup (PySem.Str.ofString "power") = some .local := by decide +kernel
theorem n_raise_to_3 : (bodyS N_raise_to s_raise_to).N[3]? = some (PySem.Str.ofString "result") := rfl
theorem v_raise_to_3 : Vis (bodyS N_raise_to s_raise_to).sc (PySem.Str.ofString "result") := Or.inl (by decide +kernel)
theorem l_raise_to_3 : L2.Loc (bodyS N_raise_to s_raise_to).sc (PySem.Str.ofString "result") := Or.inl (by decide +kernel)
theorem l0_raise_to_3 : (bodyS N_raise_to s_raise_to).sc.names.lookup (PySem.Str.ofString "result") = some .local := by decide +kernel
theorem n_raise_to_4 : (bodyS N_raise_to s_raise_to).N[4]? = some (PySem.Str.ofString "_") := rfl
theorem v_raise_to_4 : Vis (bodyS N_raise_to s_raise_to).sc (PySem.Str.ofString "_") := Or.inl (by decide +kernel)
theorem l_raise_to_4 : L2.Loc (bodyS N_raise_to s_raise_to).sc (PySem.Str.ofString "_") := Or.inl (by decide +kernel)
theorem l0_raise_to_4 : (bodyS N_raise_to s_raise_to).sc.names.lookup (PySem.Str.ofString "_") = some .local := by decide +kernel
theorem gl_raise_to_multiply : (bodyS N_raise_to s_raise_to).sc.names.lookup (PySem.Str.ofString "multiply") = some .globalImplicit := by decide +kernel
theorem gl_raise_to_number_of : (bodyS N_raise_to s_raise_to).sc.names.lookup (PySem.Str.ofString "number_of") = some .globalImplicit := by decide +kernel
theorem gl_raise_to_range : (bodyS N_raise_to s_raise_to).sc.names.lookup (PySem.Str.ofString "range") = some .globalImplicit := by decide +kernel
noncomputable def body_raise_to : DEnv → Fl := seqF (setF 3 (callF den_number_of (consA (nmD 0) (consA (cD (.int 1)) (nilA))))) (seqF (forF (rng1 (consA (nmD 2) (nilA))) (putD 4) (seqF (setF 3 (callF den_multiply (consA (nmD 0) (consA (nmD 3) (consA (nmD 1) (nilA)))))) (nxD))) (retF (nmD 3)))
noncomputable def den_raise_to : List D → R D := runD 5 body_raise_to
theorem ok_raise_to {G : Cfg} (T : Tp G) (c_number_of : FnD G 1 (PySem.Str.ofString "number_of") 2 false den_number_of) (c_multiply : FnD G 2 (PySem.Str.ofString "multiply") 3 false den_multiply) {f : Addr} {fd : FuncData} (FF : Fun G.K (PySem.Str.ofString "raise_to") (PySem.Str.ofString "raise_to") s_raise_to f fd) : FnOk G.P G.w G.K G.mg G.base (L2.CX G.P G.w) 3 f fd ["prime", "a", "power"] (spD G 3 false den_raise_to) :=
  fn_mk (N := N_raise_to) (t := _) (g := body_raise_to) (own' := []) T.xi FF sc_raise_to rfl fun X W F tk po =>
    (ss_cons T.xi (s_set (own' := []) F nd_raise_to n_raise_to_3 l_raise_to_3 (Or.inl rfl) (d_call F tk c_number_of (by decide) gl_raise_to_number_of (a_cons (d_nm0 F n_raise_to_0 v_raise_to_0 (by decide)) (a_cons d_int a_nil)) rfl (hlen := (len_cons (len_cons len_nil)))) (by rfl) (by rfl)) (ss_cons T.xi (s_for (own' := []) (olp := []) F po (i_rng1 F gl_raise_to_range T.b_range (a_cons (d_nm0 F n_raise_to_2 v_raise_to_2 (by decide)) a_nil)) (g_name F nd_raise_to n_raise_to_4 l_raise_to_4 (Or.inl rfl) (by decide)) (ss_cons T.xi (s_set (own' := []) F nd_raise_to n_raise_to_3 l_raise_to_3 (Or.inl rfl) (d_call F tk c_multiply (by decide) gl_raise_to_multiply (a_cons (d_nm0 F n_raise_to_0 v_raise_to_0 (by decide)) (a_cons (d_nm0 F n_raise_to_3 v_raise_to_3 (by decide)) (a_cons (d_nm0 F n_raise_to_1 v_raise_to_1 (by decide)) a_nil))) rfl (hlen := (len_cons (len_cons (len_cons len_nil))))) (by rfl) (by rfl)) (ss_nil (own' := []) (by rfl))) (by rfl) (by rfl) (by rfl)) (ss_one (s_ret (d_nm0 F n_raise_to_3 v_raise_to_3 (by decide)) rfl (by rfl)))))
/-! ### shifted -/
abbrev s_shifted : Stmt := topS 21
abbrev N_shifted : List PySem.Str := ["prime", "row", "factor", "other", "a", "b"]
theorem sc_shifted : FnScope N_shifted ["prime", "row", "factor", "other"] (defScope s_shifted) := ⟨rfl, rfl, rfl, by decide +kernel, rfl, by decide +kernel, by decide +kernel⟩
theorem nd_shifted : (bodyS N_shifted s_shifted).N.Nodup := sc_shifted.nd
theorem n_shifted_0 : (bodyS N_shifted s_shifted).N[0]? = some (PySem.Str.ofString "prime") := rfl
theorem v_shifted_0 : Vis (bodyS N_shifted s_shifted).sc (PySem.Str.ofString "prime") := Or.inr (Or.inl (by decide +kernel))
theorem l_shifted_0 : L2.Loc (bodyS N_shifted s_shifted).sc (PySem.Str.ofString "prime") := Or.inr (by decide +kernel)
theorem n_shifted_1 : (bodyS N_shifted s_shifted).N[1]? = some (PySem.Str.ofString "row") := rfl
theorem v_shifted_1 : Vis (bodyS N_shifted s_shifted).sc (PySem.Str.ofString "row") := Or.inl (by decide +kernel)
theorem l_shifted_1 : L2.Loc (bodyS N_shifted s_shifted).sc (PySem.Str.ofString "row") := Or.inl (by decide +kernel)
theorem l0_shifted_1 : (bodyS N_shifted s_shifted).sc.names.lookup (PySem.Str.ofString "row") = some .local := by decide +kernel
theorem n_shifted_2 : (bodyS N_shifted s_shifted).N[2]? = some (PySem.Str.ofString "factor") := rfl
theorem v_shifted_2 : Vis (bodyS N_shifted s_shifted).sc (PySem.Str.ofString "factor") := Or.inr (Or.inl (by decide +kernel))
theorem l_shifted_2 : L2.Loc (bodyS N_shifted s_shifted).sc (PySem.Str.ofString "factor") := Or.inr (by decide +kernel)
theorem n_shifted_3 : (bodyS N_shifted s_shifted).N[3]? = some (PySem.Str.ofString "other") := rfl
theorem v_shifted_3 : Vis (bodyS N_shifted s_shifted).sc (PySem.Str.ofString "other") := Or.inl (by decide +kernel)
theorem l_shifted_3 : L2.Loc (bodyS N_shifted s_shifted).sc (PySem.Str.ofString "other") := Or.inl (by decide +kernel)
theorem l0_shifted_3 : (bodyS N_shifted s_shifted).sc.names.lookup (PySem.Str.ofString "other") = some .local := by decide +kernel
theorem n_shifted_4 : (bodyS N_shifted s_shifted).N[4]? = some (PySem.Str.ofString "a") := rfl
theorem n_shifted_5 : (bodyS N_shifted s_shifted).N[5]? = some (PySem.Str.ofString "b") := rfl
theorem gl_shifted_zip : (bodyS N_shifted s_shifted).sc.names.lookup (PySem.Str.ofString "zip") = some .globalImplicit := by decide +kernel
noncomputable def body_shifted : DEnv → Fl := seqF (ifF (toB (b2 gtD (nmD 0) (cD (.int 0)))) (retF (lcD [4, 5] (zipA (consA (nmD 1) (consA (nmD 3) (nilA)))) (tupT (consT (putD 4) (consT (putD 5) (nilT)))) (yesB) (b2 modD (b2 addD (nmD 4) (b2 mulD (nmD 2) (nmD 5))) (nmD 0)))) (nxD)) (retF (lcD [4, 5] (zipA (consA (nmD 1) (consA (nmD 3) (nilA)))) (tupT (consT (putD 4) (consT (putD 5) (nilT)))) (yesB) (callF den_add (consA (nmD 0) (consA (nmD 4) (consA (callF den_multiply (consA (nmD 0) (consA (nmD 2) (consA (nmD 5) (nilA))))) (nilA)))))))
noncomputable def den_shifted : List D → R D := runD 6 body_shifted
theorem ok_shifted {G : Cfg} (T : Tp G) (c_add : FnD G 2 (PySem.Str.ofString "add") 3 false den_add) (c_multiply : FnD G 2 (PySem.Str.ofString "multiply") 3 false den_multiply) {f : Addr} {fd : FuncData} (FF : Fun G.K (PySem.Str.ofString "shifted") (PySem.Str.ofString "shifted") s_shifted f fd) : FnOk G.P G.w G.K G.mg G.base (L2.CX G.P G.w) 3 f fd ["prime", "row", "factor", "other"] (spD G 4 false den_shifted) :=
  fn_mk (N := N_shifted) (t := _) (g := body_shifted) (own' := []) T.xi FF sc_shifted rfl fun X W F tk po =>
    (ss_cons T.xi (s_if (own' := []) (t_cmp F cr_gt (d_nm0 F n_shifted_0 v_shifted_0 (by decide)) d_int (nomark _)) (ss_one (s_ret (DF.de (d_lc (bo := [((PySem.Str.ofString "a"), 4), ((PySem.Str.ofString "b"), 5)]) F nd_shifted (by decide +kernel) (i_zip F gl_shifted_zip T.b_zip (a_cons (d_nm0 F n_shifted_1 v_shifted_1 (by decide)) (a_cons (d_nm0 F n_shifted_3 v_shifted_3 (by decide)) a_nil))) (fun X1 F1 => (g_tup F1 (gs_cons (g_name F1 nd_shifted n_shifted_4 (Or.inl rfl) (Or.inr rfl) (by decide)) (gs_cons (g_name F1 nd_shifted n_shifted_5 (Or.inl rfl) (Or.inr rfl) (by decide)) gs_nil)) rfl (hl := (lenT_cons (lenT_cons lenT_nil))))) (fun X1 F1 tk1 => ts_nil) (fun X1 F1 tk1 => (d_mod (d_add F1 (d_nm0 F1 n_shifted_4 (Or.inl rfl) (by decide)) (d_mul (d_nm0 F1 n_shifted_2 (Or.inr (Or.inl rfl)) (by decide)) (d_nm0 F1 n_shifted_5 (Or.inl rfl) (by decide)))) (d_nm0 F1 n_shifted_0 (Or.inr (Or.inl rfl)) (by decide)))) (by decide) (by decide))) rfl (by rfl))) (ss_nil (own' := []) (by rfl)) (by rfl)) (ss_one (s_ret (DF.de (d_lc (bo := [((PySem.Str.ofString "a"), 4), ((PySem.Str.ofString "b"), 5)]) F nd_shifted (by decide +kernel) (i_zip F gl_shifted_zip T.b_zip (a_cons (d_nm0 F n_shifted_1 v_shifted_1 (by decide)) (a_cons (d_nm0 F n_shifted_3 v_shifted_3 (by decide)) a_nil))) (fun X1 F1 => (g_tup F1 (gs_cons (g_name F1 nd_shifted n_shifted_4 (Or.inl rfl) (Or.inr rfl) (by decide)) (gs_cons (g_name F1 nd_shifted n_shifted_5 (Or.inl rfl) (Or.inr rfl) (by decide)) gs_nil)) rfl (hl := (lenT_cons (lenT_cons lenT_nil))))) (fun X1 F1 tk1 => ts_nil) (fun X1 F1 tk1 => (d_call F1 tk1 c_add (by decide) (by rfl) (a_cons (d_nm0 F1 n_shifted_0 (Or.inr (Or.inl rfl)) (by decide)) (a_cons (d_nm0 F1 n_shifted_4 (Or.inl rfl) (by decide)) (a_cons (d_call F1 tk1 c_multiply (by decide) (by rfl) (a_cons (d_nm0 F1 n_shifted_0 (Or.inr (Or.inl rfl)) (by decide)) (a_cons (d_nm0 F1 n_shifted_2 (Or.inr (Or.inl rfl)) (by decide)) (a_cons (d_nm0 F1 n_shifted_5 (Or.inl rfl) (by decide)) a_nil))) rfl (hlen := (len_cons (len_cons (len_cons len_nil))))) a_nil))) rfl (hlen := (len_cons (len_cons (len_cons len_nil)))))) (by decide) (by decide))) rfl (by rfl))))
/-! ### dot -/
abbrev s_dot : Stmt := topS 22
abbrev N_dot : List PySem.Str := ["prime", "row", "other", "total", "a", "b"]
theorem sc_dot : FnScope N_dot ["prime", "row", "other"] (defScope s_dot) := ⟨rfl, rfl, rfl, by decide +kernel, rfl, by decide +kernel, by decide +kernel⟩
theorem nd_dot : (bodyS N_dot s_dot).N.Nodup := sc_dot.nd
theorem n_dot_0 : (bodyS N_dot s_dot).N[0]? = some (PySem.Str.ofString "prime") := rfl
theorem v_dot_0 : Vis (bodyS N_dot s_dot).sc (PySem.Str.ofString "prime") := Or.inl (by decide +kernel)
theorem l_dot_0 : L2.Loc (bodyS N_dot s_dot).sc (PySem.Str.ofString "prime") := Or.inl (by decide +kernel)
theorem l0_dot_0 : (bodyS N_dot s_dot).sc.names.lookup (PySem.Str.ofString "prime") = some .local := by decide +kernel
theorem n_dot_1 : (bodyS N_dot s_dot).N[1]? = some (PySem.Str.ofString "row") := rfl
theorem v_dot_1 : Vis (bodyS N_dot s_dot).sc (PySem.Str.ofString "row") := Or.inl (by decide +kernel)
theorem l_dot_1 : L2.Loc (bodyS N_dot s_dot).sc (PySem.Str.ofString "row") := Or.inl (by decide +kernel)
theorem l0_dot_1 : (bodyS N_dot s_dot).sc.names.lookup (PySem.Str.ofString "row") = some .local := by decide +kernel
theorem n_dot_2 : (bodyS N_dot s_dot).N[2]? = some (PySem.Str.ofString "other") := rfl
theorem v_dot_2 : Vis (bodyS N_dot s_dot).sc (PySem.Str.ofString "other") := Or.inl (by decide +kernel)
theorem l_dot_2 : L2.Loc (bodyS N_dot s_dot).sc (PySem.Str.ofString "other") := Or.inl (by decide +kernel)
theorem l0_dot_2 : (bodyS N_dot s_dot).sc.names.lookup (PySem.Str.ofString "other") = some .local := by decide +kernel
theorem n_dot_3 : (bodyS N_dot s_dot).N[3]? = some (PySem.Str.ofString "total") := rfl
theorem v_dot_3 : Vis (bodyS N_dot s_dot).sc (PySem.Str.ofString "total") := Or.inl (by decide +kernel)
theorem l_dot_3 : L2.Loc (bodyS N_dot s_dot).sc (PySem.Str.ofString "total") := Or.inl (by decide +kernel)
theorem l0_dot_3 : (bodyS N_dot s_dot).sc.names.lookup (PySem.Str.ofString "total") = some .local := by decide +kernel
theorem n_dot_4 : (bodyS N_dot s_dot).N[4]? = some (PySem.Str.ofString "a") := rfl
theorem v_dot_4 : Vis (bodyS N_dot s_dot).sc (PySem.Str.ofString "a") := Or.inl (by decide +kernel)
theorem l_dot_4 : L2.Loc (bodyS N_dot s_dot).sc (PySem.Str.ofString "a") := Or.inl (by decide +kernel)
theorem l0_dot_4 : (bodyS N_dot s_dot).sc.names.lookup (PySem.Str.ofString "a") = some .local := by decide +kernel
theorem n_dot_5 : (bodyS N_dot s_dot).N[5]? = some (PySem.Str.ofString "b") := rfl
theorem v_dot_5 : Vis (bodyS N_dot s_dot).sc (PySem.Str.ofString "b") := Or.inl (by decide +kernel)
theorem l_dot_5 : L2.Loc (bodyS N_dot s_dot).sc (PySem.Str.ofString "b") := Or.inl (by decide +kernel)
theorem l0_dot_5 : (bodyS N_dot s_dot).sc.names.lookup (PySem.Str.ofString "b") = some .local := by decide +kernel
theorem gl_dot_add : (bodyS N_dot s_dot).sc.names.lookup (PySem.Str.ofString "add") = some .globalImplicit := by decide +kernel
theorem gl_dot_multiply : (bodyS N_dot s_dot).sc.names.lookup (PySem.Str.ofString "multiply") = some .globalImplicit := by decide +kernel
theorem gl_dot_number_of : (bodyS N_dot s_dot).sc.names.lookup (PySem.Str.ofString "number_of") = some .globalImplicit := by decide +kernel
theorem gl_dot_sum : (bodyS N_dot s_dot).sc.names.lookup (PySem.Str.ofString "sum") = some .globalImplicit := by decide +kernel
theorem gl_dot_zip : (bodyS N_dot s_dot).sc.names.lookup (PySem.Str.ofString "zip") = some .globalImplicit := by decide +kernel
noncomputable def body_dot : DEnv → Fl := seqF (ifF (toB (b2 gtD (nmD 0) (cD (.int 0)))) (retF (b2 modD (callF sumD (consA (lcD [4, 5] (zipA (consA (nmD 1) (consA (nmD 2) (nilA)))) (tupT (consT (putD 4) (consT (putD 5) (nilT)))) (yesB) (b2 mulD (nmD 4) (nmD 5))) (nilA))) (nmD 0))) (nxD)) (seqF (setF 3 (callF den_number_of (consA (nmD 0) (consA (cD (.int 0)) (nilA))))) (seqF (forF (zipA (consA (nmD 1) (consA (nmD 2) (nilA)))) (tupT (consT (putD 4) (consT (putD 5) (nilT)))) (seqF (setF 3 (callF den_add (consA (nmD 0) (consA (nmD 3) (consA (callF den_multiply (consA (nmD 0) (consA (nmD 4) (consA (nmD 5) (nilA))))) (nilA)))))) (nxD))) (retF (nmD 3))))
noncomputable def den_dot : List D → R D := runD 6 body_dot
theorem ok_dot {G : Cfg} (T : Tp G) (c_number_of : FnD G 1 (PySem.Str.ofString "number_of") 2 false den_number_of) (c_add : FnD G 2 (PySem.Str.ofString "add") 3 false den_add) (c_multiply : FnD G 2 (PySem.Str.ofString "multiply") 3 false den_multiply) {f : Addr} {fd : FuncData} (FF : Fun G.K (PySem.Str.ofString "dot") (PySem.Str.ofString "dot") s_dot f fd) : FnOk G.P G.w G.K G.mg G.base (L2.CX G.P G.w) 3 f fd ["prime", "row", "other"] (spD G 3 false den_dot) :=
  fn_mk (N := N_dot) (t := _) (g := body_dot) (own' := []) T.xi FF sc_dot rfl fun X W F tk po =>
    (ss_cons T.xi (s_if (own' := []) (t_cmp F cr_gt (d_nm0 F n_dot_0 v_dot_0 (by decide)) d_int (nomark _)) (ss_one (s_ret (d_mod (d_sum F rfl gl_dot_sum T.b_sum (a_cons (DF.de (d_lc (bo := [((PySem.Str.ofString "a"), 4), ((PySem.Str.ofString "b"), 5)]) F nd_dot (by decide +kernel) (i_zip F gl_dot_zip T.b_zip (a_cons (d_nm0 F n_dot_1 v_dot_1 (by decide)) (a_cons (d_nm0 F n_dot_2 v_dot_2 (by decide)) a_nil))) (fun X1 F1 => (g_tup F1 (gs_cons (g_name F1 nd_dot n_dot_4 (Or.inl rfl) (Or.inr rfl) (by decide)) (gs_cons (g_name F1 nd_dot n_dot_5 (Or.inl rfl) (Or.inr rfl) (by decide)) gs_nil)) rfl (hl := (lenT_cons (lenT_cons lenT_nil))))) (fun X1 F1 tk1 => ts_nil) (fun X1 F1 tk1 => (d_mul (d_nm0 F1 n_dot_4 (Or.inl rfl) (by decide)) (d_nm0 F1 n_dot_5 (Or.inl rfl) (by decide)))) (by decide) (by decide))) a_nil)) (d_nm0 F n_dot_0 v_dot_0 (by decide))) rfl (by rfl))) (ss_nil (own' := []) (by rfl)) (by rfl)) (ss_cons T.xi (s_set (own' := []) F nd_dot n_dot_3 l_dot_3 (Or.inl rfl) (d_call F tk c_number_of (by decide) gl_dot_number_of (a_cons (d_nm0 F n_dot_0 v_dot_0 (by decide)) (a_cons d_int a_nil)) rfl (hlen := (len_cons (len_cons len_nil)))) (by rfl) (by rfl)) (ss_cons T.xi (s_for (own' := []) (olp := []) F po (i_zip F gl_dot_zip T.b_zip (a_cons (d_nm0 F n_dot_1 v_dot_1 (by decide)) (a_cons (d_nm0 F n_dot_2 v_dot_2 (by decide)) a_nil))) (g_tup F (gs_cons (g_name F nd_dot n_dot_4 l_dot_4 (Or.inl rfl) (by decide)) (gs_cons (g_name F nd_dot n_dot_5 l_dot_5 (Or.inl rfl) (by decide)) gs_nil)) rfl (hl := (lenT_cons (lenT_cons lenT_nil)))) (ss_cons T.xi (s_set (own' := []) F nd_dot n_dot_3 l_dot_3 (Or.inl rfl) (d_call F tk c_add (by decide) gl_dot_add (a_cons (d_nm0 F n_dot_0 v_dot_0 (by decide)) (a_cons (d_nm0 F n_dot_3 v_dot_3 (by decide)) (a_cons (d_call F tk c_multiply (by decide) gl_dot_multiply (a_cons (d_nm0 F n_dot_0 v_dot_0 (by decide)) (a_cons (d_nm0 F n_dot_4 v_dot_4 (by decide)) (a_cons (d_nm0 F n_dot_5 v_dot_5 (by decide)) a_nil))) rfl (hlen := (len_cons (len_cons (len_cons len_nil))))) a_nil))) rfl (hlen := (len_cons (len_cons (len_cons len_nil))))) (by rfl) (by rfl)) (ss_nil (own' := []) (by rfl))) (by rfl) (by rfl) (by rfl)) (ss_one (s_ret (d_nm0 F n_dot_3 v_dot_3 (by decide)) rfl (by rfl))))))
/-! ### _law_pool -/
abbrev s__law_pool : Stmt := topS 24
abbrev N__law_pool : List PySem.Str := ["script", "count", "pool", "total", "cell", "k", "left", "mixed"]
theorem sc__law_pool : FnScope N__law_pool ["script", "count"] (defScope s__law_pool) := ⟨rfl, rfl, rfl, by decide +kernel, rfl, by decide +kernel, by decide +kernel⟩
theorem nd__law_pool : (bodyS N__law_pool s__law_pool).N.Nodup := sc__law_pool.nd
theorem n__law_pool_0 : (bodyS N__law_pool s__law_pool).N[0]? = some (PySem.Str.ofString "script") := rfl
theorem v__law_pool_0 : Vis (bodyS N__law_pool s__law_pool).sc (PySem.Str.ofString "script") := Or.inl (by decide +kernel)
theorem l__law_pool_0 : L2.Loc (bodyS N__law_pool s__law_pool).sc (PySem.Str.ofString "script") := Or.inl (by decide +kernel)
theorem l0__law_pool_0 : (bodyS N__law_pool s__law_pool).sc.names.lookup (PySem.Str.ofString "script") = some .local := by decide +kernel
theorem n__law_pool_1 : (bodyS N__law_pool s__law_pool).N[1]? = some (PySem.Str.ofString "count") := rfl
theorem v__law_pool_1 : Vis (bodyS N__law_pool s__law_pool).sc (PySem.Str.ofString "count") := Or.inl (by decide +kernel)
theorem l__law_pool_1 : L2.Loc (bodyS N__law_pool s__law_pool).sc (PySem.Str.ofString "count") := Or.inl (by decide +kernel)
theorem l0__law_pool_1 : (bodyS N__law_pool s__law_pool).sc.names.lookup (PySem.Str.ofString "count") = some .local := by decide +kernel
theorem n__law_pool_2 : (bodyS N__law_pool s__law_pool).N[2]? = some (PySem.Str.ofString "pool") := rfl
theorem v__law_pool_2 : Vis (bodyS N__law_pool s__law_pool).sc (PySem.Str.ofString "pool") := Or.inl (by decide +kernel)
theorem l__law_pool_2 : L2.Loc (bodyS N__law_pool s__law_pool).sc (PySem.Str.ofString "pool") := Or.inl (by decide +kernel)
theorem l0__law_pool_2 : (bodyS N__law_pool s__law_pool).sc.names.lookup (PySem.Str.ofString "pool") = some .local := by decide +kernel
theorem n__law_pool_3 : (bodyS N__law_pool s__law_pool).N[3]? = some (PySem.Str.ofString "total") := rfl
theorem v__law_pool_3 : Vis (bodyS N__law_pool s__law_pool).sc (PySem.Str.ofString "total") := Or.inl (by decide +kernel)
theorem l__law_pool_3 : L2.Loc (bodyS N__law_pool s__law_pool).sc (PySem.Str.ofString "total") := Or.inl (by decide +kernel)
theorem l0__law_pool_3 : (bodyS N__law_pool s__law_pool).sc.names.lookup (PySem.Str.ofString "total") = some .local := by decide +kernel
theorem n__law_pool_4 : (bodyS N__law_pool s__law_pool).N[4]? = some (PySem.Str.ofString "cell") := rfl
theorem v__law_pool_4 : Vis (bodyS N__law_pool s__law_pool).sc (PySem.Str.ofString "cell") := Or.inl (by decide +kernel)
theorem l__law_pool_4 : L2.Loc (bodyS N__law_pool s__law_pool).sc (PySem.Str.ofString "cell") := Or.inl (by decide +kernel)
theorem l0__law_pool_4 : (bodyS N__law_pool s__law_pool).sc.names.lookup (PySem.Str.ofString "cell") = some .local := by decide +kernel
theorem n__law_pool_5 : (bodyS N__law_pool s__law_pool).N[5]? = some (PySem.Str.ofString "k") := rfl
theorem v__law_pool_5 : Vis (bodyS N__law_pool s__law_pool).sc (PySem.Str.ofString "k") := Or.inl (by decide +kernel)
theorem l__law_pool_5 : L2.Loc (bodyS N__law_pool s__law_pool).sc (PySem.Str.ofString "k") := Or.inl (by decide +kernel)
theorem l0__law_pool_5 : (bodyS N__law_pool s__law_pool).sc.names.lookup (PySem.Str.ofString "k") = some .local := by decide +kernel
theorem n__law_pool_6 : (bodyS N__law_pool s__law_pool).N[6]? = some (PySem.Str.ofString "left") := rfl
theorem v__law_pool_6 : Vis (bodyS N__law_pool s__law_pool).sc (PySem.Str.ofString "left") := Or.inl (by decide +kernel)
theorem l__law_pool_6 : L2.Loc (bodyS N__law_pool s__law_pool).sc (PySem.Str.ofString "left") := Or.inl (by decide +kernel)
theorem l0__law_pool_6 : (bodyS N__law_pool s__law_pool).sc.names.lookup (PySem.Str.ofString "left") = some .local := by decide +kernel
theorem n__law_pool_7 : (bodyS N__law_pool s__law_pool).N[7]? = some (PySem.Str.ofString "mixed") := rfl
theorem v__law_pool_7 : Vis (bodyS N__law_pool s__law_pool).sc (PySem.Str.ofString "mixed") := Or.inl (by decide +kernel)
theorem l__law_pool_7 : L2.Loc (bodyS N__law_pool s__law_pool).sc (PySem.Str.ofString "mixed") := Or.inl (by decide +kernel)
theorem l0__law_pool_7 : (bodyS N__law_pool s__law_pool).sc.names.lookup (PySem.Str.ofString "mixed") = some .local := by decide +kernel
theorem gl__law_pool_int : (bodyS N__law_pool s__law_pool).sc.names.lookup (PySem.Str.ofString "int") = some .globalImplicit := by decide +kernel
theorem gl__law_pool_range : (bodyS N__law_pool s__law_pool).sc.names.lookup (PySem.Str.ofString "range") = some .globalImplicit := by decide +kernel
noncomputable def body__law_pool : DEnv → Fl := seqF (setF 2 (lstA (nilA))) (seqF (setF 3 (cD (.int 7))) (seqF (forF (itS (nmD 0)) (putD 4) (seqF (setF 6 (ifV (toB (b2 geD (nmD 4) (cD (.int 0)))) (b2 mulD (cD (.int 2)) (callF intD (consA (nmD 4) (nilA)))) (b2 subD (b2 mulD (u1 negD (cD (.int 2))) (callF intD (consA (nmD 4) (nilA)))) (cD (.int 1))))) (seqF (setF 3 (b2 modD (callF intD (consA (b2 addD (b2 mulD (nmD 3) (cD (.int 31))) (nmD 6)) (nilA))) (cD (.int 2147483629)))) (seqF (ifF (toB (b2 geD (nmD 6) (b2 powD (cD (.int 10)) (cD (.int 18))))) (seqF (forF (rng1 (consA (nmD 1) (nilA))) (putD 5) (seqF (ifF (toB (b2 gtD (nmD 6) (cD (.int 0)))) (seqF (appF 2 (b2 modD (nmD 6) (cD (.int 1000)))) (seqF (setF 6 (b2 fdivD (nmD 6) (cD (.int 1000)))) (nxD))) (nxD)) (nxD))) (nxD)) (seqF (setF 7 (b2 modD (callF intD (consA (b2 addD (b2 mulD (b2 addD (nmD 6) (cD (.int 5))) (cD (.int 40692))) (cD (.int 977))) (nilA))) (cD (.int 2147483399)))) (seqF (forF (rng1 (consA (cD (.int 6)) (nilA))) (putD 5) (seqF (setF 7 (b2 modD (callF intD (consA (b2 addD (b2 mulD (nmD 7) (cD (.int 48271))) (cD (.int 11))) (nilA))) (cD (.int 2147483647)))) (seqF (appF 2 (b2 modD (b2 fdivD (nmD 7) (cD (.int 7))) (cD (.int 1000)))) (nxD)))) (nxD)))) (nxD))))) (seqF (forF (rng1 (consA (nmD 1) (nilA))) (putD 5) (seqF (setF 3 (b2 modD (callF intD (consA (b2 addD (b2 mulD (nmD 3) (cD (.int 69621))) (cD (.int 13))) (nilA))) (cD (.int 2147483629)))) (seqF (appF 2 (b2 modD (b2 fdivD (nmD 3) (cD (.int 11))) (cD (.int 1000)))) (nxD)))) (retF (sl3 cutD (nmD 2) (noP) (someP (nmD 1)))))))
noncomputable def den__law_pool : List D → R D := runD 8 body__law_pool
theorem ok__law_pool {G : Cfg} (T : Tp G)  {f : Addr} {fd : FuncData} (FF : Fun G.K (PySem.Str.ofString "_law_pool") (PySem.Str.ofString "_law_pool") s__law_pool f fd) : FnOk G.P G.w G.K G.mg G.base (L2.CX G.P G.w) 1 f fd ["script", "count"] (spD G 2 false den__law_pool) :=
  fn_mk (N := N__law_pool) (t := _) (g := body__law_pool) (own' := []) T.xi FF sc__law_pool rfl fun X W F tk po =>
    (ss_cons T.xi (s_setF (own' := []) F nd__law_pool n__law_pool_2 l__law_pool_2 (Or.inl rfl) (d_lst a_nil) (by rfl) (by rfl)) (ss_cons T.xi (s_set (own' := [2]) F nd__law_pool n__law_pool_3 l__law_pool_3 (Or.inl rfl) d_int (by rfl) (by rfl)) (ss_cons T.xi (s_for (own' := [2]) (olp := [2]) F po (i_seq F (d_nm0 F n__law_pool_0 v__law_pool_0 (by decide))) (g_name F nd__law_pool n__law_pool_4 l__law_pool_4 (Or.inl rfl) (by decide)) (ss_cons T.xi (s_set (own' := [2]) F nd__law_pool n__law_pool_6 l__law_pool_6 (Or.inl rfl) (d_if (t_cmp F cr_ge (d_nm0 F n__law_pool_4 v__law_pool_4 (by decide)) d_int (nomark _)) (d_mul d_int (d_intC F gl__law_pool_int T.b_int (a_cons (d_nm0 F n__law_pool_4 v__law_pool_4 (by decide)) a_nil))) (d_sub (d_mul (d_neg d_int) (d_intC F gl__law_pool_int T.b_int (a_cons (d_nm0 F n__law_pool_4 v__law_pool_4 (by decide)) a_nil))) d_int)) (by rfl) (by rfl)) (ss_cons T.xi (s_set (own' := [2]) F nd__law_pool n__law_pool_3 l__law_pool_3 (Or.inl rfl) (d_mod (d_intC F gl__law_pool_int T.b_int (a_cons (d_add F (d_mul (d_nm0 F n__law_pool_3 v__law_pool_3 (by decide)) d_int) (d_nm0 F n__law_pool_6 v__law_pool_6 (by decide))) a_nil)) d_int) (by rfl) (by rfl)) (ss_cons T.xi (s_if (own' := [2]) (t_cmp F cr_ge (d_nm0 F n__law_pool_6 v__law_pool_6 (by decide)) (d_pow d_int d_int) (nomark _)) (ss_cons T.xi (s_for (own' := [2]) (olp := [2]) F po (i_rng1 F gl__law_pool_range T.b_range (a_cons (d_nm0 F n__law_pool_1 v__law_pool_1 (by decide)) a_nil)) (g_name F nd__law_pool n__law_pool_5 l__law_pool_5 (Or.inl rfl) (by decide)) (ss_cons T.xi (s_if (own' := [2]) (t_cmp F cr_gt (d_nm0 F n__law_pool_6 v__law_pool_6 (by decide)) d_int (nomark _)) (ss_cons T.xi (s_app (own' := [2]) F n__law_pool_2 v__law_pool_2 (d_mod (d_nm0 F n__law_pool_6 v__law_pool_6 (by decide)) d_int) (by decide) (by rfl) (by rfl)) (ss_cons T.xi (s_set (own' := [2]) F nd__law_pool n__law_pool_6 l__law_pool_6 (Or.inl rfl) (d_fdiv (d_nm0 F n__law_pool_6 v__law_pool_6 (by decide)) d_int) (by rfl) (by rfl)) (ss_nil (own' := [2]) (by rfl)))) (ss_nil (own' := [2]) (by rfl)) (by rfl)) (ss_nil (own' := [2]) (by rfl))) (by rfl) (by rfl) (by rfl)) (ss_nil (own' := [2]) (by rfl))) (ss_cons T.xi (s_set (own' := [2]) F nd__law_pool n__law_pool_7 l__law_pool_7 (Or.inl rfl) (d_mod (d_intC F gl__law_pool_int T.b_int (a_cons (d_add F (d_mul (d_add F (d_nm0 F n__law_pool_6 v__law_pool_6 (by decide)) d_int) d_int) d_int) a_nil)) d_int) (by rfl) (by rfl)) (ss_cons T.xi (s_for (own' := [2]) (olp := [2]) F po (i_rng1 F gl__law_pool_range T.b_range (a_cons d_int a_nil)) (g_name F nd__law_pool n__law_pool_5 l__law_pool_5 (Or.inl rfl) (by decide)) (ss_cons T.xi (s_set (own' := [2]) F nd__law_pool n__law_pool_7 l__law_pool_7 (Or.inl rfl) (d_mod (d_intC F gl__law_pool_int T.b_int (a_cons (d_add F (d_mul (d_nm0 F n__law_pool_7 v__law_pool_7 (by decide)) d_int) d_int) a_nil)) d_int) (by rfl) (by rfl)) (ss_cons T.xi (s_app (own' := [2]) F n__law_pool_2 v__law_pool_2 (d_mod (d_fdiv (d_nm0 F n__law_pool_7 v__law_pool_7 (by decide)) d_int) d_int) (by decide) (by rfl) (by rfl)) (ss_nil (own' := [2]) (by rfl)))) (by rfl) (by rfl) (by rfl)) (ss_nil (own' := [2]) (by rfl)))) (by rfl)) (ss_nil (own' := [2]) (by rfl))))) (by rfl) (by rfl) (by rfl)) (ss_cons T.xi (s_for (own' := [2]) (olp := [2]) F po (i_rng1 F gl__law_pool_range T.b_range (a_cons (d_nm0 F n__law_pool_1 v__law_pool_1 (by decide)) a_nil)) (g_name F nd__law_pool n__law_pool_5 l__law_pool_5 (Or.inl rfl) (by decide)) (ss_cons T.xi (s_set (own' := [2]) F nd__law_pool n__law_pool_3 l__law_pool_3 (Or.inl rfl) (d_mod (d_intC F gl__law_pool_int T.b_int (a_cons (d_add F (d_mul (d_nm0 F n__law_pool_3 v__law_pool_3 (by decide)) d_int) d_int) a_nil)) d_int) (by rfl) (by rfl)) (ss_cons T.xi (s_app (own' := [2]) F n__law_pool_2 v__law_pool_2 (d_mod (d_fdiv (d_nm0 F n__law_pool_3 v__law_pool_3 (by decide)) d_int) d_int) (by decide) (by rfl) (by rfl)) (ss_nil (own' := [2]) (by rfl)))) (by rfl) (by rfl) (by rfl)) (ss_one (s_ret (d_slice F (d_nm F n__law_pool_2 v__law_pool_2) o_none (o_some (d_nm0 F n__law_pool_1 v__law_pool_1 (by decide)))) rfl (by rfl)))))))
/-! ### _law_common -/
abbrev s__law_common : Stmt := topS 25
abbrev N__law_common : List PySem.Str := ["a", "b"]
theorem sc__law_common : FnScope N__law_common ["a", "b"] (defScope s__law_common) := ⟨rfl, rfl, rfl, by decide +kernel, rfl, by decide +kernel, by decide +kernel⟩
theorem nd__law_common : (bodyS N__law_common s__law_common).N.Nodup := sc__law_common.nd
theorem n__law_common_0 : (bodyS N__law_common s__law_common).N[0]? = some (PySem.Str.ofString "a") := rfl
theorem v__law_common_0 : Vis (bodyS N__law_common s__law_common).sc (PySem.Str.ofString "a") := Or.inl (by decide +kernel)
theorem l__law_common_0 : L2.Loc (bodyS N__law_common s__law_common).sc (PySem.Str.ofString "a") := Or.inl (by decide +kernel)
theorem l0__law_common_0 : (bodyS N__law_common s__law_common).sc.names.lookup (PySem.Str.ofString "a") = some .local := by decide +kernel
theorem n__law_common_1 : (bodyS N__law_common s__law_common).N[1]? = some (PySem.Str.ofString "b") := rfl
theorem v__law_common_1 : Vis (bodyS N__law_common s__law_common).sc (PySem.Str.ofString "b") := Or.inl (by decide +kernel)
theorem l__law_common_1 : L2.Loc (bodyS N__law_common s__law_common).sc (PySem.Str.ofString "b") := Or.inl (by decide +kernel)
theorem l0__law_common_1 : (bodyS N__law_common s__law_common).sc.names.lookup (PySem.Str.ofString "b") = some .local := by decide +kernel
theorem gl__law_common_abs : (bodyS N__law_common s__law_common).sc.names.lookup (PySem.Str.ofString "abs") = some .globalImplicit := by decide +kernel
theorem gl__law_common_int : (bodyS N__law_common s__law_common).sc.names.lookup (PySem.Str.ofString "int") = some .globalImplicit := by decide +kernel
noncomputable def body__law_common : DEnv → Fl := seqF (setF 0 (callF absD (consA (nmD 0) (nilA)))) (seqF (setF 1 (callF absD (consA (nmD 1) (nilA)))) (seqF (whileF (toB (b2 neD (nmD 1) (cD (.int 0)))) (seqF (parF 0 1 (consA (nmD 1) (consA (b2 modD (callF intD (consA (nmD 0) (nilA))) (nmD 1)) (nilA)))) (nxD))) (retF (nmD 0))))
noncomputable def den__law_common : List D → R D := runD 2 body__law_common
theorem ok__law_common {G : Cfg} (T : Tp G)  {f : Addr} {fd : FuncData} (FF : Fun G.K (PySem.Str.ofString "_law_common") (PySem.Str.ofString "_law_common") s__law_common f fd) : FnOk G.P G.w G.K G.mg G.base (L2.CX G.P G.w) 1 f fd ["a", "b"] (spD G 2 false den__law_common) :=
  fn_mk (N := N__law_common) (t := _) (g := body__law_common) (own' := []) T.xi FF sc__law_common rfl fun X W F tk po =>
    (ss_cons T.xi (s_set (own' := []) F nd__law_common n__law_common_0 l__law_common_0 (Or.inl rfl) (d_abs F gl__law_common_abs T.b_abs (a_cons (d_nm0 F n__law_common_0 v__law_common_0 (by decide)) a_nil)) (by rfl) (by rfl)) (ss_cons T.xi (s_set (own' := []) F nd__law_common n__law_common_1 l__law_common_1 (Or.inl rfl) (d_abs F gl__law_common_abs T.b_abs (a_cons (d_nm0 F n__law_common_1 v__law_common_1 (by decide)) a_nil)) (by rfl) (by rfl)) (ss_cons T.xi (s_while (own' := []) (olp := []) F po (t_cmp F cr_ne (d_nm0 F n__law_common_1 v__law_common_1 (by decide)) d_int (nomark _)) (ss_cons T.xi (s_par (own' := []) F nd__law_common n__law_common_0 n__law_common_1 (by decide) l0__law_common_0 l0__law_common_1 (a_cons (d_nm0 F n__law_common_1 v__law_common_1 (by decide)) (a_cons (d_mod (d_intC F gl__law_common_int T.b_int (a_cons (d_nm0 F n__law_common_0 v__law_common_0 (by decide)) a_nil)) (d_nm0 F n__law_common_1 v__law_common_1 (by decide))) a_nil)) (by rfl) (by rfl) (sws_some F.sc (by rfl) (by decide +kernel) (by rfl) (by rfl))) (ss_nil (own' := []) (by rfl))) (by rfl) (by rfl) (by rfl)) (ss_one (s_ret (d_nm0 F n__law_common_0 v__law_common_0 (by decide)) rfl (by rfl))))))
/-! ### _law_lowest -/
abbrev s__law_lowest : Stmt := topS 26
abbrev N__law_lowest : List PySem.Str := ["n", "d", "common"]
theorem sc__law_lowest : FnScope N__law_lowest ["n", "d"] (defScope s__law_lowest) := ⟨rfl, rfl, rfl, by decide +kernel, rfl, by decide +kernel, by decide +kernel⟩
theorem nd__law_lowest : (bodyS N__law_lowest s__law_lowest).N.Nodup := sc__law_lowest.nd
theorem n__law_lowest_0 : (bodyS N__law_lowest s__law_lowest).N[0]? = some (PySem.Str.ofString "n") := rfl
theorem v__law_lowest_0 : Vis (bodyS N__law_lowest s__law_lowest).sc (PySem.Str.ofString "n") := Or.inl (by decide +kernel)
theorem l__law_lowest_0 : L2.Loc (bodyS N__law_lowest s__law_lowest).sc (PySem.Str.ofString "n") := Or.inl (by decide +kernel)
theorem l0__law_lowest_0 : (bodyS N__law_lowest s__law_lowest).sc.names.lookup (PySem.Str.ofString "n") = some .local := by decide +kernel
theorem n__law_lowest_1 : (bodyS N__law_lowest s__law_lowest).N[1]? = some (PySem.Str.ofString "d") := rfl
theorem v__law_lowest_1 : Vis (bodyS N__law_lowest s__law_lowest).sc (PySem.Str.ofString "d") := Or.inl (by decide +kernel)
theorem l__law_lowest_1 : L2.Loc (bodyS N__law_lowest s__law_lowest).sc (PySem.Str.ofString "d") := Or.inl (by decide +kernel)
theorem l0__law_lowest_1 : (bodyS N__law_lowest s__law_lowest).sc.names.lookup (PySem.Str.ofString "d") = some .local := by decide +kernel
theorem n__law_lowest_2 : (bodyS N__law_lowest s__law_lowest).N[2]? = some (PySem.Str.ofString "common") := rfl
theorem v__law_lowest_2 : Vis (bodyS N__law_lowest s__law_lowest).sc (PySem.Str.ofString "common") := Or.inl (by decide +kernel)
theorem l__law_lowest_2 : L2.Loc (bodyS N__law_lowest s__law_lowest).sc (PySem.Str.ofString "common") := Or.inl (by decide +kernel)
theorem l0__law_lowest_2 : (bodyS N__law_lowest s__law_lowest).sc.names.lookup (PySem.Str.ofString "common") = some .local := by decide +kernel
theorem gl__law_lowest__law_common : (bodyS N__law_lowest s__law_lowest).sc.names.lookup (PySem.Str.ofString "_law_common") = some .globalImplicit := by decide +kernel
noncomputable def body__law_lowest : DEnv → Fl := seqF (setF 2 (callF den__law_common (consA (nmD 0) (consA (nmD 1) (nilA))))) (seqF (ifF (toB (b2 ltD (nmD 1) (cD (.int 0)))) (seqF (setF 2 (u1 negD (nmD 2))) (nxD)) (nxD)) (retF (tupA (consA (b2 fdivD (nmD 0) (nmD 2)) (consA (b2 fdivD (nmD 1) (nmD 2)) (nilA))))))
noncomputable def den__law_lowest : List D → R D := runD 3 body__law_lowest
theorem ok__law_lowest {G : Cfg} (T : Tp G) (c__law_common : FnD G 1 (PySem.Str.ofString "_law_common") 2 false den__law_common) {f : Addr} {fd : FuncData} (FF : Fun G.K (PySem.Str.ofString "_law_lowest") (PySem.Str.ofString "_law_lowest") s__law_lowest f fd) : FnOk G.P G.w G.K G.mg G.base (L2.CX G.P G.w) 2 f fd ["n", "d"] (spD G 2 false den__law_lowest) :=
  fn_mk (N := N__law_lowest) (t := _) (g := body__law_lowest) (own' := []) T.xi FF sc__law_lowest rfl fun X W F tk po =>
    (ss_cons T.xi (s_set (own' := []) F nd__law_lowest n__law_lowest_2 l__law_lowest_2 (Or.inl rfl) (d_call F tk c__law_common (by decide) gl__law_lowest__law_common (a_cons (d_nm0 F n__law_lowest_0 v__law_lowest_0 (by decide)) (a_cons (d_nm0 F n__law_lowest_1 v__law_lowest_1 (by decide)) a_nil)) rfl (hlen := (len_cons (len_cons len_nil)))) (by rfl) (by rfl)) (ss_cons T.xi (s_if (own' := []) (t_cmp F cr_lt (d_nm0 F n__law_lowest_1 v__law_lowest_1 (by decide)) d_int (nomark _)) (ss_cons T.xi (s_set (own' := []) F nd__law_lowest n__law_lowest_2 l__law_lowest_2 (Or.inl rfl) (d_neg (d_nm0 F n__law_lowest_2 v__law_lowest_2 (by decide))) (by rfl) (by rfl)) (ss_nil (own' := []) (by rfl))) (ss_nil (own' := []) (by rfl)) (by rfl)) (ss_one (s_ret (d_tup (a_cons (d_fdiv (d_nm0 F n__law_lowest_0 v__law_lowest_0 (by decide)) (d_nm0 F n__law_lowest_2 v__law_lowest_2 (by decide))) (a_cons (d_fdiv (d_nm0 F n__law_lowest_1 v__law_lowest_1 (by decide)) (d_nm0 F n__law_lowest_2 v__law_lowest_2 (by decide))) a_nil))) rfl (by rfl)))))
/-! ### _law_number -/
abbrev s__law_number : Stmt := topS 27
abbrev N__law_number : List PySem.Str := ["prime", "n", "d", "k"]
theorem sc__law_number : FnScope N__law_number ["prime", "n", "d"] (defScope s__law_number) := ⟨rfl, rfl, rfl, by decide +kernel, rfl, by decide +kernel, by decide +kernel⟩
theorem nd__law_number : (bodyS N__law_number s__law_number).N.Nodup := sc__law_number.nd
theorem n__law_number_0 : (bodyS N__law_number s__law_number).N[0]? = some (PySem.Str.ofString "prime") := rfl
theorem v__law_number_0 : Vis (bodyS N__law_number s__law_number).sc (PySem.Str.ofString "prime") := Or.inl (by decide +kernel)
theorem l__law_number_0 : L2.Loc (bodyS N__law_number s__law_number).sc (PySem.Str.ofString "prime") := Or.inl (by decide +kernel)
theorem l0__law_number_0 : (bodyS N__law_number s__law_number).sc.names.lookup (PySem.Str.ofString "prime") = some .local := by decide +kernel
theorem n__law_number_1 : (bodyS N__law_number s__law_number).N[1]? = some (PySem.Str.ofString "n") := rfl
theorem v__law_number_1 : Vis (bodyS N__law_number s__law_number).sc (PySem.Str.ofString "n") := Or.inl (by decide +kernel)
theorem l__law_number_1 : L2.Loc (bodyS N__law_number s__law_number).sc (PySem.Str.ofString "n") := Or.inl (by decide +kernel)
theorem l0__law_number_1 : (bodyS N__law_number s__law_number).sc.names.lookup (PySem.Str.ofString "n") = some .local := by decide +kernel
theorem n__law_number_2 : (bodyS N__law_number s__law_number).N[2]? = some (PySem.Str.ofString "d") := rfl
theorem v__law_number_2 : Vis (bodyS N__law_number s__law_number).sc (PySem.Str.ofString "d") := Or.inl (by decide +kernel)
theorem l__law_number_2 : L2.Loc (bodyS N__law_number s__law_number).sc (PySem.Str.ofString "d") := Or.inl (by decide +kernel)
theorem l0__law_number_2 : (bodyS N__law_number s__law_number).sc.names.lookup (PySem.Str.ofString "d") = some .local := by decide +kernel
theorem n__law_number_3 : (bodyS N__law_number s__law_number).N[3]? = some (PySem.Str.ofString "k") := rfl
theorem v__law_number_3 : Vis (bodyS N__law_number s__law_number).sc (PySem.Str.ofString "k") := Or.inl (by decide +kernel)
theorem l__law_number_3 : L2.Loc (bodyS N__law_number s__law_number).sc (PySem.Str.ofString "k") := Or.inl (by decide +kernel)
theorem l0__law_number_3 : (bodyS N__law_number s__law_number).sc.names.lookup (PySem.Str.ofString "k") = some .local := by decide +kernel
theorem gl__law_number__law_lowest : (bodyS N__law_number s__law_number).sc.names.lookup (PySem.Str.ofString "_law_lowest") = some .globalImplicit := by decide +kernel
theorem gl__law_number_int : (bodyS N__law_number s__law_number).sc.names.lookup (PySem.Str.ofString "int") = some .globalImplicit := by decide +kernel
theorem gl__law_number_range : (bodyS N__law_number s__law_number).sc.names.lookup (PySem.Str.ofString "range") = some .globalImplicit := by decide +kernel
noncomputable def body__law_number : DEnv → Fl := seqF (ifF (toB (b2 eqD (nmD 0) (cD (.int 0)))) (retF (callF den__law_lowest (consA (nmD 1) (consA (nmD 2) (nilA))))) (nxD)) (seqF (forF (rng1 (consA (nmD 0) (nilA))) (putD 3) (seqF (ifF (toB (b2 eqD (b2 modD (callF intD (consA (b2 subD (b2 mulD (nmD 3) (nmD 2)) (nmD 1)) (nilA))) (nmD 0)) (cD (.int 0)))) (retF (nmD 3)) (nxD)) (nxD))) (retF (cD (.int 0))))
noncomputable def den__law_number : List D → R D := runD 4 body__law_number
theorem ok__law_number {G : Cfg} (T : Tp G) (c__law_lowest : FnD G 2 (PySem.Str.ofString "_law_lowest") 2 false den__law_lowest) {f : Addr} {fd : FuncData} (FF : Fun G.K (PySem.Str.ofString "_law_number") (PySem.Str.ofString "_law_number") s__law_number f fd) : FnOk G.P G.w G.K G.mg G.base (L2.CX G.P G.w) 3 f fd ["prime", "n", "d"] (spD G 3 false den__law_number) :=
  fn_mk (N := N__law_number) (t := _) (g := body__law_number) (own' := []) T.xi FF sc__law_number rfl fun X W F tk po =>
    (ss_cons T.xi (s_if (own' := []) (t_cmp F cr_eq (d_nm0 F n__law_number_0 v__law_number_0 (by decide)) d_int (nomark _)) (ss_one (s_ret (d_call F tk c__law_lowest (by decide) gl__law_number__law_lowest (a_cons (d_nm0 F n__law_number_1 v__law_number_1 (by decide)) (a_cons (d_nm0 F n__law_number_2 v__law_number_2 (by decide)) a_nil)) rfl (hlen := (len_cons (len_cons len_nil)))) rfl (by rfl))) (ss_nil (own' := []) (by rfl)) (by rfl)) (ss_cons T.xi (s_for (own' := []) (olp := []) F po (i_rng1 F gl__law_number_range T.b_range (a_cons (d_nm0 F n__law_number_0 v__law_number_0 (by decide)) a_nil)) (g_name F nd__law_number n__law_number_3 l__law_number_3 (Or.inl rfl) (by decide)) (ss_cons T.xi (s_if (own' := []) (t_cmp F cr_eq (d_mod (d_intC F gl__law_number_int T.b_int (a_cons (d_sub (d_mul (d_nm0 F n__law_number_3 v__law_number_3 (by decide)) (d_nm0 F n__law_number_2 v__law_number_2 (by decide))) (d_nm0 F n__law_number_1 v__law_number_1 (by decide))) a_nil)) (d_nm0 F n__law_number_0 v__law_number_0 (by decide))) d_int (nomark _)) (ss_one (s_ret (d_nm0 F n__law_number_3 v__law_number_3 (by decide)) rfl (by rfl))) (ss_nil (own' := []) (by rfl)) (by rfl)) (ss_nil (own' := []) (by rfl))) (by rfl) (by rfl) (by rfl)) (ss_one (s_ret d_int rfl (by rfl)))))
/-! ### _law_same -/
abbrev s__law_same : Stmt := topS 28
abbrev N__law_same : List PySem.Str := ["prime", "actual", "due", "part"]
theorem sc__law_same : FnScope N__law_same ["prime", "actual", "due"] (defScope s__law_same) := ⟨rfl, rfl, rfl, by decide +kernel, rfl, by decide +kernel, by decide +kernel⟩
theorem nd__law_same : (bodyS N__law_same s__law_same).N.Nodup := sc__law_same.nd
theorem n__law_same_0 : (bodyS N__law_same s__law_same).N[0]? = some (PySem.Str.ofString "prime") := rfl
theorem v__law_same_0 : Vis (bodyS N__law_same s__law_same).sc (PySem.Str.ofString "prime") := Or.inl (by decide +kernel)
theorem l__law_same_0 : L2.Loc (bodyS N__law_same s__law_same).sc (PySem.Str.ofString "prime") := Or.inl (by decide +kernel)
theorem l0__law_same_0 : (bodyS N__law_same s__law_same).sc.names.lookup (PySem.Str.ofString "prime") = some .local := by decide +kernel
theorem n__law_same_1 : (bodyS N__law_same s__law_same).N[1]? = some (PySem.Str.ofString "actual") := rfl
theorem v__law_same_1 : Vis (bodyS N__law_same s__law_same).sc (PySem.Str.ofString "actual") := Or.inl (by decide +kernel)
theorem l__law_same_1 : L2.Loc (bodyS N__law_same s__law_same).sc (PySem.Str.ofString "actual") := Or.inl (by decide +kernel)
theorem l0__law_same_1 : (bodyS N__law_same s__law_same).sc.names.lookup (PySem.Str.ofString "actual") = some .local := by decide +kernel
theorem n__law_same_2 : (bodyS N__law_same s__law_same).N[2]? = some (PySem.Str.ofString "due") := rfl
theorem v__law_same_2 : Vis (bodyS N__law_same s__law_same).sc (PySem.Str.ofString "due") := Or.inl (by decide +kernel)
theorem l__law_same_2 : L2.Loc (bodyS N__law_same s__law_same).sc (PySem.Str.ofString "due") := Or.inl (by decide +kernel)
theorem l0__law_same_2 : (bodyS N__law_same s__law_same).sc.names.lookup (PySem.Str.ofString "due") = some .local := by decide +kernel
theorem n__law_same_3 : (bodyS N__law_same s__law_same).N[3]? = some (PySem.Str.ofString "part") := rfl
theorem v__law_same_3 : Vis (bodyS N__law_same s__law_same).sc (PySem.Str.ofString "part") := Or.inl (by decide +kernel)
theorem l__law_same_3 : L2.Loc (bodyS N__law_same s__law_same).sc (PySem.Str.ofString "part") := Or.inl (by decide +kernel)
theorem l0__law_same_3 : (bodyS N__law_same s__law_same).sc.names.lookup (PySem.Str.ofString "part") = some .local := by decide +kernel
theorem gl__law_same_bool : (bodyS N__law_same s__law_same).sc.names.lookup (PySem.Str.ofString "bool") = some .globalImplicit := by decide +kernel
theorem gl__law_same_int : (bodyS N__law_same s__law_same).sc.names.lookup (PySem.Str.ofString "int") = some .globalImplicit := by decide +kernel
theorem gl__law_same_isinstance : (bodyS N__law_same s__law_same).sc.names.lookup (PySem.Str.ofString "isinstance") = some .globalImplicit := by decide +kernel
theorem gl__law_same_len : (bodyS N__law_same s__law_same).sc.names.lookup (PySem.Str.ofString "len") = some .globalImplicit := by decide +kernel
theorem gl__law_same_tuple : (bodyS N__law_same s__law_same).sc.names.lookup (PySem.Str.ofString "tuple") = some .globalImplicit := by decide +kernel
noncomputable def body__law_same : DEnv → Fl := seqF (ifF (toB (b2 gtD (nmD 0) (cD (.int 0)))) (retF (andV (u1 (isiD "int") (nmD 1)) (andV (u1 notD (u1 (isiD "bool") (nmD 1))) (b2 eqD (nmD 1) (nmD 2))))) (nxD)) (seqF (ifF (orB (notB (toT (u1 (isiD "tuple") (nmD 1)))) (toB (b2 neD (callF lenD (consA (nmD 1) (nilA))) (cD (.int 2))))) (retF (cD (.bl false))) (nxD)) (seqF (forF (itS (nmD 1)) (putD 3) (seqF (ifF (orB (notB (toT (u1 (isiD "int") (nmD 3)))) (toT (u1 (isiD "bool") (nmD 3)))) (retF (cD (.bl false))) (nxD)) (nxD))) (retF (b2 eqD (nmD 1) (nmD 2)))))
noncomputable def den__law_same : List D → R D := runD 4 body__law_same
theorem ok__law_same {G : Cfg} (T : Tp G)  {f : Addr} {fd : FuncData} (FF : Fun G.K (PySem.Str.ofString "_law_same") (PySem.Str.ofString "_law_same") s__law_same f fd) : FnOk G.P G.w G.K G.mg G.base (L2.CX G.P G.w) 1 f fd ["prime", "actual", "due"] (spD G 3 false den__law_same) :=
  fn_mk (N := N__law_same) (t := _) (g := body__law_same) (own' := []) T.xi FF sc__law_same rfl fun X W F tk po =>
    (ss_cons T.xi (s_if (own' := []) (t_cmp F cr_gt (d_nm0 F n__law_same_0 v__law_same_0 (by decide)) d_int (nomark _)) (ss_one (s_ret (d_and (d_isi F gl__law_same_isinstance T.b_isinstance gl__law_same_int T.b_int (by decide +kernel) (by decide +kernel) (d_nm0 F n__law_same_1 v__law_same_1 (by decide))) (d_and (d_not (d_isi F gl__law_same_isinstance T.b_isinstance gl__law_same_bool T.b_bool (by decide +kernel) (by decide +kernel) (d_nm0 F n__law_same_1 v__law_same_1 (by decide)))) (d_one (d_cmp F cr_eq (d_nm0 F n__law_same_1 v__law_same_1 (by decide)) (d_nm0 F n__law_same_2 v__law_same_2 (by decide)) (nomark _))))) rfl (by rfl))) (ss_nil (own' := []) (by rfl)) (by rfl)) (ss_cons T.xi (s_if (own' := []) (DW.dt (w_or (t_not (t_tru F (d_isi F gl__law_same_isinstance T.b_isinstance gl__law_same_tuple T.b_tuple (by decide +kernel) (by decide +kernel) (d_nm0 F n__law_same_1 v__law_same_1 (by decide))))) (w_or1 (t_cmp F cr_ne (d_len F gl__law_same_len T.b_len (a_cons (d_nm0 F n__law_same_1 v__law_same_1 (by decide)) a_nil)) d_int (nomark _))))) (ss_one (s_ret d_bl rfl (by rfl))) (ss_nil (own' := []) (by rfl)) (by rfl)) (ss_cons T.xi (s_for (own' := []) (olp := []) F po (i_seq F (d_nm0 F n__law_same_1 v__law_same_1 (by decide))) (g_name F nd__law_same n__law_same_3 l__law_same_3 (Or.inl rfl) (by decide)) (ss_cons T.xi (s_if (own' := []) (DW.dt (w_or (t_not (t_tru F (d_isi F gl__law_same_isinstance T.b_isinstance gl__law_same_int T.b_int (by decide +kernel) (by decide +kernel) (d_nm0 F n__law_same_3 v__law_same_3 (by decide))))) (w_or1 (t_tru F (d_isi F gl__law_same_isinstance T.b_isinstance gl__law_same_bool T.b_bool (by decide +kernel) (by decide +kernel) (d_nm0 F n__law_same_3 v__law_same_3 (by decide))))))) (ss_one (s_ret d_bl rfl (by rfl))) (ss_nil (own' := []) (by rfl)) (by rfl)) (ss_nil (own' := []) (by rfl))) (by rfl) (by rfl) (by rfl)) (ss_one (s_ret (d_cmp F cr_eq (d_nm0 F n__law_same_1 v__law_same_1 (by decide)) (d_nm0 F n__law_same_2 v__law_same_2 (by decide)) (nomark _)) rfl (by rfl))))))
/-! ### _law_pair -/
abbrev s__law_pair : Stmt := topS 29
abbrev N__law_pair : List PySem.Str := ["pool", "at", "prime", "wide", "n", "d"]
theorem sc__law_pair : FnScope N__law_pair ["pool", "at", "prime", "wide"] (defScope s__law_pair) := ⟨rfl, rfl, rfl, by decide +kernel, rfl, by decide +kernel, by decide +kernel⟩
theorem nd__law_pair : (bodyS N__law_pair s__law_pair).N.Nodup := sc__law_pair.nd
theorem n__law_pair_0 : (bodyS N__law_pair s__law_pair).N[0]? = some (PySem.Str.ofString "pool") := rfl
theorem v__law_pair_0 : Vis (bodyS N__law_pair s__law_pair).sc (PySem.Str.ofString "pool") := Or.inl (by decide +kernel)
theorem l__law_pair_0 : L2.Loc (bodyS N__law_pair s__law_pair).sc (PySem.Str.ofString "pool") := Or.inl (by decide +kernel)
theorem l0__law_pair_0 : (bodyS N__law_pair s__law_pair).sc.names.lookup (PySem.Str.ofString "pool") = some .local := by decide +kernel
theorem n__law_pair_1 : (bodyS N__law_pair s__law_pair).N[1]? = some (PySem.Str.ofString "at") := rfl
theorem v__law_pair_1 : Vis (bodyS N__law_pair s__law_pair).sc (PySem.Str.ofString "at") := Or.inl (by decide +kernel)
theorem l__law_pair_1 : L2.Loc (bodyS N__law_pair s__law_pair).sc (PySem.Str.ofString "at") := Or.inl (by decide +kernel)
theorem l0__law_pair_1 : (bodyS N__law_pair s__law_pair).sc.names.lookup (PySem.Str.ofString "at") = some .local := by decide +kernel
theorem n__law_pair_2 : (bodyS N__law_pair s__law_pair).N[2]? = some (PySem.Str.ofString "prime") := rfl
theorem v__law_pair_2 : Vis (bodyS N__law_pair s__law_pair).sc (PySem.Str.ofString "prime") := Or.inl (by decide +kernel)
theorem l__law_pair_2 : L2.Loc (bodyS N__law_pair s__law_pair).sc (PySem.Str.ofString "prime") := Or.inl (by decide +kernel)
theorem l0__law_pair_2 : (bodyS N__law_pair s__law_pair).sc.names.lookup (PySem.Str.ofString "prime") = some .local := by decide +kernel
theorem n__law_pair_3 : (bodyS N__law_pair s__law_pair).N[3]? = some (PySem.Str.ofString "wide") := rfl
theorem v__law_pair_3 : Vis (bodyS N__law_pair s__law_pair).sc (PySem.Str.ofString "wide") := Or.inl (by decide +kernel)
theorem l__law_pair_3 : L2.Loc (bodyS N__law_pair s__law_pair).sc (PySem.Str.ofString "wide") := Or.inl (by decide +kernel)
theorem l0__law_pair_3 : (bodyS N__law_pair s__law_pair).sc.names.lookup (PySem.Str.ofString "wide") = some .local := by decide +kernel
theorem n__law_pair_4 : (bodyS N__law_pair s__law_pair).N[4]? = some (PySem.Str.ofString "n") := rfl
theorem v__law_pair_4 : Vis (bodyS N__law_pair s__law_pair).sc (PySem.Str.ofString "n") := Or.inl (by decide +kernel)
theorem l__law_pair_4 : L2.Loc (bodyS N__law_pair s__law_pair).sc (PySem.Str.ofString "n") := Or.inl (by decide +kernel)
theorem l0__law_pair_4 : (bodyS N__law_pair s__law_pair).sc.names.lookup (PySem.Str.ofString "n") = some .local := by decide +kernel
theorem n__law_pair_5 : (bodyS N__law_pair s__law_pair).N[5]? = some (PySem.Str.ofString "d") := rfl
theorem v__law_pair_5 : Vis (bodyS N__law_pair s__law_pair).sc (PySem.Str.ofString "d") := Or.inl (by decide +kernel)
theorem l__law_pair_5 : L2.Loc (bodyS N__law_pair s__law_pair).sc (PySem.Str.ofString "d") := Or.inl (by decide +kernel)
theorem l0__law_pair_5 : (bodyS N__law_pair s__law_pair).sc.names.lookup (PySem.Str.ofString "d") = some .local := by decide +kernel
theorem gl__law_pair_int : (bodyS N__law_pair s__law_pair).sc.names.lookup (PySem.Str.ofString "int") = some .globalImplicit := by decide +kernel
noncomputable def body__law_pair : DEnv → Fl := seqF (setF 4 (ifV (toT (nmD 3)) (b2 subD (b2 addD (b2 mulD (b2 idxD (nmD 0) (nmD 1)) (cD (.int 1000))) (b2 idxD (nmD 0) (b2 addD (nmD 1) (cD (.int 1))))) (cD (.int 500000))) (b2 subD (b2 modD (b2 idxD (nmD 0) (nmD 1)) (cD (.int 601))) (cD (.int 300))))) (seqF (setF 5 (cD (.int 1))) (seqF (ifF (toB (b2 eqD (nmD 2) (cD (.int 0)))) (seqF (setF 5 (b2 addD (cD (.int 1)) (ifV (toT (nmD 3)) (b2 modD (callF intD (consA (b2 addD (b2 mulD (b2 idxD (nmD 0) (b2 addD (nmD 1) (cD (.int 1)))) (cD (.int 1000))) (b2 idxD (nmD 0) (b2 addD (nmD 1) (cD (.int 2))))) (nilA))) (cD (.int 999999))) (b2 modD (b2 idxD (nmD 0) (b2 addD (nmD 1) (cD (.int 1)))) (cD (.int 12)))))) (nxD)) (nxD)) (seqF (ifF (toB (b2 eqD (b2 modD (b2 idxD (nmD 0) (b2 addD (nmD 1) (cD (.int 2)))) (cD (.int 5))) (cD (.int 0)))) (seqF (setF 4 (cD (.int 0))) (nxD)) (nxD)) (retF (tupA (consA (nmD 4) (consA (nmD 5) (nilA))))))))
noncomputable def den__law_pair : List D → R D := runD 6 body__law_pair
theorem ok__law_pair {G : Cfg} (T : Tp G)  {f : Addr} {fd : FuncData} (FF : Fun G.K (PySem.Str.ofString "_law_pair") (PySem.Str.ofString "_law_pair") s__law_pair f fd) : FnOk G.P G.w G.K G.mg G.base (L2.CX G.P G.w) 1 f fd ["pool", "at", "prime", "wide"] (spD G 4 false den__law_pair) :=
  fn_mk (N := N__law_pair) (t := _) (g := body__law_pair) (own' := []) T.xi FF sc__law_pair rfl fun X W F tk po =>
    (ss_cons T.xi (s_set (own' := []) F nd__law_pair n__law_pair_4 l__law_pair_4 (Or.inl rfl) (d_if (t_tru F (d_nm0 F n__law_pair_3 v__law_pair_3 (by decide))) (d_sub (d_add F (d_mul (d_ixN F n__law_pair_0 v__law_pair_0 (d_nm0 F n__law_pair_1 v__law_pair_1 (by decide))) d_int) (d_ixN F n__law_pair_0 v__law_pair_0 (d_add F (d_nm0 F n__law_pair_1 v__law_pair_1 (by decide)) d_int))) d_int) (d_sub (d_mod (d_ixN F n__law_pair_0 v__law_pair_0 (d_nm0 F n__law_pair_1 v__law_pair_1 (by decide))) d_int) d_int)) (by rfl) (by rfl)) (ss_cons T.xi (s_set (own' := []) F nd__law_pair n__law_pair_5 l__law_pair_5 (Or.inl rfl) d_int (by rfl) (by rfl)) (ss_cons T.xi (s_if (own' := []) (t_cmp F cr_eq (d_nm0 F n__law_pair_2 v__law_pair_2 (by decide)) d_int (nomark _)) (ss_cons T.xi (s_set (own' := []) F nd__law_pair n__law_pair_5 l__law_pair_5 (Or.inl rfl) (d_add F d_int (d_if (t_tru F (d_nm0 F n__law_pair_3 v__law_pair_3 (by decide))) (d_mod (d_intC F gl__law_pair_int T.b_int (a_cons (d_add F (d_mul (d_ixN F n__law_pair_0 v__law_pair_0 (d_add F (d_nm0 F n__law_pair_1 v__law_pair_1 (by decide)) d_int)) d_int) (d_ixN F n__law_pair_0 v__law_pair_0 (d_add F (d_nm0 F n__law_pair_1 v__law_pair_1 (by decide)) d_int))) a_nil)) d_int) (d_mod (d_ixN F n__law_pair_0 v__law_pair_0 (d_add F (d_nm0 F n__law_pair_1 v__law_pair_1 (by decide)) d_int)) d_int))) (by rfl) (by rfl)) (ss_nil (own' := []) (by rfl))) (ss_nil (own' := []) (by rfl)) (by rfl)) (ss_cons T.xi (s_if (own' := []) (t_cmp F cr_eq (d_mod (d_ixN F n__law_pair_0 v__law_pair_0 (d_add F (d_nm0 F n__law_pair_1 v__law_pair_1 (by decide)) d_int)) d_int) d_int (nomark _)) (ss_cons T.xi (s_set (own' := []) F nd__law_pair n__law_pair_4 l__law_pair_4 (Or.inl rfl) d_int (by rfl) (by rfl)) (ss_nil (own' := []) (by rfl))) (ss_nil (own' := []) (by rfl)) (by rfl)) (ss_one (s_ret (d_tup (a_cons (d_nm0 F n__law_pair_4 v__law_pair_4 (by decide)) (a_cons (d_nm0 F n__law_pair_5 v__law_pair_5 (by decide)) a_nil))) rfl (by rfl)))))))
/-! ### _law_no_inverse -/
abbrev s__law_no_inverse : Stmt := topS 30
abbrev N__law_no_inverse : List PySem.Str := ["prime", "zero", "number", "raised", "e"]
theorem sc__law_no_inverse : FnScope N__law_no_inverse ["prime", "zero", "number"] (defScope s__law_no_inverse) := ⟨rfl, rfl, rfl, by decide +kernel, rfl, by decide +kernel, by decide +kernel⟩
theorem nd__law_no_inverse : (bodyS N__law_no_inverse s__law_no_inverse).N.Nodup := sc__law_no_inverse.nd
theorem n__law_no_inverse_0 : (bodyS N__law_no_inverse s__law_no_inverse).N[0]? = some (PySem.Str.ofString "prime") := rfl
theorem v__law_no_inverse_0 : Vis (bodyS N__law_no_inverse s__law_no_inverse).sc (PySem.Str.ofString "prime") := Or.inl (by decide +kernel)
theorem l__law_no_inverse_0 : L2.Loc (bodyS N__law_no_inverse s__law_no_inverse).sc (PySem.Str.ofString "prime") := Or.inl (by decide +kernel)
theorem l0__law_no_inverse_0 : (bodyS N__law_no_inverse s__law_no_inverse).sc.names.lookup (PySem.Str.ofString "prime") = some .local := by decide +kernel
theorem n__law_no_inverse_1 : (bodyS N__law_no_inverse s__law_no_inverse).N[1]? = some (PySem.Str.ofString "zero") := rfl
theorem v__law_no_inverse_1 : Vis (bodyS N__law_no_inverse s__law_no_inverse).sc (PySem.Str.ofString "zero") := Or.inl (by decide +kernel)
theorem l__law_no_inverse_1 : L2.Loc (bodyS N__law_no_inverse s__law_no_inverse).sc (PySem.Str.ofString "zero") := Or.inl (by decide +kernel)
theorem l0__law_no_inverse_1 : (bodyS N__law_no_inverse s__law_no_inverse).sc.names.lookup (PySem.Str.ofString "zero") = some .local := by decide +kernel
theorem n__law_no_inverse_2 : (bodyS N__law_no_inverse s__law_no_inverse).N[2]? = some (PySem.Str.ofString "number") := rfl
theorem v__law_no_inverse_2 : Vis (bodyS N__law_no_inverse s__law_no_inverse).sc (PySem.Str.ofString "number") := Or.inl (by decide +kernel)
theorem l__law_no_inverse_2 : L2.Loc (bodyS N__law_no_inverse s__law_no_inverse).sc (PySem.Str.ofString "number") := Or.inl (by decide +kernel)
theorem l0__law_no_inverse_2 : (bodyS N__law_no_inverse s__law_no_inverse).sc.names.lookup (PySem.Str.ofString "number") = some .local := by decide +kernel
theorem n__law_no_inverse_3 : (bodyS N__law_no_inverse s__law_no_inverse).N[3]? = some (PySem.Str.ofString "raised") := rfl
theorem v__law_no_inverse_3 : Vis (bodyS N__law_no_inverse s__law_no_inverse).sc (PySem.Str.ofString "raised") := Or.inl (by decide +kernel)
theorem l__law_no_inverse_3 : L2.Loc (bodyS N__law_no_inverse s__law_no_inverse).sc (PySem.Str.ofString "raised") := Or.inl (by decide +kernel)
theorem l0__law_no_inverse_3 : (bodyS N__law_no_inverse s__law_no_inverse).sc.names.lookup (PySem.Str.ofString "raised") = some .local := by decide +kernel
theorem n__law_no_inverse_4 : (bodyS N__law_no_inverse s__law_no_inverse).N[4]? = some (PySem.Str.ofString "e") := rfl
theorem v__law_no_inverse_4 : Vis (bodyS N__law_no_inverse s__law_no_inverse).sc (PySem.Str.ofString "e") := Or.inl (by decide +kernel)
theorem l__law_no_inverse_4 : L2.Loc (bodyS N__law_no_inverse s__law_no_inverse).sc (PySem.Str.ofString "e") := Or.inl (by decide +kernel)
theorem l0__law_no_inverse_4 : (bodyS N__law_no_inverse s__law_no_inverse).sc.names.lookup (PySem.Str.ofString "e") = some .local := by decide +kernel
theorem gl__law_no_inverse_GridError : (bodyS N__law_no_inverse s__law_no_inverse).sc.names.lookup (PySem.Str.ofString "GridError") = some .globalImplicit := by decide +kernel
theorem gl__law_no_inverse_InvalidField : (bodyS N__law_no_inverse s__law_no_inverse).sc.names.lookup (PySem.Str.ofString "InvalidField") = some .globalImplicit := by decide +kernel
theorem gl__law_no_inverse_InvalidNumber : (bodyS N__law_no_inverse s__law_no_inverse).sc.names.lookup (PySem.Str.ofString "InvalidNumber") = some .globalImplicit := by decide +kernel
theorem gl__law_no_inverse_NoInverse : (bodyS N__law_no_inverse s__law_no_inverse).sc.names.lookup (PySem.Str.ofString "NoInverse") = some .globalImplicit := by decide +kernel
theorem gl__law_no_inverse_ValueError : (bodyS N__law_no_inverse s__law_no_inverse).sc.names.lookup (PySem.Str.ofString "ValueError") = some .globalImplicit := by decide +kernel
theorem gl__law_no_inverse_divide : (bodyS N__law_no_inverse s__law_no_inverse).sc.names.lookup (PySem.Str.ofString "divide") = some .globalImplicit := by decide +kernel
theorem gl__law_no_inverse_int : (bodyS N__law_no_inverse s__law_no_inverse).sc.names.lookup (PySem.Str.ofString "int") = some .globalImplicit := by decide +kernel
theorem gl__law_no_inverse_invert : (bodyS N__law_no_inverse s__law_no_inverse).sc.names.lookup (PySem.Str.ofString "invert") = some .globalImplicit := by decide +kernel
theorem gl__law_no_inverse_isinstance : (bodyS N__law_no_inverse s__law_no_inverse).sc.names.lookup (PySem.Str.ofString "isinstance") = some .globalImplicit := by decide +kernel
theorem gl__law_no_inverse_ratio_of : (bodyS N__law_no_inverse s__law_no_inverse).sc.names.lookup (PySem.Str.ofString "ratio_of") = some .globalImplicit := by decide +kernel
noncomputable def body__law_no_inverse : DEnv → Fl := seqF (setF 3 (cD (.int 0))) (seqF (tryF 4 [("NoInverse", true)] (seqF (dropF (callF den_invert (consA (nmD 0) (consA (nmD 1) (nilA))))) (nxD)) (fun nm => setF 3 (b2 addD (nmD 3) (callF intD (consA (andV (isE [("NoInverse", true)] nm) (u1 notD (isE [("NoInverse", false)] nm))) (nilA)))))) (seqF (tryF 4 [("NoInverse", true)] (seqF (dropF (callF den_divide (consA (nmD 0) (consA (nmD 2) (consA (nmD 1) (nilA)))))) (nxD)) (fun nm => setF 3 (b2 addD (nmD 3) (callF intD (consA (isE [("NoInverse", true)] nm) (nilA)))))) (seqF (tryOF [("NoInverse", true)] (seqF (dropF (callF den_ratio_of (consA (nmD 0) (consA (cD (.int 7)) (consA (cD (.int 0)) (nilA)))))) (nxD)) (setF 3 (b2 addD (nmD 3) (cD (.int 1))))) (retF (b2 eqD (nmD 3) (cD (.int 3)))))))
noncomputable def den__law_no_inverse : List D → R D := runD 5 body__law_no_inverse
theorem ok__law_no_inverse {G : Cfg} (T : Tp G) (c_invert : FnD G 2 (PySem.Str.ofString "invert") 2 false den_invert) (c_divide : FnD G 3 (PySem.Str.ofString "divide") 3 false den_divide) (c_ratio_of : FnD G 4 (PySem.Str.ofString "ratio_of") 3 false den_ratio_of) {f : Addr} {fd : FuncData} (FF : Fun G.K (PySem.Str.ofString "_law_no_inverse") (PySem.Str.ofString "_law_no_inverse") s__law_no_inverse f fd) : FnOk G.P G.w G.K G.mg G.base (L2.CX G.P G.w) 5 f fd ["prime", "zero", "number"] (spD G 3 false den__law_no_inverse) :=
  fn_mk (N := N__law_no_inverse) (t := _) (g := body__law_no_inverse) (own' := []) T.xi FF sc__law_no_inverse rfl fun X W F tk po =>
    (ss_cons T.xi (s_set (own' := []) F nd__law_no_inverse n__law_no_inverse_3 l__law_no_inverse_3 (Or.inl rfl) d_int (by rfl) (by rfl)) (ss_cons T.xi (s_tryAs (own' := []) (oh := []) (ms := [("NoInverse", true)]) F tk nd__law_no_inverse n__law_no_inverse_4 l0__law_no_inverse_4 T.e_NoInverse gl__law_no_inverse_NoInverse (by simp only [List.forall_mem_cons]; exact ⟨⟨_, T.e_NoInverse.cv, T.e_NoInverse.ec, T.x_NoInverse_NoInverse⟩, by simp⟩) (fun X1 W1 F1 tk1 => (ss_cons T.xi (s_expr (own' := []) (d_call F1 tk1 c_invert (by decide) gl__law_no_inverse_invert (a_cons (d_nm0 F1 n__law_no_inverse_0 v__law_no_inverse_0 (by decide)) (a_cons (d_nm0 F1 n__law_no_inverse_1 v__law_no_inverse_1 (by decide)) a_nil)) rfl (hlen := (len_cons (len_cons len_nil)))) (by rfl) (by rfl)) (ss_nil (own' := []) (by rfl)))) (fun X1 a1 D1 nm F1 hnm HH => (ss_one (s_set (own' := []) F1 nd__law_no_inverse n__law_no_inverse_3 l__law_no_inverse_3 (Or.inl rfl) (d_add F1 (d_nm0 F1 n__law_no_inverse_3 v__law_no_inverse_3 (by decide)) (d_intC F1 gl__law_no_inverse_int T.b_int (a_cons (d_and (d_isE (tbl := [("NoInverse", true)]) F1 HH hnm gl__law_no_inverse_isinstance T.b_isinstance n__law_no_inverse_4 v__law_no_inverse_4 (clsTy (T := "ValueError") gl__law_no_inverse_ValueError T.b_ValueError (by decide +kernel)) (by simp only [List.forall_mem_cons]; exact ⟨T.k1_NoInverse_ValueError, by simp⟩)) (d_one (d_not (d_isE2 (tbl := [("NoInverse", false)]) F1 HH hnm gl__law_no_inverse_isinstance T.b_isinstance n__law_no_inverse_4 v__law_no_inverse_4 (clsOwn gl__law_no_inverse_InvalidField T.e_InvalidField.gC) (clsOwn gl__law_no_inverse_InvalidNumber T.e_InvalidNumber.gC) (by simp only [List.forall_mem_cons]; exact ⟨T.k2_NoInverse_InvalidField_InvalidNumber, by simp⟩))))) a_nil))) (by rfl) (by rfl)))) (by decide) (by decide) (by decide) (by rfl)) (ss_cons T.xi (s_tryAs (own' := []) (oh := []) (ms := [("NoInverse", true)]) F tk nd__law_no_inverse n__law_no_inverse_4 l0__law_no_inverse_4 T.e_GridError gl__law_no_inverse_GridError (by simp only [List.forall_mem_cons]; exact ⟨⟨_, T.e_NoInverse.cv, T.e_NoInverse.ec, T.x_NoInverse_GridError⟩, by simp⟩) (fun X1 W1 F1 tk1 => (ss_cons T.xi (s_expr (own' := []) (d_call F1 tk1 c_divide (by decide) gl__law_no_inverse_divide (a_cons (d_nm0 F1 n__law_no_inverse_0 v__law_no_inverse_0 (by decide)) (a_cons (d_nm0 F1 n__law_no_inverse_2 v__law_no_inverse_2 (by decide)) (a_cons (d_nm0 F1 n__law_no_inverse_1 v__law_no_inverse_1 (by decide)) a_nil))) rfl (hlen := (len_cons (len_cons (len_cons len_nil))))) (by rfl) (by rfl)) (ss_nil (own' := []) (by rfl)))) (fun X1 a1 D1 nm F1 hnm HH => (ss_one (s_set (own' := []) F1 nd__law_no_inverse n__law_no_inverse_3 l__law_no_inverse_3 (Or.inl rfl) (d_add F1 (d_nm0 F1 n__law_no_inverse_3 v__law_no_inverse_3 (by decide)) (d_intC F1 gl__law_no_inverse_int T.b_int (a_cons (d_isE (tbl := [("NoInverse", true)]) F1 HH hnm gl__law_no_inverse_isinstance T.b_isinstance n__law_no_inverse_4 v__law_no_inverse_4 (clsOwn gl__law_no_inverse_NoInverse T.e_NoInverse.gC) (by simp only [List.forall_mem_cons]; exact ⟨T.k1_NoInverse_NoInverse, by simp⟩)) a_nil))) (by rfl) (by rfl)))) (by decide) (by decide) (by decide) (by rfl)) (ss_cons T.xi (s_tryOnly (own' := []) (oh := []) (ms := [("NoInverse", true)]) F tk T.e_NoInverse gl__law_no_inverse_NoInverse (by simp only [List.forall_mem_cons]; exact ⟨(T.e_NoInverse.cv ▸ T.x_NoInverse_NoInverse), by simp⟩) (fun X1 W1 F1 tk1 => (ss_cons T.xi (s_expr (own' := []) (d_call F1 tk1 c_ratio_of (by decide) gl__law_no_inverse_ratio_of (a_cons (d_nm0 F1 n__law_no_inverse_0 v__law_no_inverse_0 (by decide)) (a_cons d_int (a_cons d_int a_nil))) rfl (hlen := (len_cons (len_cons (len_cons len_nil))))) (by rfl) (by rfl)) (ss_nil (own' := []) (by rfl)))) (fun X1 F1 => (ss_one (s_set (own' := []) F1 nd__law_no_inverse n__law_no_inverse_3 l__law_no_inverse_3 (Or.inl rfl) (d_add F1 (d_nm0 F1 n__law_no_inverse_3 v__law_no_inverse_3 (by decide)) d_int) (by rfl) (by rfl)))) (by rfl)) (ss_one (s_ret (d_cmp F cr_eq (d_nm0 F n__law_no_inverse_3 v__law_no_inverse_3 (by decide)) d_int (nomark _)) rfl (by rfl)))))))
/-! ### _law_rows -/
abbrev s__law_rows : Stmt := topS 31
abbrev N__law_rows : List PySem.Str := ["prime", "firsts", "seconds", "factor", "row", "other", "scale", "kept", "made", "k", "n", "d", "due", "a", "b"]
theorem sc__law_rows : FnScope N__law_rows ["prime", "firsts", "seconds", "factor"] (defScope s__law_rows) := ⟨rfl, rfl, rfl, by decide +kernel, rfl, by decide +kernel, by decide +kernel⟩
theorem nd__law_rows : (bodyS N__law_rows s__law_rows).N.Nodup := sc__law_rows.nd
theorem n__law_rows_0 : (bodyS N__law_rows s__law_rows).N[0]? = some (PySem.Str.ofString "prime") := rfl
theorem v__law_rows_0 : Vis (bodyS N__law_rows s__law_rows).sc (PySem.Str.ofString "prime") := Or.inr (Or.inl (by decide +kernel))
theorem l__law_rows_0 : L2.Loc (bodyS N__law_rows s__law_rows).sc (PySem.Str.ofString "prime") := Or.inr (by decide +kernel)
theorem n__law_rows_1 : (bodyS N__law_rows s__law_rows).N[1]? = some (PySem.Str.ofString "firsts") := rfl
theorem v__law_rows_1 : Vis (bodyS N__law_rows s__law_rows).sc (PySem.Str.ofString "firsts") := Or.inl (by decide +kernel)
theorem l__law_rows_1 : L2.Loc (bodyS N__law_rows s__law_rows).sc (PySem.Str.ofString "firsts") := Or.inl (by decide +kernel)
theorem l0__law_rows_1 : (bodyS N__law_rows s__law_rows).sc.names.lookup (PySem.Str.ofString "firsts") = some .local := by decide +kernel
theorem n__law_rows_2 : (bodyS N__law_rows s__law_rows).N[2]? = some (PySem.Str.ofString "seconds") := rfl
theorem v__law_rows_2 : Vis (bodyS N__law_rows s__law_rows).sc (PySem.Str.ofString "seconds") := Or.inl (by decide +kernel)
theorem l__law_rows_2 : L2.Loc (bodyS N__law_rows s__law_rows).sc (PySem.Str.ofString "seconds") := Or.inl (by decide +kernel)
theorem l0__law_rows_2 : (bodyS N__law_rows s__law_rows).sc.names.lookup (PySem.Str.ofString "seconds") = some .local := by decide +kernel
theorem n__law_rows_3 : (bodyS N__law_rows s__law_rows).N[3]? = some (PySem.Str.ofString "factor") := rfl
theorem v__law_rows_3 : Vis (bodyS N__law_rows s__law_rows).sc (PySem.Str.ofString "factor") := Or.inl (by decide +kernel)
theorem l__law_rows_3 : L2.Loc (bodyS N__law_rows s__law_rows).sc (PySem.Str.ofString "factor") := Or.inl (by decide +kernel)
theorem l0__law_rows_3 : (bodyS N__law_rows s__law_rows).sc.names.lookup (PySem.Str.ofString "factor") = some .local := by decide +kernel
theorem n__law_rows_4 : (bodyS N__law_rows s__law_rows).N[4]? = some (PySem.Str.ofString "row") := rfl
theorem v__law_rows_4 : Vis (bodyS N__law_rows s__law_rows).sc (PySem.Str.ofString "row") := Or.inl (by decide +kernel)
theorem l__law_rows_4 : L2.Loc (bodyS N__law_rows s__law_rows).sc (PySem.Str.ofString "row") := Or.inl (by decide +kernel)
theorem l0__law_rows_4 : (bodyS N__law_rows s__law_rows).sc.names.lookup (PySem.Str.ofString "row") = some .local := by decide +kernel
theorem n__law_rows_5 : (bodyS N__law_rows s__law_rows).N[5]? = some (PySem.Str.ofString "other") := rfl
theorem v__law_rows_5 : Vis (bodyS N__law_rows s__law_rows).sc (PySem.Str.ofString "other") := Or.inl (by decide +kernel)
theorem l__law_rows_5 : L2.Loc (bodyS N__law_rows s__law_rows).sc (PySem.Str.ofString "other") := Or.inl (by decide +kernel)
theorem l0__law_rows_5 : (bodyS N__law_rows s__law_rows).sc.names.lookup (PySem.Str.ofString "other") = some .local := by decide +kernel
theorem n__law_rows_6 : (bodyS N__law_rows s__law_rows).N[6]? = some (PySem.Str.ofString "scale") := rfl
theorem v__law_rows_6 : Vis (bodyS N__law_rows s__law_rows).sc (PySem.Str.ofString "scale") := Or.inl (by decide +kernel)
theorem l__law_rows_6 : L2.Loc (bodyS N__law_rows s__law_rows).sc (PySem.Str.ofString "scale") := Or.inl (by decide +kernel)
theorem l0__law_rows_6 : (bodyS N__law_rows s__law_rows).sc.names.lookup (PySem.Str.ofString "scale") = some .local := by decide +kernel
theorem n__law_rows_7 : (bodyS N__law_rows s__law_rows).N[7]? = some (PySem.Str.ofString "kept") := rfl
theorem v__law_rows_7 : Vis (bodyS N__law_rows s__law_rows).sc (PySem.Str.ofString "kept") := Or.inl (by decide +kernel)
theorem l__law_rows_7 : L2.Loc (bodyS N__law_rows s__law_rows).sc (PySem.Str.ofString "kept") := Or.inl (by decide +kernel)
theorem l0__law_rows_7 : (bodyS N__law_rows s__law_rows).sc.names.lookup (PySem.Str.ofString "kept") = some .local := by decide +kernel
theorem n__law_rows_8 : (bodyS N__law_rows s__law_rows).N[8]? = some (PySem.Str.ofString "made") := rfl
theorem v__law_rows_8 : Vis (bodyS N__law_rows s__law_rows).sc (PySem.Str.ofString "made") := Or.inl (by decide +kernel)
theorem l__law_rows_8 : L2.Loc (bodyS N__law_rows s__law_rows).sc (PySem.Str.ofString "made") := Or.inl (by decide +kernel)
theorem l0__law_rows_8 : (bodyS N__law_rows s__law_rows).sc.names.lookup (PySem.Str.ofString "made") = some .local := by decide +kernel
theorem n__law_rows_9 : (bodyS N__law_rows s__law_rows).N[9]? = some (PySem.Str.ofString "k") := rfl
theorem v__law_rows_9 : Vis (bodyS N__law_rows s__law_rows).sc (PySem.Str.ofString "k") := Or.inl (by decide +kernel)
theorem l__law_rows_9 : L2.Loc (bodyS N__law_rows s__law_rows).sc (PySem.Str.ofString "k") := Or.inl (by decide +kernel)
theorem l0__law_rows_9 : (bodyS N__law_rows s__law_rows).sc.names.lookup (PySem.Str.ofString "k") = some .local := by decide +kernel
theorem n__law_rows_10 : (bodyS N__law_rows s__law_rows).N[10]? = some (PySem.Str.ofString "n") := rfl
theorem v__law_rows_10 : Vis (bodyS N__law_rows s__law_rows).sc (PySem.Str.ofString "n") := Or.inl (by decide +kernel)
theorem l__law_rows_10 : L2.Loc (bodyS N__law_rows s__law_rows).sc (PySem.Str.ofString "n") := Or.inl (by decide +kernel)
theorem l0__law_rows_10 : (bodyS N__law_rows s__law_rows).sc.names.lookup (PySem.Str.ofString "n") = some .local := by decide +kernel
theorem n__law_rows_11 : (bodyS N__law_rows s__law_rows).N[11]? = some (PySem.Str.ofString "d") := rfl
theorem v__law_rows_11 : Vis (bodyS N__law_rows s__law_rows).sc (PySem.Str.ofString "d") := Or.inl (by decide +kernel)
theorem l__law_rows_11 : L2.Loc (bodyS N__law_rows s__law_rows).sc (PySem.Str.ofString "d") := Or.inl (by decide +kernel)
theorem l0__law_rows_11 : (bodyS N__law_rows s__law_rows).sc.names.lookup (PySem.Str.ofString "d") = some .local := by decide +kernel
theorem n__law_rows_12 : (bodyS N__law_rows s__law_rows).N[12]? = some (PySem.Str.ofString "due") := rfl
theorem v__law_rows_12 : Vis (bodyS N__law_rows s__law_rows).sc (PySem.Str.ofString "due") := Or.inl (by decide +kernel)
theorem l__law_rows_12 : L2.Loc (bodyS N__law_rows s__law_rows).sc (PySem.Str.ofString "due") := Or.inl (by decide +kernel)
theorem l0__law_rows_12 : (bodyS N__law_rows s__law_rows).sc.names.lookup (PySem.Str.ofString "due") = some .local := by decide +kernel
theorem n__law_rows_13 : (bodyS N__law_rows s__law_rows).N[13]? = some (PySem.Str.ofString "a") := rfl
theorem v__law_rows_13 : Vis (bodyS N__law_rows s__law_rows).sc (PySem.Str.ofString "a") := Or.inl (by decide +kernel)
theorem l__law_rows_13 : L2.Loc (bodyS N__law_rows s__law_rows).sc (PySem.Str.ofString "a") := Or.inl (by decide +kernel)
theorem l0__law_rows_13 : (bodyS N__law_rows s__law_rows).sc.names.lookup (PySem.Str.ofString "a") = some .local := by decide +kernel
theorem n__law_rows_14 : (bodyS N__law_rows s__law_rows).N[14]? = some (PySem.Str.ofString "b") := rfl
theorem v__law_rows_14 : Vis (bodyS N__law_rows s__law_rows).sc (PySem.Str.ofString "b") := Or.inl (by decide +kernel)
theorem l__law_rows_14 : L2.Loc (bodyS N__law_rows s__law_rows).sc (PySem.Str.ofString "b") := Or.inl (by decide +kernel)
theorem l0__law_rows_14 : (bodyS N__law_rows s__law_rows).sc.names.lookup (PySem.Str.ofString "b") = some .local := by decide +kernel
theorem gl__law_rows__law_number : (bodyS N__law_rows s__law_rows).sc.names.lookup (PySem.Str.ofString "_law_number") = some .globalImplicit := by decide +kernel
theorem gl__law_rows__law_same : (bodyS N__law_rows s__law_rows).sc.names.lookup (PySem.Str.ofString "_law_same") = some .globalImplicit := by decide +kernel
theorem gl__law_rows_dot : (bodyS N__law_rows s__law_rows).sc.names.lookup (PySem.Str.ofString "dot") = some .globalImplicit := by decide +kernel
theorem gl__law_rows_isinstance : (bodyS N__law_rows s__law_rows).sc.names.lookup (PySem.Str.ofString "isinstance") = some .globalImplicit := by decide +kernel
theorem gl__law_rows_len : (bodyS N__law_rows s__law_rows).sc.names.lookup (PySem.Str.ofString "len") = some .globalImplicit := by decide +kernel
theorem gl__law_rows_list : (bodyS N__law_rows s__law_rows).sc.names.lookup (PySem.Str.ofString "list") = some .globalImplicit := by decide +kernel
theorem gl__law_rows_range : (bodyS N__law_rows s__law_rows).sc.names.lookup (PySem.Str.ofString "range") = some .globalImplicit := by decide +kernel
theorem gl__law_rows_shifted : (bodyS N__law_rows s__law_rows).sc.names.lookup (PySem.Str.ofString "shifted") = some .globalImplicit := by decide +kernel
noncomputable def body__law_rows : DEnv → Fl := seqF (setF 4 (lcD [10, 11] (itS (nmD 1)) (tupT (consT (putD 10) (consT (putD 11) (nilT)))) (yesB) (callF den__law_number (consA (nmD 0) (consA (nmD 10) (consA (nmD 11) (nilA))))))) (seqF (setF 5 (lcD [10, 11] (itS (nmD 2)) (tupT (consT (putD 10) (consT (putD 11) (nilT)))) (yesB) (callF den__law_number (consA (nmD 0) (consA (nmD 10) (consA (nmD 11) (nilA))))))) (seqF (setF 6 (callF den__law_number (consA (nmD 0) (consA (b2 idxD (nmD 3) (cD (.int 0))) (consA (b2 idxD (nmD 3) (cD (.int 1))) (nilA)))))) (seqF (setF 7 (lstA (consA (callF listD (consA (nmD 4) (nilA))) (consA (callF listD (consA (nmD 5) (nilA))) (nilA))))) (seqF (setF 8 (callF den_shifted (consA (nmD 0) (consA (nmD 4) (consA (nmD 6) (consA (nmD 5) (nilA))))))) (seqF (ifF (orB (notB (toT (u1 (isiD "list") (nmD 8)))) (orB (toB (b2 neD (callF lenD (consA (nmD 8) (nilA))) (callF lenD (consA (nmD 4) (nilA))))) (toB (b2 neD (lstA (consA (nmD 4) (consA (nmD 5) (nilA)))) (nmD 7))))) (retF (cD (.bl false))) (nxD)) (seqF (asgF (tupA (consA (cD (.int 0)) (consA (cD (.int 1)) (nilA)))) (tupT (consT (putD 10) (consT (putD 11) (nilT))))) (seqF (forF (rng1 (consA (callF lenD (consA (nmD 4) (nilA))) (nilA))) (putD 9) (seqF (parF 13 14 (consA (b2 idxD (nmD 1) (nmD 9)) (consA (b2 idxD (nmD 2) (nmD 9)) (nilA)))) (seqF (setF 12 (tupA (consA (b2 addD (b2 mulD (b2 mulD (b2 idxD (nmD 13) (cD (.int 0))) (b2 idxD (nmD 3) (cD (.int 1)))) (b2 idxD (nmD 14) (cD (.int 1)))) (b2 mulD (b2 mulD (b2 idxD (nmD 3) (cD (.int 0))) (b2 idxD (nmD 14) (cD (.int 0)))) (b2 idxD (nmD 13) (cD (.int 1))))) (consA (b2 mulD (b2 mulD (b2 idxD (nmD 13) (cD (.int 1))) (b2 idxD (nmD 3) (cD (.int 1)))) (b2 idxD (nmD 14) (cD (.int 1)))) (nilA))))) (seqF (ifF (notB (toT (callF den__law_same (consA (nmD 0) (consA (b2 idxD (nmD 8) (nmD 9)) (consA (callF den__law_number (consA (nmD 0) (consA (b2 idxD (nmD 12) (cD (.int 0))) (consA (b2 idxD (nmD 12) (cD (.int 1))) (nilA))))) (nilA))))))) (retF (cD (.bl false))) (nxD)) (seqF (parF 10 11 (consA (b2 addD (b2 mulD (b2 mulD (nmD 10) (b2 idxD (nmD 13) (cD (.int 1)))) (b2 idxD (nmD 14) (cD (.int 1)))) (b2 mulD (b2 mulD (b2 idxD (nmD 13) (cD (.int 0))) (b2 idxD (nmD 14) (cD (.int 0)))) (nmD 11))) (consA (b2 mulD (b2 mulD (nmD 11) (b2 idxD (nmD 13) (cD (.int 1)))) (b2 idxD (nmD 14) (cD (.int 1)))) (nilA)))) (nxD)))))) (retF (andV (callF den__law_same (consA (nmD 0) (consA (callF den_dot (consA (nmD 0) (consA (nmD 4) (consA (nmD 5) (nilA))))) (consA (callF den__law_number (consA (nmD 0) (consA (nmD 10) (consA (nmD 11) (nilA))))) (nilA))))) (b2 eqD (lstA (consA (nmD 4) (consA (nmD 5) (nilA)))) (nmD 7)))))))))))
noncomputable def den__law_rows : List D → R D := runD 15 body__law_rows
theorem ok__law_rows {G : Cfg} (T : Tp G) (c_shifted : FnD G 3 (PySem.Str.ofString "shifted") 4 false den_shifted) (c_dot : FnD G 3 (PySem.Str.ofString "dot") 3 false den_dot) (c__law_number : FnD G 3 (PySem.Str.ofString "_law_number") 3 false den__law_number) (c__law_same : FnD G 1 (PySem.Str.ofString "_law_same") 3 false den__law_same) {f : Addr} {fd : FuncData} (FF : Fun G.K (PySem.Str.ofString "_law_rows") (PySem.Str.ofString "_law_rows") s__law_rows f fd) : FnOk G.P G.w G.K G.mg G.base (L2.CX G.P G.w) 4 f fd ["prime", "firsts", "seconds", "factor"] (spD G 4 false den__law_rows) :=
  fn_mk (N := N__law_rows) (t := _) (g := body__law_rows) (own' := []) T.xi FF sc__law_rows rfl fun X W F tk po =>
    (ss_cons T.xi (s_setLcF (own' := []) (bo := [((PySem.Str.ofString "n"), 10), ((PySem.Str.ofString "d"), 11)]) F nd__law_rows n__law_rows_4 l0__law_rows_4 (by decide +kernel) (i_seq F (d_nm0 F n__law_rows_1 v__law_rows_1 (by decide))) (fun X1 F1 => (g_tup F1 (gs_cons (g_name F1 nd__law_rows n__law_rows_10 (Or.inl rfl) (Or.inr rfl) (by decide)) (gs_cons (g_name F1 nd__law_rows n__law_rows_11 (Or.inl rfl) (Or.inr rfl) (by decide)) gs_nil)) rfl (hl := (lenT_cons (lenT_cons lenT_nil))))) (fun X1 F1 tk1 => ts_nil) (fun X1 F1 tk1 => (d_call F1 tk1 c__law_number (by decide) (by rfl) (a_cons (d_nm0 F1 n__law_rows_0 (Or.inr (Or.inl rfl)) (by decide)) (a_cons (d_nm0 F1 n__law_rows_10 (Or.inl rfl) (by decide)) (a_cons (d_nm0 F1 n__law_rows_11 (Or.inl rfl) (by decide)) a_nil))) rfl (hlen := (len_cons (len_cons (len_cons len_nil)))))) (by decide) (by decide) (by rfl) (by rfl) (by rfl) (by decide +kernel)) (ss_cons T.xi (s_setLcF (own' := [4]) (bo := [((PySem.Str.ofString "n"), 10), ((PySem.Str.ofString "d"), 11)]) F nd__law_rows n__law_rows_5 l0__law_rows_5 (by decide +kernel) (i_seq F (d_nm0 F n__law_rows_2 v__law_rows_2 (by decide))) (fun X1 F1 => (g_tup F1 (gs_cons (g_name F1 nd__law_rows n__law_rows_10 (Or.inl rfl) (Or.inr rfl) (by decide)) (gs_cons (g_name F1 nd__law_rows n__law_rows_11 (Or.inl rfl) (Or.inr rfl) (by decide)) gs_nil)) rfl (hl := (lenT_cons (lenT_cons lenT_nil))))) (fun X1 F1 tk1 => ts_nil) (fun X1 F1 tk1 => (d_call F1 tk1 c__law_number (by decide) (by rfl) (a_cons (d_nm0 F1 n__law_rows_0 (Or.inr (Or.inl rfl)) (by decide)) (a_cons (d_nm0 F1 n__law_rows_10 (Or.inl rfl) (by decide)) (a_cons (d_nm0 F1 n__law_rows_11 (Or.inl rfl) (by decide)) a_nil))) rfl (hlen := (len_cons (len_cons (len_cons len_nil)))))) (by decide) (by decide) (by rfl) (by rfl) (by rfl) (by decide +kernel)) (ss_cons T.xi (s_set (own' := [5, 4]) F nd__law_rows n__law_rows_6 l__law_rows_6 (Or.inl rfl) (d_call F tk c__law_number (by decide) gl__law_rows__law_number (a_cons (d_nm0 F n__law_rows_0 v__law_rows_0 (by decide)) (a_cons (d_ixN F n__law_rows_3 v__law_rows_3 d_int) (a_cons (d_ixN F n__law_rows_3 v__law_rows_3 d_int) a_nil))) rfl (hlen := (len_cons (len_cons (len_cons len_nil))))) (by rfl) (by rfl)) (ss_cons T.xi (s_set (own' := []) F nd__law_rows n__law_rows_7 l__law_rows_7 (Or.inl rfl) (DF.de (d_lst (a_cons (DF.de (d_list F gl__law_rows_list T.b_list (a_cons (d_nm F n__law_rows_4 v__law_rows_4) a_nil))) (a_cons (DF.de (d_list F gl__law_rows_list T.b_list (a_cons (d_nm F n__law_rows_5 v__law_rows_5) a_nil))) a_nil)))) (by rfl) (by rfl)) (ss_cons T.xi (s_set (own' := []) F nd__law_rows n__law_rows_8 l__law_rows_8 (Or.inl rfl) (d_call F tk c_shifted (by decide) gl__law_rows_shifted (a_cons (d_nm0 F n__law_rows_0 v__law_rows_0 (by decide)) (a_cons (d_nm0 F n__law_rows_4 v__law_rows_4 (by decide)) (a_cons (d_nm0 F n__law_rows_6 v__law_rows_6 (by decide)) (a_cons (d_nm0 F n__law_rows_5 v__law_rows_5 (by decide)) a_nil)))) rfl (hlen := (len_cons (len_cons (len_cons (len_cons len_nil)))))) (by rfl) (by rfl)) (ss_cons T.xi (s_if (own' := []) (DW.dt (w_or (t_not (t_tru F (d_isi F gl__law_rows_isinstance T.b_isinstance gl__law_rows_list T.b_list (by decide +kernel) (by decide +kernel) (d_nm0 F n__law_rows_8 v__law_rows_8 (by decide))))) (w_or (t_cmp F cr_ne (d_len F gl__law_rows_len T.b_len (a_cons (d_nm0 F n__law_rows_8 v__law_rows_8 (by decide)) a_nil)) (d_len F gl__law_rows_len T.b_len (a_cons (d_nm0 F n__law_rows_4 v__law_rows_4 (by decide)) a_nil)) (nomark _)) (w_or1 (t_cmp F cr_ne (DF.de (d_lst (a_cons (d_nm0 F n__law_rows_4 v__law_rows_4 (by decide)) (a_cons (d_nm0 F n__law_rows_5 v__law_rows_5 (by decide)) a_nil)))) (d_nm0 F n__law_rows_7 v__law_rows_7 (by decide)) (nomark _)))))) (ss_one (s_ret d_bl rfl (by rfl))) (ss_nil (own' := []) (by rfl)) (by rfl)) (ss_cons T.xi (s_asg (own' := []) (d_tup (a_cons d_int (a_cons d_int a_nil))) (g_tup F (gs_cons (g_name F nd__law_rows n__law_rows_10 l__law_rows_10 (Or.inl rfl) (by decide)) (gs_cons (g_name F nd__law_rows n__law_rows_11 l__law_rows_11 (Or.inl rfl) (by decide)) gs_nil)) rfl (hl := (lenT_cons (lenT_cons lenT_nil)))) (by rfl) (by rfl) (hw := sws_none (by rfl) (by rfl))) (ss_cons T.xi (s_for (own' := []) (olp := []) F po (i_rng1 F gl__law_rows_range T.b_range (a_cons (d_len F gl__law_rows_len T.b_len (a_cons (d_nm0 F n__law_rows_4 v__law_rows_4 (by decide)) a_nil)) a_nil)) (g_name F nd__law_rows n__law_rows_9 l__law_rows_9 (Or.inl rfl) (by decide)) (ss_cons T.xi (s_par (own' := []) F nd__law_rows n__law_rows_13 n__law_rows_14 (by decide) l0__law_rows_13 l0__law_rows_14 (a_cons (d_ixN F n__law_rows_1 v__law_rows_1 (d_nm0 F n__law_rows_9 v__law_rows_9 (by decide))) (a_cons (d_ixN F n__law_rows_2 v__law_rows_2 (d_nm0 F n__law_rows_9 v__law_rows_9 (by decide))) a_nil)) (by rfl) (by rfl) (sws_some F.sc (by rfl) (by decide +kernel) (by rfl) (by rfl))) (ss_cons T.xi (s_set (own' := []) F nd__law_rows n__law_rows_12 l__law_rows_12 (Or.inl rfl) (d_tup (a_cons (d_add F (d_mul (d_mul (d_ixN F n__law_rows_13 v__law_rows_13 d_int) (d_ixN F n__law_rows_3 v__law_rows_3 d_int)) (d_ixN F n__law_rows_14 v__law_rows_14 d_int)) (d_mul (d_mul (d_ixN F n__law_rows_3 v__law_rows_3 d_int) (d_ixN F n__law_rows_14 v__law_rows_14 d_int)) (d_ixN F n__law_rows_13 v__law_rows_13 d_int))) (a_cons (d_mul (d_mul (d_ixN F n__law_rows_13 v__law_rows_13 d_int) (d_ixN F n__law_rows_3 v__law_rows_3 d_int)) (d_ixN F n__law_rows_14 v__law_rows_14 d_int)) a_nil))) (by rfl) (by rfl)) (ss_cons T.xi (s_if (own' := []) (t_not (t_tru F (d_call F tk c__law_same (by decide) gl__law_rows__law_same (a_cons (d_nm0 F n__law_rows_0 v__law_rows_0 (by decide)) (a_cons (d_ixN F n__law_rows_8 v__law_rows_8 (d_nm0 F n__law_rows_9 v__law_rows_9 (by decide))) (a_cons (d_call F tk c__law_number (by decide) gl__law_rows__law_number (a_cons (d_nm0 F n__law_rows_0 v__law_rows_0 (by decide)) (a_cons (d_ixN F n__law_rows_12 v__law_rows_12 d_int) (a_cons (d_ixN F n__law_rows_12 v__law_rows_12 d_int) a_nil))) rfl (hlen := (len_cons (len_cons (len_cons len_nil))))) a_nil))) rfl (hlen := (len_cons (len_cons (len_cons len_nil))))))) (ss_one (s_ret d_bl rfl (by rfl))) (ss_nil (own' := []) (by rfl)) (by rfl)) (ss_cons T.xi (s_par (own' := []) F nd__law_rows n__law_rows_10 n__law_rows_11 (by decide) l0__law_rows_10 l0__law_rows_11 (a_cons (d_add F (d_mul (d_mul (d_nm0 F n__law_rows_10 v__law_rows_10 (by decide)) (d_ixN F n__law_rows_13 v__law_rows_13 d_int)) (d_ixN F n__law_rows_14 v__law_rows_14 d_int)) (d_mul (d_mul (d_ixN F n__law_rows_13 v__law_rows_13 d_int) (d_ixN F n__law_rows_14 v__law_rows_14 d_int)) (d_nm0 F n__law_rows_11 v__law_rows_11 (by decide)))) (a_cons (d_mul (d_mul (d_nm0 F n__law_rows_11 v__law_rows_11 (by decide)) (d_ixN F n__law_rows_13 v__law_rows_13 d_int)) (d_ixN F n__law_rows_14 v__law_rows_14 d_int)) a_nil)) (by rfl) (by rfl) (sws_some F.sc (by rfl) (by decide +kernel) (by rfl) (by rfl))) (ss_nil (own' := []) (by rfl)))))) (by rfl) (by rfl) (by rfl)) (ss_one (s_ret (d_and (d_call F tk c__law_same (by decide) gl__law_rows__law_same (a_cons (d_nm0 F n__law_rows_0 v__law_rows_0 (by decide)) (a_cons (d_call F tk c_dot (by decide) gl__law_rows_dot (a_cons (d_nm0 F n__law_rows_0 v__law_rows_0 (by decide)) (a_cons (d_nm0 F n__law_rows_4 v__law_rows_4 (by decide)) (a_cons (d_nm0 F n__law_rows_5 v__law_rows_5 (by decide)) a_nil))) rfl (hlen := (len_cons (len_cons (len_cons len_nil))))) (a_cons (d_call F tk c__law_number (by decide) gl__law_rows__law_number (a_cons (d_nm0 F n__law_rows_0 v__law_rows_0 (by decide)) (a_cons (d_nm0 F n__law_rows_10 v__law_rows_10 (by decide)) (a_cons (d_nm0 F n__law_rows_11 v__law_rows_11 (by decide)) a_nil))) rfl (hlen := (len_cons (len_cons (len_cons len_nil))))) a_nil))) rfl (hlen := (len_cons (len_cons (len_cons len_nil))))) (d_one (d_cmp F cr_eq (DF.de (d_lst (a_cons (d_nm0 F n__law_rows_4 v__law_rows_4 (by decide)) (a_cons (d_nm0 F n__law_rows_5 v__law_rows_5 (by decide)) a_nil)))) (d_nm0 F n__law_rows_7 v__law_rows_7 (by decide)) (nomark _)))) rfl (by rfl)))))))))))
/-! ### _law_fields -/
abbrev s__law_fields : Stmt := topS 32
abbrev N__law_fields : List PySem.Str := ["n", "raised", "e"]
theorem sc__law_fields : FnScope N__law_fields ["n"] (defScope s__law_fields) := ⟨rfl, rfl, rfl, by decide +kernel, rfl, by decide +kernel, by decide +kernel⟩
theorem nd__law_fields : (bodyS N__law_fields s__law_fields).N.Nodup := sc__law_fields.nd
theorem n__law_fields_0 : (bodyS N__law_fields s__law_fields).N[0]? = some (PySem.Str.ofString "n") := rfl
theorem v__law_fields_0 : Vis (bodyS N__law_fields s__law_fields).sc (PySem.Str.ofString "n") := Or.inl (by decide +kernel)
theorem l__law_fields_0 : L2.Loc (bodyS N__law_fields s__law_fields).sc (PySem.Str.ofString "n") := Or.inl (by decide +kernel)
theorem l0__law_fields_0 : (bodyS N__law_fields s__law_fields).sc.names.lookup (PySem.Str.ofString "n") = some .local := by decide +kernel
theorem n__law_fields_1 : (bodyS N__law_fields s__law_fields).N[1]? = some (PySem.Str.ofString "raised") := rfl
theorem v__law_fields_1 : Vis (bodyS N__law_fields s__law_fields).sc (PySem.Str.ofString "raised") := Or.inl (by decide +kernel)
theorem l__law_fields_1 : L2.Loc (bodyS N__law_fields s__law_fields).sc (PySem.Str.ofString "raised") := Or.inl (by decide +kernel)
theorem l0__law_fields_1 : (bodyS N__law_fields s__law_fields).sc.names.lookup (PySem.Str.ofString "raised") = some .local := by decide +kernel
theorem n__law_fields_2 : (bodyS N__law_fields s__law_fields).N[2]? = some (PySem.Str.ofString "e") := rfl
theorem v__law_fields_2 : Vis (bodyS N__law_fields s__law_fields).sc (PySem.Str.ofString "e") := Or.inl (by decide +kernel)
theorem l__law_fields_2 : L2.Loc (bodyS N__law_fields s__law_fields).sc (PySem.Str.ofString "e") := Or.inl (by decide +kernel)
theorem l0__law_fields_2 : (bodyS N__law_fields s__law_fields).sc.names.lookup (PySem.Str.ofString "e") = some .local := by decide +kernel
theorem gl__law_fields_GridError : (bodyS N__law_fields s__law_fields).sc.names.lookup (PySem.Str.ofString "GridError") = some .globalImplicit := by decide +kernel
theorem gl__law_fields_InvalidField : (bodyS N__law_fields s__law_fields).sc.names.lookup (PySem.Str.ofString "InvalidField") = some .globalImplicit := by decide +kernel
theorem gl__law_fields_InvalidNumber : (bodyS N__law_fields s__law_fields).sc.names.lookup (PySem.Str.ofString "InvalidNumber") = some .globalImplicit := by decide +kernel
theorem gl__law_fields_NoInverse : (bodyS N__law_fields s__law_fields).sc.names.lookup (PySem.Str.ofString "NoInverse") = some .globalImplicit := by decide +kernel
theorem gl__law_fields_ValueError : (bodyS N__law_fields s__law_fields).sc.names.lookup (PySem.Str.ofString "ValueError") = some .globalImplicit := by decide +kernel
theorem gl__law_fields_check_field : (bodyS N__law_fields s__law_fields).sc.names.lookup (PySem.Str.ofString "check_field") = some .globalImplicit := by decide +kernel
theorem gl__law_fields_isinstance : (bodyS N__law_fields s__law_fields).sc.names.lookup (PySem.Str.ofString "isinstance") = some .globalImplicit := by decide +kernel
noncomputable def body__law_fields : DEnv → Fl := seqF (setF 1 (cD (.bl false))) (seqF (tryF 2 [("InvalidField", true)] (seqF (dropF (callF den_check_field (consA (nmD 0) (nilA)))) (nxD)) (fun nm => setF 1 (andV (isE [("InvalidField", true)] nm) (andV (isE [("InvalidField", true)] nm) (u1 notD (isE [("InvalidField", false)] nm)))))) (retF (b2 eqD (nmD 1) (b2 ninD (nmD 0) (tupA (consA (cD (.int 0)) (consA (cD (.int 2)) (consA (cD (.int 3)) (consA (cD (.int 5)) (consA (cD (.int 7)) (consA (cD (.int 11)) (nilA))))))))))))
noncomputable def den__law_fields : List D → R D := runD 3 body__law_fields
theorem ok__law_fields {G : Cfg} (T : Tp G) (c_check_field : FnD G 1 (PySem.Str.ofString "check_field") 1 false den_check_field) {f : Addr} {fd : FuncData} (FF : Fun G.K (PySem.Str.ofString "_law_fields") (PySem.Str.ofString "_law_fields") s__law_fields f fd) : FnOk G.P G.w G.K G.mg G.base (L2.CX G.P G.w) 2 f fd ["n"] (spD G 1 false den__law_fields) :=
  fn_mk (N := N__law_fields) (t := _) (g := body__law_fields) (own' := []) T.xi FF sc__law_fields rfl fun X W F tk po =>
    (ss_cons T.xi (s_set (own' := []) F nd__law_fields n__law_fields_1 l__law_fields_1 (Or.inl rfl) d_bl (by rfl) (by rfl)) (ss_cons T.xi (s_tryAs (own' := []) (oh := []) (ms := [("InvalidField", true)]) F tk nd__law_fields n__law_fields_2 l0__law_fields_2 T.e_InvalidField gl__law_fields_InvalidField (by simp only [List.forall_mem_cons]; exact ⟨⟨_, T.e_InvalidField.cv, T.e_InvalidField.ec, T.x_InvalidField_InvalidField⟩, by simp⟩) (fun X1 W1 F1 tk1 => (ss_cons T.xi (s_expr (own' := []) (d_call F1 tk1 c_check_field (by decide) gl__law_fields_check_field (a_cons (d_nm0 F1 n__law_fields_0 v__law_fields_0 (by decide)) a_nil) rfl (hlen := (len_cons len_nil))) (by rfl) (by rfl)) (ss_nil (own' := []) (by rfl)))) (fun X1 a1 D1 nm F1 hnm HH => (ss_one (s_set (own' := []) F1 nd__law_fields n__law_fields_1 l__law_fields_1 (Or.inl rfl) (d_and (d_isE (tbl := [("InvalidField", true)]) F1 HH hnm gl__law_fields_isinstance T.b_isinstance n__law_fields_2 v__law_fields_2 (clsOwn gl__law_fields_GridError T.e_GridError.gC) (by simp only [List.forall_mem_cons]; exact ⟨T.k1_InvalidField_GridError, by simp⟩)) (d_and (d_isE (tbl := [("InvalidField", true)]) F1 HH hnm gl__law_fields_isinstance T.b_isinstance n__law_fields_2 v__law_fields_2 (clsTy (T := "ValueError") gl__law_fields_ValueError T.b_ValueError (by decide +kernel)) (by simp only [List.forall_mem_cons]; exact ⟨T.k1_InvalidField_ValueError, by simp⟩)) (d_one (d_not (d_isE2 (tbl := [("InvalidField", false)]) F1 HH hnm gl__law_fields_isinstance T.b_isinstance n__law_fields_2 v__law_fields_2 (clsOwn gl__law_fields_NoInverse T.e_NoInverse.gC) (clsOwn gl__law_fields_InvalidNumber T.e_InvalidNumber.gC) (by simp only [List.forall_mem_cons]; exact ⟨T.k2_InvalidField_NoInverse_InvalidNumber, by simp⟩)))))) (by rfl) (by rfl)))) (by decide) (by decide) (by decide) (by rfl)) (ss_one (s_ret (d_cmp F cr_eq (d_nm0 F n__law_fields_1 v__law_fields_1 (by decide)) (d_cmp F cr_nin (d_nm0 F n__law_fields_0 v__law_fields_0 (by decide)) (d_tup (a_cons d_int (a_cons d_int (a_cons d_int (a_cons d_int (a_cons d_int (a_cons d_int a_nil))))))) (by rfl)) (nomark _)) rfl (by rfl)))))
/-! ### _law_kinds -/
abbrev s__law_kinds : Stmt := topS 33
abbrev N__law_kinds : List PySem.Str := ["prime", "number", "n", "within"]
theorem sc__law_kinds : FnScope N__law_kinds ["prime", "number", "n"] (defScope s__law_kinds) := ⟨rfl, rfl, rfl, by decide +kernel, rfl, by decide +kernel, by decide +kernel⟩
theorem nd__law_kinds : (bodyS N__law_kinds s__law_kinds).N.Nodup := sc__law_kinds.nd
theorem n__law_kinds_0 : (bodyS N__law_kinds s__law_kinds).N[0]? = some (PySem.Str.ofString "prime") := rfl
theorem v__law_kinds_0 : Vis (bodyS N__law_kinds s__law_kinds).sc (PySem.Str.ofString "prime") := Or.inl (by decide +kernel)
theorem l__law_kinds_0 : L2.Loc (bodyS N__law_kinds s__law_kinds).sc (PySem.Str.ofString "prime") := Or.inl (by decide +kernel)
theorem l0__law_kinds_0 : (bodyS N__law_kinds s__law_kinds).sc.names.lookup (PySem.Str.ofString "prime") = some .local := by decide +kernel
theorem n__law_kinds_1 : (bodyS N__law_kinds s__law_kinds).N[1]? = some (PySem.Str.ofString "number") := rfl
theorem v__law_kinds_1 : Vis (bodyS N__law_kinds s__law_kinds).sc (PySem.Str.ofString "number") := Or.inl (by decide +kernel)
theorem l__law_kinds_1 : L2.Loc (bodyS N__law_kinds s__law_kinds).sc (PySem.Str.ofString "number") := Or.inl (by decide +kernel)
theorem l0__law_kinds_1 : (bodyS N__law_kinds s__law_kinds).sc.names.lookup (PySem.Str.ofString "number") = some .local := by decide +kernel
theorem n__law_kinds_2 : (bodyS N__law_kinds s__law_kinds).N[2]? = some (PySem.Str.ofString "n") := rfl
theorem v__law_kinds_2 : Vis (bodyS N__law_kinds s__law_kinds).sc (PySem.Str.ofString "n") := Or.inl (by decide +kernel)
theorem l__law_kinds_2 : L2.Loc (bodyS N__law_kinds s__law_kinds).sc (PySem.Str.ofString "n") := Or.inl (by decide +kernel)
theorem l0__law_kinds_2 : (bodyS N__law_kinds s__law_kinds).sc.names.lookup (PySem.Str.ofString "n") = some .local := by decide +kernel
theorem n__law_kinds_3 : (bodyS N__law_kinds s__law_kinds).N[3]? = some (PySem.Str.ofString "within") := rfl
theorem v__law_kinds_3 : Vis (bodyS N__law_kinds s__law_kinds).sc (PySem.Str.ofString "within") := Or.inl (by decide +kernel)
theorem l__law_kinds_3 : L2.Loc (bodyS N__law_kinds s__law_kinds).sc (PySem.Str.ofString "within") := Or.inl (by decide +kernel)
theorem l0__law_kinds_3 : (bodyS N__law_kinds s__law_kinds).sc.names.lookup (PySem.Str.ofString "within") = some .local := by decide +kernel
theorem gl__law_kinds_bool : (bodyS N__law_kinds s__law_kinds).sc.names.lookup (PySem.Str.ofString "bool") = some .globalImplicit := by decide +kernel
theorem gl__law_kinds_is_number : (bodyS N__law_kinds s__law_kinds).sc.names.lookup (PySem.Str.ofString "is_number") = some .globalImplicit := by decide +kernel
theorem gl__law_kinds_isinstance : (bodyS N__law_kinds s__law_kinds).sc.names.lookup (PySem.Str.ofString "isinstance") = some .globalImplicit := by decide +kernel
noncomputable def body__law_kinds : DEnv → Fl := seqF (ifF (orB (toB (b2 notBD (callF den_is_number (consA (nmD 0) (consA (tupA (nilA)) (nilA)))) (cD (.bl false)))) (toB (b2 notBD (callF den_is_number (consA (nmD 0) (consA (tupA (consA (cD (.int 1)) (consA (cD (.int 1)) (consA (cD (.int 1)) (nilA))))) (nilA)))) (cD (.bl false))))) (retF (cD (.bl false))) (nxD)) (seqF (ifF (toB (b2 gtD (nmD 0) (cD (.int 0)))) (seqF (ifF (orB (toB (b2 notBD (callF den_is_number (consA (nmD 0) (consA (nmD 1) (nilA)))) (cD (.bl true)))) (toB (b2 notBD (callF den_is_number (consA (nmD 0) (consA (nmD 0) (nilA)))) (cD (.bl false))))) (retF (cD (.bl false))) (nxD)) (seqF (setF 3 (callF den_is_number (consA (nmD 0) (consA (nmD 2) (nilA))))) (retF (andV (u1 (isiD "bool") (nmD 3)) (andV (b2 eqD (nmD 3) (chainD leD ltD (cD (.int 0)) (nmD 2) (nmD 0))) (b2 isBD (callF den_is_number (consA (nmD 0) (consA (tupA (consA (nmD 1) (consA (cD (.int 1)) (nilA)))) (nilA)))) (cD (.bl false)))))))) (nxD)) (seqF (ifF (orB (toB (b2 notBD (callF den_is_number (consA (cD (.int 0)) (consA (nmD 1) (nilA)))) (cD (.bl true)))) (toB (b2 notBD (callF den_is_number (consA (cD (.int 0)) (consA (nmD 2) (nilA)))) (cD (.bl false))))) (retF (cD (.bl false))) (nxD)) (seqF (ifF (orB (toB (b2 notBD (callF den_is_number (consA (cD (.int 0)) (consA (tupA (consA (b2 mulD (cD (.int 2)) (b2 idxD (nmD 1) (cD (.int 0)))) (consA (b2 mulD (cD (.int 2)) (b2 idxD (nmD 1) (cD (.int 1)))) (nilA)))) (nilA)))) (cD (.bl false)))) (toB (b2 notBD (callF den_is_number (consA (cD (.int 0)) (consA (tupA (consA (b2 idxD (nmD 1) (cD (.int 0))) (consA (cD (.int 0)) (nilA)))) (nilA)))) (cD (.bl false))))) (retF (cD (.bl false))) (nxD)) (retF (andV (b2 isBD (callF den_is_number (consA (cD (.int 0)) (consA (tupA (consA (u1 negD (b2 idxD (nmD 1) (cD (.int 0)))) (consA (u1 negD (b2 idxD (nmD 1) (cD (.int 1)))) (nilA)))) (nilA)))) (cD (.bl false))) (b2 isBD (callF den_is_number (consA (cD (.int 0)) (consA (tupA (consA (b2 idxD (nmD 1) (cD (.int 0))) (nilA))) (nilA)))) (cD (.bl false))))))))
noncomputable def den__law_kinds : List D → R D := runD 4 body__law_kinds
theorem ok__law_kinds {G : Cfg} (T : Tp G) (c_is_number : FnD G 2 (PySem.Str.ofString "is_number") 2 false den_is_number) {f : Addr} {fd : FuncData} (FF : Fun G.K (PySem.Str.ofString "_law_kinds") (PySem.Str.ofString "_law_kinds") s__law_kinds f fd) : FnOk G.P G.w G.K G.mg G.base (L2.CX G.P G.w) 3 f fd ["prime", "number", "n"] (spD G 3 false den__law_kinds) :=
  fn_mk (N := N__law_kinds) (t := _) (g := body__law_kinds) (own' := []) T.xi FF sc__law_kinds rfl fun X W F tk po =>
    (ss_cons T.xi (s_if (own' := []) (DW.dt (w_or (t_cmp F cr_notB (d_call F tk c_is_number (by decide) gl__law_kinds_is_number (a_cons (d_nm0 F n__law_kinds_0 v__law_kinds_0 (by decide)) (a_cons (d_tup a_nil) a_nil)) rfl (hlen := (len_cons (len_cons len_nil)))) d_bl (nomark _)) (w_or1 (t_cmp F cr_notB (d_call F tk c_is_number (by decide) gl__law_kinds_is_number (a_cons (d_nm0 F n__law_kinds_0 v__law_kinds_0 (by decide)) (a_cons (d_tup (a_cons d_int (a_cons d_int (a_cons d_int a_nil)))) a_nil)) rfl (hlen := (len_cons (len_cons len_nil)))) d_bl (nomark _))))) (ss_one (s_ret d_bl rfl (by rfl))) (ss_nil (own' := []) (by rfl)) (by rfl)) (ss_cons T.xi (s_if (own' := []) (t_cmp F cr_gt (d_nm0 F n__law_kinds_0 v__law_kinds_0 (by decide)) d_int (nomark _)) (ss_cons T.xi (s_if (own' := []) (DW.dt (w_or (t_cmp F cr_notB (d_call F tk c_is_number (by decide) gl__law_kinds_is_number (a_cons (d_nm0 F n__law_kinds_0 v__law_kinds_0 (by decide)) (a_cons (d_nm0 F n__law_kinds_1 v__law_kinds_1 (by decide)) a_nil)) rfl (hlen := (len_cons (len_cons len_nil)))) d_bl (nomark _)) (w_or1 (t_cmp F cr_notB (d_call F tk c_is_number (by decide) gl__law_kinds_is_number (a_cons (d_nm0 F n__law_kinds_0 v__law_kinds_0 (by decide)) (a_cons (d_nm0 F n__law_kinds_0 v__law_kinds_0 (by decide)) a_nil)) rfl (hlen := (len_cons (len_cons len_nil)))) d_bl (nomark _))))) (ss_one (s_ret d_bl rfl (by rfl))) (ss_nil (own' := []) (by rfl)) (by rfl)) (ss_cons T.xi (s_set (own' := []) F nd__law_kinds n__law_kinds_3 l__law_kinds_3 (Or.inl rfl) (d_call F tk c_is_number (by decide) gl__law_kinds_is_number (a_cons (d_nm0 F n__law_kinds_0 v__law_kinds_0 (by decide)) (a_cons (d_nm0 F n__law_kinds_2 v__law_kinds_2 (by decide)) a_nil)) rfl (hlen := (len_cons (len_cons len_nil)))) (by rfl) (by rfl)) (ss_one (s_ret (d_and (d_isi F gl__law_kinds_isinstance T.b_isinstance gl__law_kinds_bool T.b_bool (by decide +kernel) (by decide +kernel) (d_nm0 F n__law_kinds_3 v__law_kinds_3 (by decide))) (d_and (d_cmp F cr_eq (d_nm0 F n__law_kinds_3 v__law_kinds_3 (by decide)) (d_chain F cr_le cr_lt d_int (d_nm0 F n__law_kinds_2 v__law_kinds_2 (by decide)) (d_nm0 F n__law_kinds_0 v__law_kinds_0 (by decide))) (nomark _)) (d_one (d_cmp F cr_isB (d_call F tk c_is_number (by decide) gl__law_kinds_is_number (a_cons (d_nm0 F n__law_kinds_0 v__law_kinds_0 (by decide)) (a_cons (d_tup (a_cons (d_nm0 F n__law_kinds_1 v__law_kinds_1 (by decide)) (a_cons d_int a_nil))) a_nil)) rfl (hlen := (len_cons (len_cons len_nil)))) d_bl (nomark _))))) rfl (by rfl))))) (ss_nil (own' := []) (by rfl)) (by rfl)) (ss_cons T.xi (s_if (own' := []) (DW.dt (w_or (t_cmp F cr_notB (d_call F tk c_is_number (by decide) gl__law_kinds_is_number (a_cons d_int (a_cons (d_nm0 F n__law_kinds_1 v__law_kinds_1 (by decide)) a_nil)) rfl (hlen := (len_cons (len_cons len_nil)))) d_bl (nomark _)) (w_or1 (t_cmp F cr_notB (d_call F tk c_is_number (by decide) gl__law_kinds_is_number (a_cons d_int (a_cons (d_nm0 F n__law_kinds_2 v__law_kinds_2 (by decide)) a_nil)) rfl (hlen := (len_cons (len_cons len_nil)))) d_bl (nomark _))))) (ss_one (s_ret d_bl rfl (by rfl))) (ss_nil (own' := []) (by rfl)) (by rfl)) (ss_cons T.xi (s_if (own' := []) (DW.dt (w_or (t_cmp F cr_notB (d_call F tk c_is_number (by decide) gl__law_kinds_is_number (a_cons d_int (a_cons (d_tup (a_cons (d_mul d_int (d_ixN F n__law_kinds_1 v__law_kinds_1 d_int)) (a_cons (d_mul d_int (d_ixN F n__law_kinds_1 v__law_kinds_1 d_int)) a_nil))) a_nil)) rfl (hlen := (len_cons (len_cons len_nil)))) d_bl (nomark _)) (w_or1 (t_cmp F cr_notB (d_call F tk c_is_number (by decide) gl__law_kinds_is_number (a_cons d_int (a_cons (d_tup (a_cons (d_ixN F n__law_kinds_1 v__law_kinds_1 d_int) (a_cons d_int a_nil))) a_nil)) rfl (hlen := (len_cons (len_cons len_nil)))) d_bl (nomark _))))) (ss_one (s_ret d_bl rfl (by rfl))) (ss_nil (own' := []) (by rfl)) (by rfl)) (ss_one (s_ret (d_and (d_cmp F cr_isB (d_call F tk c_is_number (by decide) gl__law_kinds_is_number (a_cons d_int (a_cons (d_tup (a_cons (d_neg (d_ixN F n__law_kinds_1 v__law_kinds_1 d_int)) (a_cons (d_neg (d_ixN F n__law_kinds_1 v__law_kinds_1 d_int)) a_nil))) a_nil)) rfl (hlen := (len_cons (len_cons len_nil)))) d_bl (nomark _)) (d_one (d_cmp F cr_isB (d_call F tk c_is_number (by decide) gl__law_kinds_is_number (a_cons d_int (a_cons (d_tup (a_cons (d_ixN F n__law_kinds_1 v__law_kinds_1 d_int) a_nil)) a_nil)) rfl (hlen := (len_cons (len_cons len_nil)))) d_bl (nomark _)))) rfl (by rfl)))))))
/-! ### law -/
abbrev s_law : Stmt := topS 34
abbrev N_law : List PySem.Str := ["script", "pool", "prime", "power", "n", "due", "less", "k", "zero", "firsts", "seconds", "wide", "long", "a", "b", "x", "y", "d"]
theorem sc_law : FnScope N_law ["script"] (defScope s_law) := ⟨rfl, rfl, rfl, by decide +kernel, rfl, by decide +kernel, by decide +kernel⟩
theorem nd_law : (bodyS N_law s_law).N.Nodup := sc_law.nd
theorem n_law_0 : (bodyS N_law s_law).N[0]? = some (PySem.Str.ofString "script") := rfl
theorem v_law_0 : Vis (bodyS N_law s_law).sc (PySem.Str.ofString "script") := Or.inl (by decide +kernel)
theorem l_law_0 : L2.Loc (bodyS N_law s_law).sc (PySem.Str.ofString "script") := Or.inl (by decide +kernel)
theorem l0_law_0 : (bodyS N_law s_law).sc.names.lookup (PySem.Str.ofString "script") = some .local := by decide +kernel
theorem n_law_1 : (bodyS N_law s_law).N[1]? = some (PySem.Str.ofString "pool") := rfl
theorem v_law_1 : Vis (bodyS N_law s_law).sc (PySem.Str.ofString "pool") := Or.inr (Or.inl (by decide +kernel))
theorem l_law_1 : L2.Loc (bodyS N_law s_law).sc (PySem.Str.ofString "pool") := Or.inr (by decide +kernel)
theorem n_law_2 : (bodyS N_law s_law).N[2]? = some (PySem.Str.ofString "prime") := rfl
theorem v_law_2 : Vis (bodyS N_law s_law).sc (PySem.Str.ofString "prime") := Or.inr (Or.inl (by decide +kernel))
theorem l_law_2 : L2.Loc (bodyS N_law s_law).sc (PySem.Str.ofString "prime") := Or.inr (by decide +kernel)
theorem n_law_3 : (bodyS N_law s_law).N[3]? = some (PySem.Str.ofString "power") := rfl
theorem v_law_3 : Vis (bodyS N_law s_law).sc (PySem.Str.ofString "power") := Or.inl (by decide +kernel)
theorem l_law_3 : L2.Loc (bodyS N_law s_law).sc (PySem.Str.ofString "power") := Or.inl (by decide +kernel)
theorem l0_law_3 : (bodyS N_law s_law).sc.names.lookup (PySem.Str.ofString "power") = some .local := by decide +kernel
theorem n_law_4 : (bodyS N_law s_law).N[4]? = some (PySem.Str.ofString "n") := rfl
theorem v_law_4 : Vis (bodyS N_law s_law).sc (PySem.Str.ofString "n") := Or.inl (by decide +kernel)
theorem l_law_4 : L2.Loc (bodyS N_law s_law).sc (PySem.Str.ofString "n") := Or.inl (by decide +kernel)
theorem l0_law_4 : (bodyS N_law s_law).sc.names.lookup (PySem.Str.ofString "n") = some .local := by decide +kernel
theorem n_law_5 : (bodyS N_law s_law).N[5]? = some (PySem.Str.ofString "due") := rfl
theorem v_law_5 : Vis (bodyS N_law s_law).sc (PySem.Str.ofString "due") := Or.inl (by decide +kernel)
theorem l_law_5 : L2.Loc (bodyS N_law s_law).sc (PySem.Str.ofString "due") := Or.inl (by decide +kernel)
theorem l0_law_5 : (bodyS N_law s_law).sc.names.lookup (PySem.Str.ofString "due") = some .local := by decide +kernel
theorem n_law_6 : (bodyS N_law s_law).N[6]? = some (PySem.Str.ofString "less") := rfl
theorem v_law_6 : Vis (bodyS N_law s_law).sc (PySem.Str.ofString "less") := Or.inl (by decide +kernel)
theorem l_law_6 : L2.Loc (bodyS N_law s_law).sc (PySem.Str.ofString "less") := Or.inl (by decide +kernel)
theorem l0_law_6 : (bodyS N_law s_law).sc.names.lookup (PySem.Str.ofString "less") = some .local := by decide +kernel
theorem n_law_7 : (bodyS N_law s_law).N[7]? = some (PySem.Str.ofString "k") := rfl
theorem v_law_7 : Vis (bodyS N_law s_law).sc (PySem.Str.ofString "k") := Or.inl (by decide +kernel)
theorem l_law_7 : L2.Loc (bodyS N_law s_law).sc (PySem.Str.ofString "k") := Or.inl (by decide +kernel)
theorem l0_law_7 : (bodyS N_law s_law).sc.names.lookup (PySem.Str.ofString "k") = some .local := by decide +kernel
theorem n_law_8 : (bodyS N_law s_law).N[8]? = some (PySem.Str.ofString "zero") := rfl
theorem v_law_8 : Vis (bodyS N_law s_law).sc (PySem.Str.ofString "zero") := Or.inl (by decide +kernel)
theorem l_law_8 : L2.Loc (bodyS N_law s_law).sc (PySem.Str.ofString "zero") := Or.inl (by decide +kernel)
theorem l0_law_8 : (bodyS N_law s_law).sc.names.lookup (PySem.Str.ofString "zero") = some .local := by decide +kernel
theorem n_law_9 : (bodyS N_law s_law).N[9]? = some (PySem.Str.ofString "firsts") := rfl
theorem v_law_9 : Vis (bodyS N_law s_law).sc (PySem.Str.ofString "firsts") := Or.inl (by decide +kernel)
theorem l_law_9 : L2.Loc (bodyS N_law s_law).sc (PySem.Str.ofString "firsts") := Or.inl (by decide +kernel)
theorem l0_law_9 : (bodyS N_law s_law).sc.names.lookup (PySem.Str.ofString "firsts") = some .local := by decide +kernel
theorem n_law_10 : (bodyS N_law s_law).N[10]? = some (PySem.Str.ofString "seconds") := rfl
theorem v_law_10 : Vis (bodyS N_law s_law).sc (PySem.Str.ofString "seconds") := Or.inl (by decide +kernel)
theorem l_law_10 : L2.Loc (bodyS N_law s_law).sc (PySem.Str.ofString "seconds") := Or.inl (by decide +kernel)
theorem l0_law_10 : (bodyS N_law s_law).sc.names.lookup (PySem.Str.ofString "seconds") = some .local := by decide +kernel
theorem n_law_11 : (bodyS N_law s_law).N[11]? = some (PySem.Str.ofString "wide") := rfl
theorem v_law_11 : Vis (bodyS N_law s_law).sc (PySem.Str.ofString "wide") := Or.inr (Or.inl (by decide +kernel))
theorem l_law_11 : L2.Loc (bodyS N_law s_law).sc (PySem.Str.ofString "wide") := Or.inr (by decide +kernel)
theorem n_law_12 : (bodyS N_law s_law).N[12]? = some (PySem.Str.ofString "long") := rfl
theorem v_law_12 : Vis (bodyS N_law s_law).sc (PySem.Str.ofString "long") := Or.inl (by decide +kernel)
theorem l_law_12 : L2.Loc (bodyS N_law s_law).sc (PySem.Str.ofString "long") := Or.inl (by decide +kernel)
theorem l0_law_12 : (bodyS N_law s_law).sc.names.lookup (PySem.Str.ofString "long") = some .local := by decide +kernel
theorem n_law_13 : (bodyS N_law s_law).N[13]? = some (PySem.Str.ofString "a") := rfl
theorem v_law_13 : Vis (bodyS N_law s_law).sc (PySem.Str.ofString "a") := Or.inl (by decide +kernel)
theorem l_law_13 : L2.Loc (bodyS N_law s_law).sc (PySem.Str.ofString "a") := Or.inl (by decide +kernel)
theorem l0_law_13 : (bodyS N_law s_law).sc.names.lookup (PySem.Str.ofString "a") = some .local := by decide +kernel
theorem n_law_14 : (bodyS N_law s_law).N[14]? = some (PySem.Str.ofString "b") := rfl
theorem v_law_14 : Vis (bodyS N_law s_law).sc (PySem.Str.ofString "b") := Or.inl (by decide +kernel)
theorem l_law_14 : L2.Loc (bodyS N_law s_law).sc (PySem.Str.ofString "b") := Or.inl (by decide +kernel)
theorem l0_law_14 : (bodyS N_law s_law).sc.names.lookup (PySem.Str.ofString "b") = some .local := by decide +kernel
theorem n_law_15 : (bodyS N_law s_law).N[15]? = some (PySem.Str.ofString "x") := rfl
theorem v_law_15 : Vis (bodyS N_law s_law).sc (PySem.Str.ofString "x") := Or.inl (by decide +kernel)
theorem l_law_15 : L2.Loc (bodyS N_law s_law).sc (PySem.Str.ofString "x") := Or.inl (by decide +kernel)
theorem l0_law_15 : (bodyS N_law s_law).sc.names.lookup (PySem.Str.ofString "x") = some .local := by decide +kernel
theorem n_law_16 : (bodyS N_law s_law).N[16]? = some (PySem.Str.ofString "y") := rfl
theorem v_law_16 : Vis (bodyS N_law s_law).sc (PySem.Str.ofString "y") := Or.inl (by decide +kernel)
theorem l_law_16 : L2.Loc (bodyS N_law s_law).sc (PySem.Str.ofString "y") := Or.inl (by decide +kernel)
theorem l0_law_16 : (bodyS N_law s_law).sc.names.lookup (PySem.Str.ofString "y") = some .local := by decide +kernel
theorem n_law_17 : (bodyS N_law s_law).N[17]? = some (PySem.Str.ofString "d") := rfl
theorem v_law_17 : Vis (bodyS N_law s_law).sc (PySem.Str.ofString "d") := Or.inl (by decide +kernel)
theorem l_law_17 : L2.Loc (bodyS N_law s_law).sc (PySem.Str.ofString "d") := Or.inl (by decide +kernel)
theorem l0_law_17 : (bodyS N_law s_law).sc.names.lookup (PySem.Str.ofString "d") = some .local := by decide +kernel
theorem gl_law__law_fields : (bodyS N_law s_law).sc.names.lookup (PySem.Str.ofString "_law_fields") = some .globalImplicit := by decide +kernel
theorem gl_law__law_kinds : (bodyS N_law s_law).sc.names.lookup (PySem.Str.ofString "_law_kinds") = some .globalImplicit := by decide +kernel
theorem gl_law__law_no_inverse : (bodyS N_law s_law).sc.names.lookup (PySem.Str.ofString "_law_no_inverse") = some .globalImplicit := by decide +kernel
theorem gl_law__law_number : (bodyS N_law s_law).sc.names.lookup (PySem.Str.ofString "_law_number") = some .globalImplicit := by decide +kernel
theorem gl_law__law_pair : (bodyS N_law s_law).sc.names.lookup (PySem.Str.ofString "_law_pair") = some .globalImplicit := by decide +kernel
theorem gl_law__law_pool : (bodyS N_law s_law).sc.names.lookup (PySem.Str.ofString "_law_pool") = some .globalImplicit := by decide +kernel
theorem gl_law__law_rows : (bodyS N_law s_law).sc.names.lookup (PySem.Str.ofString "_law_rows") = some .globalImplicit := by decide +kernel
theorem gl_law__law_same : (bodyS N_law s_law).sc.names.lookup (PySem.Str.ofString "_law_same") = some .globalImplicit := by decide +kernel
theorem gl_law_add : (bodyS N_law s_law).sc.names.lookup (PySem.Str.ofString "add") = some .globalImplicit := by decide +kernel
theorem gl_law_check_field : (bodyS N_law s_law).sc.names.lookup (PySem.Str.ofString "check_field") = some .globalImplicit := by decide +kernel
theorem gl_law_divide : (bodyS N_law s_law).sc.names.lookup (PySem.Str.ofString "divide") = some .globalImplicit := by decide +kernel
theorem gl_law_invert : (bodyS N_law s_law).sc.names.lookup (PySem.Str.ofString "invert") = some .globalImplicit := by decide +kernel
theorem gl_law_len : (bodyS N_law s_law).sc.names.lookup (PySem.Str.ofString "len") = some .globalImplicit := by decide +kernel
theorem gl_law_multiply : (bodyS N_law s_law).sc.names.lookup (PySem.Str.ofString "multiply") = some .globalImplicit := by decide +kernel
theorem gl_law_negate : (bodyS N_law s_law).sc.names.lookup (PySem.Str.ofString "negate") = some .globalImplicit := by decide +kernel
theorem gl_law_number_of : (bodyS N_law s_law).sc.names.lookup (PySem.Str.ofString "number_of") = some .globalImplicit := by decide +kernel
theorem gl_law_raise_to : (bodyS N_law s_law).sc.names.lookup (PySem.Str.ofString "raise_to") = some .globalImplicit := by decide +kernel
theorem gl_law_range : (bodyS N_law s_law).sc.names.lookup (PySem.Str.ofString "range") = some .globalImplicit := by decide +kernel
theorem gl_law_ratio_of : (bodyS N_law s_law).sc.names.lookup (PySem.Str.ofString "ratio_of") = some .globalImplicit := by decide +kernel
theorem gl_law_subtract : (bodyS N_law s_law).sc.names.lookup (PySem.Str.ofString "subtract") = some .globalImplicit := by decide +kernel
noncomputable def body_law : DEnv → Fl := seqF (setF 1 (callF den__law_pool (consA (nmD 0) (consA (cD (.int 60)) (nilA))))) (seqF (setF 2 (b2 idxD (tupA (consA (cD (.int 2)) (consA (cD (.int 3)) (consA (cD (.int 5)) (consA (cD (.int 7)) (consA (cD (.int 11)) (consA (cD (.int 0)) (nilA)))))))) (b2 modD (b2 idxD (nmD 1) (cD (.int 0))) (cD (.int 6))))) (seqF (asgF (tupA (consA (b2 eqD (b2 modD (b2 idxD (nmD 1) (cD (.int 55))) (cD (.int 4))) (cD (.int 0))) (consA (b2 addD (b2 mulD (b2 subD (b2 idxD (nmD 1) (cD (.int 57))) (cD (.int 500))) (b2 powD (cD (.int 10)) (cD (.int 57)))) (b2 idxD (nmD 1) (cD (.int 58)))) (nilA)))) (tupT (consT (putD 11) (consT (putD 12) (nilT))))) (seqF (parF 13 14 (consA (callF den__law_pair (consA (nmD 1) (consA (cD (.int 1)) (consA (nmD 2) (consA (nmD 11) (nilA)))))) (consA (callF den__law_pair (consA (nmD 1) (consA (cD (.int 4)) (consA (nmD 2) (consA (nmD 11) (nilA)))))) (nilA)))) (seqF (setF 3 (b2 modD (b2 idxD (nmD 1) (cD (.int 7))) (ifV (toB (b2 eqD (b2 modD (b2 idxD (nmD 1) (cD (.int 56))) (cD (.int 4))) (cD (.int 0)))) (cD (.int 41)) (cD (.int 10))))) (seqF (parF 15 16 (consA (callF den__law_number (consA (nmD 2) (consA (b2 idxD (nmD 13) (cD (.int 0))) (consA (b2 idxD (nmD 13) (cD (.int 1))) (nilA))))) (consA (callF den__law_number (consA (nmD 2) (consA (b2 idxD (nmD 14) (cD (.int 0))) (consA (b2 idxD (nmD 14) (cD (.int 1))) (nilA))))) (nilA)))) (seqF (ifF (orB (toB (u1 notND (callF den_check_field (consA (nmD 2) (nilA))))) (orB (notB (toT (callF den__law_fields (consA (b2 subD (b2 modD (b2 idxD (nmD 1) (cD (.int 9))) (cD (.int 20))) (cD (.int 5))) (nilA))))) (notB (toT (callF den__law_kinds (consA (nmD 2) (consA (nmD 15) (consA (b2 idxD (nmD 13) (cD (.int 0))) (nilA))))))))) (retF (cD (.bl false))) (nxD)) (seqF (ifF (orB (notB (toT (callF den__law_fields (consA (nmD 12) (nilA))))) (orB (notB (toT (callF den__law_fields (consA (u1 negD (nmD 12)) (nilA))))) (notB (toT (callF den__law_kinds (consA (nmD 2) (consA (nmD 15) (consA (nmD 12) (nilA))))))))) (retF (cD (.bl false))) (nxD)) (seqF (forF (itS (tupA (consA (b2 idxD (nmD 13) (cD (.int 0))) (consA (nmD 12) (nilA))))) (putD 4) (seqF (ifF (notB (toT (callF den__law_same (consA (nmD 2) (consA (callF den_number_of (consA (nmD 2) (consA (nmD 4) (nilA)))) (consA (callF den__law_number (consA (nmD 2) (consA (nmD 4) (consA (cD (.int 1)) (nilA))))) (nilA))))))) (retF (cD (.bl false))) (nxD)) (nxD))) (seqF (setF 5 (callF den__law_number (consA (nmD 2) (consA (b2 addD (b2 mulD (b2 idxD (nmD 13) (cD (.int 0))) (b2 idxD (nmD 14) (cD (.int 1)))) (b2 mulD (b2 idxD (nmD 14) (cD (.int 0))) (b2 idxD (nmD 13) (cD (.int 1))))) (consA (b2 mulD (b2 idxD (nmD 13) (cD (.int 1))) (b2 idxD (nmD 14) (cD (.int 1)))) (nilA)))))) (seqF (setF 6 (callF den__law_number (consA (nmD 2) (consA (b2 subD (b2 mulD (b2 idxD (nmD 13) (cD (.int 0))) (b2 idxD (nmD 14) (cD (.int 1)))) (b2 mulD (b2 idxD (nmD 14) (cD (.int 0))) (b2 idxD (nmD 13) (cD (.int 1))))) (consA (b2 mulD (b2 idxD (nmD 13) (cD (.int 1))) (b2 idxD (nmD 14) (cD (.int 1)))) (nilA)))))) (seqF (ifF (orB (notB (toT (callF den__law_same (consA (nmD 2) (consA (callF den_add (consA (nmD 2) (consA (nmD 15) (consA (nmD 16) (nilA))))) (consA (nmD 5) (nilA))))))) (notB (toT (callF den__law_same (consA (nmD 2) (consA (callF den_subtract (consA (nmD 2) (consA (nmD 15) (consA (nmD 16) (nilA))))) (consA (nmD 6) (nilA)))))))) (retF (cD (.bl false))) (nxD)) (seqF (ifF (notB (toT (callF den__law_same (consA (nmD 2) (consA (callF den_negate (consA (nmD 2) (consA (nmD 15) (nilA)))) (consA (callF den__law_number (consA (nmD 2) (consA (u1 negD (b2 idxD (nmD 13) (cD (.int 0)))) (consA (b2 idxD (nmD 13) (cD (.int 1))) (nilA))))) (nilA))))))) (retF (cD (.bl false))) (nxD)) (seqF (ifF (notB (toT (callF den__law_same (consA (nmD 2) (consA (callF den_multiply (consA (nmD 2) (consA (nmD 15) (consA (nmD 16) (nilA))))) (consA (callF den__law_number (consA (nmD 2) (consA (b2 mulD (b2 idxD (nmD 13) (cD (.int 0))) (b2 idxD (nmD 14) (cD (.int 0)))) (consA (b2 mulD (b2 idxD (nmD 13) (cD (.int 1))) (b2 idxD (nmD 14) (cD (.int 1)))) (nilA))))) (nilA))))))) (retF (cD (.bl false))) (nxD)) (seqF (asgF (tupA (consA (cD (.int 1)) (consA (cD (.int 1)) (nilA)))) (tupT (consT (putD 4) (consT (putD 17) (nilT))))) (seqF (forF (rng1 (consA (nmD 3) (nilA))) (putD 7) (seqF (parF 4 17 (consA (b2 mulD (nmD 4) (b2 idxD (nmD 13) (cD (.int 0)))) (consA (b2 mulD (nmD 17) (b2 idxD (nmD 13) (cD (.int 1)))) (nilA)))) (nxD))) (seqF (ifF (notB (toT (callF den__law_same (consA (nmD 2) (consA (callF den_raise_to (consA (nmD 2) (consA (nmD 15) (consA (nmD 3) (nilA))))) (consA (callF den__law_number (consA (nmD 2) (consA (nmD 4) (consA (nmD 17) (nilA))))) (nilA))))))) (retF (cD (.bl false))) (nxD)) (seqF (setF 8 (callF den__law_number (consA (nmD 2) (consA (cD (.int 0)) (consA (cD (.int 1)) (nilA)))))) (seqF (ifF (toB (b2 neD (nmD 16) (nmD 8))) (seqF (ifF (notB (toT (callF den__law_same (consA (nmD 2) (consA (callF den_invert (consA (nmD 2) (consA (nmD 16) (nilA)))) (consA (callF den__law_number (consA (nmD 2) (consA (b2 idxD (nmD 14) (cD (.int 1))) (consA (b2 idxD (nmD 14) (cD (.int 0))) (nilA))))) (nilA))))))) (retF (cD (.bl false))) (nxD)) (seqF (ifF (notB (toT (callF den__law_same (consA (nmD 2) (consA (callF den_divide (consA (nmD 2) (consA (nmD 15) (consA (nmD 16) (nilA))))) (consA (callF den__law_number (consA (nmD 2) (consA (b2 mulD (b2 idxD (nmD 13) (cD (.int 0))) (b2 idxD (nmD 14) (cD (.int 1)))) (consA (b2 mulD (b2 idxD (nmD 13) (cD (.int 1))) (b2 idxD (nmD 14) (cD (.int 0)))) (nilA))))) (nilA))))))) (retF (cD (.bl false))) (nxD)) (seqF (forF (itS (tupA (consA (b2 idxD (nmD 13) (cD (.int 0))) (consA (nmD 12) (nilA))))) (putD 4) (seqF (ifF (notB (toT (callF den__law_same (consA (nmD 2) (consA (callF den_ratio_of (consA (nmD 2) (consA (nmD 4) (consA (b2 idxD (nmD 14) (cD (.int 0))) (nilA))))) (consA (callF den__law_number (consA (nmD 2) (consA (nmD 4) (consA (b2 idxD (nmD 14) (cD (.int 0))) (nilA))))) (nilA))))))) (retF (cD (.bl false))) (nxD)) (nxD))) (nxD)))) (nxD)) (seqF (setF 9 (lcD [7] (rng1 (consA (b2 modD (b2 idxD (nmD 1) (cD (.int 8))) (cD (.int 7))) (nilA))) (putD 7) (yesB) (callF den__law_pair (consA (nmD 1) (consA (b2 addD (cD (.int 10)) (b2 mulD (cD (.int 3)) (nmD 7))) (consA (nmD 2) (consA (nmD 11) (nilA)))))))) (seqF (setF 10 (lcD [7] (rng1 (consA (callF lenD (consA (nmD 9) (nilA))) (nilA))) (putD 7) (yesB) (callF den__law_pair (consA (nmD 1) (consA (b2 addD (cD (.int 30)) (b2 mulD (cD (.int 3)) (nmD 7))) (consA (nmD 2) (consA (nmD 11) (nilA)))))))) (retF (andV (callF den__law_no_inverse (consA (nmD 2) (consA (nmD 8) (consA (nmD 15) (nilA))))) (callF den__law_rows (consA (nmD 2) (consA (nmD 9) (consA (nmD 10) (consA (nmD 14) (nilA))))))))))))))))))))))))))))
noncomputable def den_law : List D → R D := runD 18 body_law
theorem ok_law {G : Cfg} (T : Tp G) (c_check_field : FnD G 1 (PySem.Str.ofString "check_field") 1 false den_check_field) (c_number_of : FnD G 1 (PySem.Str.ofString "number_of") 2 false den_number_of) (c_add : FnD G 2 (PySem.Str.ofString "add") 3 false den_add) (c_negate : FnD G 1 (PySem.Str.ofString "negate") 2 false den_negate) (c_subtract : FnD G 3 (PySem.Str.ofString "subtract") 3 false den_subtract) (c_multiply : FnD G 2 (PySem.Str.ofString "multiply") 3 false den_multiply) (c_invert : FnD G 2 (PySem.Str.ofString "invert") 2 false den_invert) (c_divide : FnD G 3 (PySem.Str.ofString "divide") 3 false den_divide) (c_ratio_of : FnD G 4 (PySem.Str.ofString "ratio_of") 3 false den_ratio_of) (c_raise_to : FnD G 3 (PySem.Str.ofString "raise_to") 3 false den_raise_to) (c__law_pool : FnD G 1 (PySem.Str.ofString "_law_pool") 2 false den__law_pool) (c__law_number : FnD G 3 (PySem.Str.ofString "_law_number") 3 false den__law_number) (c__law_same : FnD G 1 (PySem.Str.ofString "_law_same") 3 false den__law_same) (c__law_pair : FnD G 1 (PySem.Str.ofString "_law_pair") 4 false den__law_pair) (c__law_no_inverse : FnD G 5 (PySem.Str.ofString "_law_no_inverse") 3 false den__law_no_inverse) (c__law_rows : FnD G 4 (PySem.Str.ofString "_law_rows") 4 false den__law_rows) (c__law_fields : FnD G 2 (PySem.Str.ofString "_law_fields") 1 false den__law_fields) (c__law_kinds : FnD G 3 (PySem.Str.ofString "_law_kinds") 3 false den__law_kinds) {f : Addr} {fd : FuncData} (FF : Fun G.K (PySem.Str.ofString "law") (PySem.Str.ofString "law") s_law f fd) : FnOk G.P G.w G.K G.mg G.base (L2.CX G.P G.w) 6 f fd ["script"] (spD G 1 false den_law) :=
  fn_mk (N := N_law) (t := _) (g := body_law) (own' := []) T.xi FF sc_law rfl fun X W F tk po =>
    (ss_cons T.xi (s_set (own' := []) F nd_law n_law_1 l_law_1 (Or.inl rfl) (d_call F tk c__law_pool (by decide) gl_law__law_pool (a_cons (d_nm0 F n_law_0 v_law_0 (by decide)) (a_cons d_int a_nil)) rfl (hlen := (len_cons (len_cons len_nil)))) (by rfl) (by rfl)) (ss_cons T.xi (s_set (own' := []) F nd_law n_law_2 l_law_2 (Or.inl rfl) (d_ix F (d_tup (a_cons d_int (a_cons d_int (a_cons d_int (a_cons d_int (a_cons d_int (a_cons d_int a_nil))))))) (d_mod (d_ixN F n_law_1 v_law_1 d_int) d_int)) (by rfl) (by rfl)) (ss_cons T.xi (s_asg (own' := []) (d_tup (a_cons (d_cmp F cr_eq (d_mod (d_ixN F n_law_1 v_law_1 d_int) d_int) d_int (nomark _)) (a_cons (d_add F (d_mul (d_sub (d_ixN F n_law_1 v_law_1 d_int) d_int) (d_pow d_int d_int)) (d_ixN F n_law_1 v_law_1 d_int)) a_nil))) (g_tup F (gs_cons (g_name F nd_law n_law_11 l_law_11 (Or.inl rfl) (by decide)) (gs_cons (g_name F nd_law n_law_12 l_law_12 (Or.inl rfl) (by decide)) gs_nil)) rfl (hl := (lenT_cons (lenT_cons lenT_nil)))) (by rfl) (by rfl) (hw := sws_cell F.sc (by rfl) (by decide +kernel))) (ss_cons T.xi (s_par (own' := []) F nd_law n_law_13 n_law_14 (by decide) l0_law_13 l0_law_14 (a_cons (d_call F tk c__law_pair (by decide) gl_law__law_pair (a_cons (d_nm0 F n_law_1 v_law_1 (by decide)) (a_cons d_int (a_cons (d_nm0 F n_law_2 v_law_2 (by decide)) (a_cons (d_nm0 F n_law_11 v_law_11 (by decide)) a_nil)))) rfl (hlen := (len_cons (len_cons (len_cons (len_cons len_nil)))))) (a_cons (d_call F tk c__law_pair (by decide) gl_law__law_pair (a_cons (d_nm0 F n_law_1 v_law_1 (by decide)) (a_cons d_int (a_cons (d_nm0 F n_law_2 v_law_2 (by decide)) (a_cons (d_nm0 F n_law_11 v_law_11 (by decide)) a_nil)))) rfl (hlen := (len_cons (len_cons (len_cons (len_cons len_nil)))))) a_nil)) (by rfl) (by rfl) (sws_some F.sc (by rfl) (by decide +kernel) (by rfl) (by rfl))) (ss_cons T.xi (s_set (own' := []) F nd_law n_law_3 l_law_3 (Or.inl rfl) (d_mod (d_ixN F n_law_1 v_law_1 d_int) (d_if (t_cmp F cr_eq (d_mod (d_ixN F n_law_1 v_law_1 d_int) d_int) d_int (nomark _)) d_int d_int)) (by rfl) (by rfl)) (ss_cons T.xi (s_par (own' := []) F nd_law n_law_15 n_law_16 (by decide) l0_law_15 l0_law_16 (a_cons (d_call F tk c__law_number (by decide) gl_law__law_number (a_cons (d_nm0 F n_law_2 v_law_2 (by decide)) (a_cons (d_ixN F n_law_13 v_law_13 d_int) (a_cons (d_ixN F n_law_13 v_law_13 d_int) a_nil))) rfl (hlen := (len_cons (len_cons (len_cons len_nil))))) (a_cons (d_call F tk c__law_number (by decide) gl_law__law_number (a_cons (d_nm0 F n_law_2 v_law_2 (by decide)) (a_cons (d_ixN F n_law_14 v_law_14 d_int) (a_cons (d_ixN F n_law_14 v_law_14 d_int) a_nil))) rfl (hlen := (len_cons (len_cons (len_cons len_nil))))) a_nil)) (by rfl) (by rfl) (sws_some F.sc (by rfl) (by decide +kernel) (by rfl) (by rfl))) (ss_cons T.xi (s_if (own' := []) (DW.dt (w_or (t_notN (d_call F tk c_check_field (by decide) gl_law_check_field (a_cons (d_nm0 F n_law_2 v_law_2 (by decide)) a_nil) rfl (hlen := (len_cons len_nil)))) (w_or (t_not (t_tru F (d_call F tk c__law_fields (by decide) gl_law__law_fields (a_cons (d_sub (d_mod (d_ixN F n_law_1 v_law_1 d_int) d_int) d_int) a_nil) rfl (hlen := (len_cons len_nil))))) (w_or1 (t_not (t_tru F (d_call F tk c__law_kinds (by decide) gl_law__law_kinds (a_cons (d_nm0 F n_law_2 v_law_2 (by decide)) (a_cons (d_nm0 F n_law_15 v_law_15 (by decide)) (a_cons (d_ixN F n_law_13 v_law_13 d_int) a_nil))) rfl (hlen := (len_cons (len_cons (len_cons len_nil))))))))))) (ss_one (s_ret d_bl rfl (by rfl))) (ss_nil (own' := []) (by rfl)) (by rfl)) (ss_cons T.xi (s_if (own' := []) (DW.dt (w_or (t_not (t_tru F (d_call F tk c__law_fields (by decide) gl_law__law_fields (a_cons (d_nm0 F n_law_12 v_law_12 (by decide)) a_nil) rfl (hlen := (len_cons len_nil))))) (w_or (t_not (t_tru F (d_call F tk c__law_fields (by decide) gl_law__law_fields (a_cons (d_neg (d_nm0 F n_law_12 v_law_12 (by decide))) a_nil) rfl (hlen := (len_cons len_nil))))) (w_or1 (t_not (t_tru F (d_call F tk c__law_kinds (by decide) gl_law__law_kinds (a_cons (d_nm0 F n_law_2 v_law_2 (by decide)) (a_cons (d_nm0 F n_law_15 v_law_15 (by decide)) (a_cons (d_nm0 F n_law_12 v_law_12 (by decide)) a_nil))) rfl (hlen := (len_cons (len_cons (len_cons len_nil))))))))))) (ss_one (s_ret d_bl rfl (by rfl))) (ss_nil (own' := []) (by rfl)) (by rfl)) (ss_cons T.xi (s_for (own' := []) (olp := []) F po (i_seq F (d_tup (a_cons (d_ixN F n_law_13 v_law_13 d_int) (a_cons (d_nm0 F n_law_12 v_law_12 (by decide)) a_nil)))) (g_name F nd_law n_law_4 l_law_4 (Or.inl rfl) (by decide)) (ss_cons T.xi (s_if (own' := []) (t_not (t_tru F (d_call F tk c__law_same (by decide) gl_law__law_same (a_cons (d_nm0 F n_law_2 v_law_2 (by decide)) (a_cons (d_call F tk c_number_of (by decide) gl_law_number_of (a_cons (d_nm0 F n_law_2 v_law_2 (by decide)) (a_cons (d_nm0 F n_law_4 v_law_4 (by decide)) a_nil)) rfl (hlen := (len_cons (len_cons len_nil)))) (a_cons (d_call F tk c__law_number (by decide) gl_law__law_number (a_cons (d_nm0 F n_law_2 v_law_2 (by decide)) (a_cons (d_nm0 F n_law_4 v_law_4 (by decide)) (a_cons d_int a_nil))) rfl (hlen := (len_cons (len_cons (len_cons len_nil))))) a_nil))) rfl (hlen := (len_cons (len_cons (len_cons len_nil))))))) (ss_one (s_ret d_bl rfl (by rfl))) (ss_nil (own' := []) (by rfl)) (by rfl)) (ss_nil (own' := []) (by rfl))) (by rfl) (by rfl) (by rfl)) (ss_cons T.xi (s_set (own' := []) F nd_law n_law_5 l_law_5 (Or.inl rfl) (d_call F tk c__law_number (by decide) gl_law__law_number (a_cons (d_nm0 F n_law_2 v_law_2 (by decide)) (a_cons (d_add F (d_mul (d_ixN F n_law_13 v_law_13 d_int) (d_ixN F n_law_14 v_law_14 d_int)) (d_mul (d_ixN F n_law_14 v_law_14 d_int) (d_ixN F n_law_13 v_law_13 d_int))) (a_cons (d_mul (d_ixN F n_law_13 v_law_13 d_int) (d_ixN F n_law_14 v_law_14 d_int)) a_nil))) rfl (hlen := (len_cons (len_cons (len_cons len_nil))))) (by rfl) (by rfl)) (ss_cons T.xi (s_set (own' := []) F nd_law n_law_6 l_law_6 (Or.inl rfl) (d_call F tk c__law_number (by decide) gl_law__law_number (a_cons (d_nm0 F n_law_2 v_law_2 (by decide)) (a_cons (d_sub (d_mul (d_ixN F n_law_13 v_law_13 d_int) (d_ixN F n_law_14 v_law_14 d_int)) (d_mul (d_ixN F n_law_14 v_law_14 d_int) (d_ixN F n_law_13 v_law_13 d_int))) (a_cons (d_mul (d_ixN F n_law_13 v_law_13 d_int) (d_ixN F n_law_14 v_law_14 d_int)) a_nil))) rfl (hlen := (len_cons (len_cons (len_cons len_nil))))) (by rfl) (by rfl)) (ss_cons T.xi (s_if (own' := []) (DW.dt (w_or (t_not (t_tru F (d_call F tk c__law_same (by decide) gl_law__law_same (a_cons (d_nm0 F n_law_2 v_law_2 (by decide)) (a_cons (d_call F tk c_add (by decide) gl_law_add (a_cons (d_nm0 F n_law_2 v_law_2 (by decide)) (a_cons (d_nm0 F n_law_15 v_law_15 (by decide)) (a_cons (d_nm0 F n_law_16 v_law_16 (by decide)) a_nil))) rfl (hlen := (len_cons (len_cons (len_cons len_nil))))) (a_cons (d_nm0 F n_law_5 v_law_5 (by decide)) a_nil))) rfl (hlen := (len_cons (len_cons (len_cons len_nil))))))) (w_or1 (t_not (t_tru F (d_call F tk c__law_same (by decide) gl_law__law_same (a_cons (d_nm0 F n_law_2 v_law_2 (by decide)) (a_cons (d_call F tk c_subtract (by decide) gl_law_subtract (a_cons (d_nm0 F n_law_2 v_law_2 (by decide)) (a_cons (d_nm0 F n_law_15 v_law_15 (by decide)) (a_cons (d_nm0 F n_law_16 v_law_16 (by decide)) a_nil))) rfl (hlen := (len_cons (len_cons (len_cons len_nil))))) (a_cons (d_nm0 F n_law_6 v_law_6 (by decide)) a_nil))) rfl (hlen := (len_cons (len_cons (len_cons len_nil)))))))))) (ss_one (s_ret d_bl rfl (by rfl))) (ss_nil (own' := []) (by rfl)) (by rfl)) (ss_cons T.xi (s_if (own' := []) (t_not (t_tru F (d_call F tk c__law_same (by decide) gl_law__law_same (a_cons (d_nm0 F n_law_2 v_law_2 (by decide)) (a_cons (d_call F tk c_negate (by decide) gl_law_negate (a_cons (d_nm0 F n_law_2 v_law_2 (by decide)) (a_cons (d_nm0 F n_law_15 v_law_15 (by decide)) a_nil)) rfl (hlen := (len_cons (len_cons len_nil)))) (a_cons (d_call F tk c__law_number (by decide) gl_law__law_number (a_cons (d_nm0 F n_law_2 v_law_2 (by decide)) (a_cons (d_neg (d_ixN F n_law_13 v_law_13 d_int)) (a_cons (d_ixN F n_law_13 v_law_13 d_int) a_nil))) rfl (hlen := (len_cons (len_cons (len_cons len_nil))))) a_nil))) rfl (hlen := (len_cons (len_cons (len_cons len_nil))))))) (ss_one (s_ret d_bl rfl (by rfl))) (ss_nil (own' := []) (by rfl)) (by rfl)) (ss_cons T.xi (s_if (own' := []) (t_not (t_tru F (d_call F tk c__law_same (by decide) gl_law__law_same (a_cons (d_nm0 F n_law_2 v_law_2 (by decide)) (a_cons (d_call F tk c_multiply (by decide) gl_law_multiply (a_cons (d_nm0 F n_law_2 v_law_2 (by decide)) (a_cons (d_nm0 F n_law_15 v_law_15 (by decide)) (a_cons (d_nm0 F n_law_16 v_law_16 (by decide)) a_nil))) rfl (hlen := (len_cons (len_cons (len_cons len_nil))))) (a_cons (d_call F tk c__law_number (by decide) gl_law__law_number (a_cons (d_nm0 F n_law_2 v_law_2 (by decide)) (a_cons (d_mul (d_ixN F n_law_13 v_law_13 d_int) (d_ixN F n_law_14 v_law_14 d_int)) (a_cons (d_mul (d_ixN F n_law_13 v_law_13 d_int) (d_ixN F n_law_14 v_law_14 d_int)) a_nil))) rfl (hlen := (len_cons (len_cons (len_cons len_nil))))) a_nil))) rfl (hlen := (len_cons (len_cons (len_cons len_nil))))))) (ss_one (s_ret d_bl rfl (by rfl))) (ss_nil (own' := []) (by rfl)) (by rfl)) (ss_cons T.xi (s_asg (own' := []) (d_tup (a_cons d_int (a_cons d_int a_nil))) (g_tup F (gs_cons (g_name F nd_law n_law_4 l_law_4 (Or.inl rfl) (by decide)) (gs_cons (g_name F nd_law n_law_17 l_law_17 (Or.inl rfl) (by decide)) gs_nil)) rfl (hl := (lenT_cons (lenT_cons lenT_nil)))) (by rfl) (by rfl) (hw := sws_none (by rfl) (by rfl))) (ss_cons T.xi (s_for (own' := []) (olp := []) F po (i_rng1 F gl_law_range T.b_range (a_cons (d_nm0 F n_law_3 v_law_3 (by decide)) a_nil)) (g_name F nd_law n_law_7 l_law_7 (Or.inl rfl) (by decide)) (ss_cons T.xi (s_par (own' := []) F nd_law n_law_4 n_law_17 (by decide) l0_law_4 l0_law_17 (a_cons (d_mul (d_nm0 F n_law_4 v_law_4 (by decide)) (d_ixN F n_law_13 v_law_13 d_int)) (a_cons (d_mul (d_nm0 F n_law_17 v_law_17 (by decide)) (d_ixN F n_law_13 v_law_13 d_int)) a_nil)) (by rfl) (by rfl) (sws_some F.sc (by rfl) (by decide +kernel) (by rfl) (by rfl))) (ss_nil (own' := []) (by rfl))) (by rfl) (by rfl) (by rfl)) (ss_cons T.xi (s_if (own' := []) (t_not (t_tru F (d_call F tk c__law_same (by decide) gl_law__law_same (a_cons (d_nm0 F n_law_2 v_law_2 (by decide)) (a_cons (d_call F tk c_raise_to (by decide) gl_law_raise_to (a_cons (d_nm0 F n_law_2 v_law_2 (by decide)) (a_cons (d_nm0 F n_law_15 v_law_15 (by decide)) (a_cons (d_nm0 F n_law_3 v_law_3 (by decide)) a_nil))) rfl (hlen := (len_cons (len_cons (len_cons len_nil))))) (a_cons (d_call F tk c__law_number (by decide) gl_law__law_number (a_cons (d_nm0 F n_law_2 v_law_2 (by decide)) (a_cons (d_nm0 F n_law_4 v_law_4 (by decide)) (a_cons (d_nm0 F n_law_17 v_law_17 (by decide)) a_nil))) rfl (hlen := (len_cons (len_cons (len_cons len_nil))))) a_nil))) rfl (hlen := (len_cons (len_cons (len_cons len_nil))))))) (ss_one (s_ret d_bl rfl (by rfl))) (ss_nil (own' := []) (by rfl)) (by rfl)) (ss_cons T.xi (s_set (own' := []) F nd_law n_law_8 l_law_8 (Or.inl rfl) (d_call F tk c__law_number (by decide) gl_law__law_number (a_cons (d_nm0 F n_law_2 v_law_2 (by decide)) (a_cons d_int (a_cons d_int a_nil))) rfl (hlen := (len_cons (len_cons (len_cons len_nil))))) (by rfl) (by rfl)) (ss_cons T.xi (s_if (own' := []) (t_cmp F cr_ne (d_nm0 F n_law_16 v_law_16 (by decide)) (d_nm0 F n_law_8 v_law_8 (by decide)) (nomark _)) (ss_cons T.xi (s_if (own' := []) (t_not (t_tru F (d_call F tk c__law_same (by decide) gl_law__law_same (a_cons (d_nm0 F n_law_2 v_law_2 (by decide)) (a_cons (d_call F tk c_invert (by decide) gl_law_invert (a_cons (d_nm0 F n_law_2 v_law_2 (by decide)) (a_cons (d_nm0 F n_law_16 v_law_16 (by decide)) a_nil)) rfl (hlen := (len_cons (len_cons len_nil)))) (a_cons (d_call F tk c__law_number (by decide) gl_law__law_number (a_cons (d_nm0 F n_law_2 v_law_2 (by decide)) (a_cons (d_ixN F n_law_14 v_law_14 d_int) (a_cons (d_ixN F n_law_14 v_law_14 d_int) a_nil))) rfl (hlen := (len_cons (len_cons (len_cons len_nil))))) a_nil))) rfl (hlen := (len_cons (len_cons (len_cons len_nil))))))) (ss_one (s_ret d_bl rfl (by rfl))) (ss_nil (own' := []) (by rfl)) (by rfl)) (ss_cons T.xi (s_if (own' := []) (t_not (t_tru F (d_call F tk c__law_same (by decide) gl_law__law_same (a_cons (d_nm0 F n_law_2 v_law_2 (by decide)) (a_cons (d_call F tk c_divide (by decide) gl_law_divide (a_cons (d_nm0 F n_law_2 v_law_2 (by decide)) (a_cons (d_nm0 F n_law_15 v_law_15 (by decide)) (a_cons (d_nm0 F n_law_16 v_law_16 (by decide)) a_nil))) rfl (hlen := (len_cons (len_cons (len_cons len_nil))))) (a_cons (d_call F tk c__law_number (by decide) gl_law__law_number (a_cons (d_nm0 F n_law_2 v_law_2 (by decide)) (a_cons (d_mul (d_ixN F n_law_13 v_law_13 d_int) (d_ixN F n_law_14 v_law_14 d_int)) (a_cons (d_mul (d_ixN F n_law_13 v_law_13 d_int) (d_ixN F n_law_14 v_law_14 d_int)) a_nil))) rfl (hlen := (len_cons (len_cons (len_cons len_nil))))) a_nil))) rfl (hlen := (len_cons (len_cons (len_cons len_nil))))))) (ss_one (s_ret d_bl rfl (by rfl))) (ss_nil (own' := []) (by rfl)) (by rfl)) (ss_cons T.xi (s_for (own' := []) (olp := []) F po (i_seq F (d_tup (a_cons (d_ixN F n_law_13 v_law_13 d_int) (a_cons (d_nm0 F n_law_12 v_law_12 (by decide)) a_nil)))) (g_name F nd_law n_law_4 l_law_4 (Or.inl rfl) (by decide)) (ss_cons T.xi (s_if (own' := []) (t_not (t_tru F (d_call F tk c__law_same (by decide) gl_law__law_same (a_cons (d_nm0 F n_law_2 v_law_2 (by decide)) (a_cons (d_call F tk c_ratio_of (by decide) gl_law_ratio_of (a_cons (d_nm0 F n_law_2 v_law_2 (by decide)) (a_cons (d_nm0 F n_law_4 v_law_4 (by decide)) (a_cons (d_ixN F n_law_14 v_law_14 d_int) a_nil))) rfl (hlen := (len_cons (len_cons (len_cons len_nil))))) (a_cons (d_call F tk c__law_number (by decide) gl_law__law_number (a_cons (d_nm0 F n_law_2 v_law_2 (by decide)) (a_cons (d_nm0 F n_law_4 v_law_4 (by decide)) (a_cons (d_ixN F n_law_14 v_law_14 d_int) a_nil))) rfl (hlen := (len_cons (len_cons (len_cons len_nil))))) a_nil))) rfl (hlen := (len_cons (len_cons (len_cons len_nil))))))) (ss_one (s_ret d_bl rfl (by rfl))) (ss_nil (own' := []) (by rfl)) (by rfl)) (ss_nil (own' := []) (by rfl))) (by rfl) (by rfl) (by rfl)) (ss_nil (own' := []) (by rfl))))) (ss_nil (own' := []) (by rfl)) (by rfl)) (ss_cons T.xi (s_setLcF (own' := []) (bo := [((PySem.Str.ofString "k"), 7)]) F nd_law n_law_9 l0_law_9 (by decide +kernel) (i_rng1 F gl_law_range T.b_range (a_cons (d_mod (d_ixN F n_law_1 v_law_1 d_int) d_int) a_nil)) (fun X1 F1 => (g_name F1 nd_law n_law_7 (Or.inl rfl) (Or.inr rfl) (by decide))) (fun X1 F1 tk1 => ts_nil) (fun X1 F1 tk1 => (d_call F1 tk1 c__law_pair (by decide) (by rfl) (a_cons (d_nm0 F1 n_law_1 (Or.inr (Or.inl rfl)) (by decide)) (a_cons (d_add F1 d_int (d_mul d_int (d_nm0 F1 n_law_7 (Or.inl rfl) (by decide)))) (a_cons (d_nm0 F1 n_law_2 (Or.inr (Or.inl rfl)) (by decide)) (a_cons (d_nm0 F1 n_law_11 (Or.inr (Or.inl rfl)) (by decide)) a_nil)))) rfl (hlen := (len_cons (len_cons (len_cons (len_cons len_nil))))))) (by decide) (by decide) (by rfl) (by rfl) (by rfl) (by decide +kernel)) (ss_cons T.xi (s_setLcF (own' := [9]) (bo := [((PySem.Str.ofString "k"), 7)]) F nd_law n_law_10 l0_law_10 (by decide +kernel) (i_rng1 F gl_law_range T.b_range (a_cons (d_len F gl_law_len T.b_len (a_cons (d_nm F n_law_9 v_law_9) a_nil)) a_nil)) (fun X1 F1 => (g_name F1 nd_law n_law_7 (Or.inl rfl) (Or.inr rfl) (by decide))) (fun X1 F1 tk1 => ts_nil) (fun X1 F1 tk1 => (d_call F1 tk1 c__law_pair (by decide) (by rfl) (a_cons (d_nm0 F1 n_law_1 (Or.inr (Or.inl rfl)) (by decide)) (a_cons (d_add F1 d_int (d_mul d_int (d_nm0 F1 n_law_7 (Or.inl rfl) (by decide)))) (a_cons (d_nm0 F1 n_law_2 (Or.inr (Or.inl rfl)) (by decide)) (a_cons (d_nm0 F1 n_law_11 (Or.inr (Or.inl rfl)) (by decide)) a_nil)))) rfl (hlen := (len_cons (len_cons (len_cons (len_cons len_nil))))))) (by decide) (by decide) (by rfl) (by rfl) (by rfl) (by decide +kernel)) (ss_one (s_ret (d_and (d_call F tk c__law_no_inverse (by decide) gl_law__law_no_inverse (a_cons (d_nm0 F n_law_2 v_law_2 (by decide)) (a_cons (d_nm0 F n_law_8 v_law_8 (by decide)) (a_cons (d_nm0 F n_law_15 v_law_15 (by decide)) a_nil))) rfl (hlen := (len_cons (len_cons (len_cons len_nil))))) (d_one (d_call F tk c__law_rows (by decide) gl_law__law_rows (a_cons (d_nm0 F n_law_2 v_law_2 (by decide)) (a_cons (d_nm F n_law_9 v_law_9) (a_cons (d_nm F n_law_10 v_law_10) (a_cons (d_nm0 F n_law_14 v_law_14 (by decide)) a_nil)))) rfl (hlen := (len_cons (len_cons (len_cons (len_cons len_nil)))))))) rfl (by rfl))))))))))))))))))))))))
end DL

set_option maxRecDepth 100001
set_option maxHeartbeats 1000001
namespace DL
open PySem PySem.Spec PyProof.Rows L2

/-! ### to evaluate: each word, on the values of its parts -/
def Fl.sq : Fl → (DEnv → Fl) → Fl
  | .nx δ, h => h δ
  | .rt d, _ => .rt d
  | .bk δ, _ => .bk δ
  | .ct δ, _ => .ct δ
  | .ex x δ, _ => .ex x δ
  | .stk, _ => .stk
@[simp] theorem e_seq (g h : DEnv → Fl) (δ : DEnv) : seqF g h δ = (g δ).sq h := by unfold seqF; cases g δ <;> rfl
@[simp] theorem e_nx (δ : DEnv) : nxD δ = .nx δ := rfl
@[simp] theorem sq_nx (δ : DEnv) (h : DEnv → Fl) : (Fl.nx δ).sq h = h δ := rfl
@[simp] theorem sq_rt (d : D) (h : DEnv → Fl) : (Fl.rt d).sq h = .rt d := rfl
@[simp] theorem sq_ex (x : Exn) (δ : DEnv) (h : DEnv → Fl) : (Fl.ex x δ).sq h = .ex x δ := rfl
@[simp] theorem sq_ct (δ : DEnv) (h : DEnv → Fl) : (Fl.ct δ).sq h = .ct δ := rfl
@[simp] theorem sq_bk (δ : DEnv) (h : DEnv → Fl) : (Fl.bk δ).sq h = .bk δ := rfl
def R.ite : R Bool → (DEnv → Fl) → (DEnv → Fl) → DEnv → Fl
  | .ok b, g, h, δ => if b = true then g δ else h δ
  | .err x, _, _, δ => .ex x δ
  | .stk, _, _, _ => .stk
@[simp] theorem e_if (c : DEnv → R Bool) (g h : DEnv → Fl) (δ : DEnv) : ifF c g h δ = (c δ).ite g h δ := by unfold ifF; cases c δ <;> rfl
@[simp] theorem ite_t (g h : DEnv → Fl) (δ : DEnv) : R.ite (.ok true) g h δ = g δ := rfl
@[simp] theorem ite_f (g h : DEnv → Fl) (δ : DEnv) : R.ite (.ok false) g h δ = h δ := rfl
theorem ite_b (b : Bool) (g h : DEnv → Fl) (δ : DEnv) : R.ite (.ok b) g h δ = if b = true then g δ else h δ := rfl
def R.wi : R D → (D → DEnv → Fl) → DEnv → Fl
  | .ok d, h, δ => h d δ
  | .err x, _, δ => .ex x δ
  | .stk, _, _ => .stk
theorem e_with (f : DEnv → R D) (h : D → DEnv → Fl) (δ : DEnv) : withF f h δ = (f δ).wi h δ := by unfold withF; cases f δ <;> rfl
def stK (i : Nat) : D → DEnv → Fl := fun d δ => if i < δ.length then .nx (δ.set i (some d)) else .stk
def rtK : D → DEnv → Fl := fun d _ => .rt d
def drK : D → DEnv → Fl := fun _ δ => .nx δ
def apK (i : Nat) : D → DEnv → Fl := fun d δ => match δ[i]? with
  | some (some (.lst ds)) => if ds.length < sizeLine then .nx (δ.set i (some (.lst (ds ++ [d])))) else .stk
  | _ => .stk
@[simp] theorem e_set (i : Nat) (f : DEnv → R D) (δ : DEnv) : setF i f δ = (f δ).wi (stK i) δ := e_with _ _ _
@[simp] theorem e_ret (f : DEnv → R D) (δ : DEnv) : retF f δ = (f δ).wi rtK δ := e_with _ _ _
@[simp] theorem e_retN (δ : DEnv) : retNF δ = .rt .non := rfl
@[simp] theorem e_drop (f : DEnv → R D) (δ : DEnv) : dropF f δ = (f δ).wi drK δ := e_with _ _ _
@[simp] theorem e_aug (i : Nat) (h : D → D → R D) (f : DEnv → R D) (δ : DEnv) : augF i h f δ = (b2 h (nmD i) f δ).wi (stK i) δ := e_with _ _ _
@[simp] theorem e_app (i : Nat) (f : DEnv → R D) (δ : DEnv) : appF i f δ = (f δ).wi (apK i) δ := e_with _ _ _
@[simp] theorem wi_ok (d : D) (h : D → DEnv → Fl) (δ : DEnv) : R.wi (.ok d) h δ = h d δ := rfl
@[simp] theorem wi_err (x : Exn) (h : D → DEnv → Fl) (δ : DEnv) : R.wi (.err x) h δ = .ex x δ := rfl
@[simp] theorem e_stK (i : Nat) (d : D) (δ : DEnv) : stK i d δ = if i < δ.length then .nx (δ.set i (some d)) else .stk := rfl
@[simp] theorem e_rtK (d : D) (δ : DEnv) : rtK d δ = .rt d := rfl
@[simp] theorem e_drK (d : D) (δ : DEnv) : drK d δ = .nx δ := rfl
def apK2 (i : Nat) (d : D) (δ : DEnv) : Option (Option D) → Fl
  | some (some (.lst ds)) => if ds.length < sizeLine then .nx (δ.set i (some (.lst (ds ++ [d])))) else .stk
  | _ => .stk
@[simp] theorem e_apK (i : Nat) (d : D) (δ : DEnv) : apK i d δ = apK2 i d δ δ[i]? := rfl
theorem apK2_ok (i : Nat) (d : D) (δ : DEnv) {ds : List D} (hl : ds.length < sizeLine) : apK2 i d δ (some (some (.lst ds))) = .nx (δ.set i (some (.lst (ds ++ [d])))) := by unfold apK2; simp only; rw [if_pos hl]
def R.pr (i j : Nat) : R (List D) → DEnv → Fl
  | .ok [d, e], δ => if i < δ.length ∧ j < δ.length then .nx ((δ.set i (some d)).set j (some e)) else .stk
  | .ok _, _ => .stk
  | .err x, δ => .ex x δ
  | .stk, _ => .stk
@[simp] theorem e_par (i j : Nat) (fs : DEnv → R (List D)) (δ : DEnv) : parF i j fs δ = (fs δ).pr i j δ := by
  unfold parF
  rcases fs δ with ds | x | _
  · rcases ds with _ | ⟨d, _ | ⟨e, _ | ⟨_, _⟩⟩⟩ <;> rfl
  · rfl
  · rfl
@[simp] theorem pr_ok (i j : Nat) (d e : D) (δ : DEnv) : R.pr i j (.ok [d, e]) δ = if i < δ.length ∧ j < δ.length then .nx ((δ.set i (some d)).set j (some e)) else .stk := rfl
def R.nxt : R DEnv → Fl
  | .ok δ => .nx δ
  | _ => .stk
def R.ag (h : D → DEnv → R DEnv) : R D → DEnv → Fl
  | .ok d, δ => (h d δ).nxt
  | .err x, δ => .ex x δ
  | .stk, _ => .stk
@[simp] theorem e_asg (f : DEnv → R D) (h : D → DEnv → R DEnv) (δ : DEnv) : asgF f h δ = (f δ).ag h δ := by
  unfold asgF
  cases f δ with
  | ok d =>
    show _ = (h d δ).nxt
    cases hh : h d δ <;> simp [hh, R.nxt]
  | err x => rfl
  | stk => rfl
@[simp] theorem ag_ok (h : D → DEnv → R DEnv) (d : D) (δ : DEnv) : R.ag h (.ok d) δ = (h d δ).nxt := rfl
@[simp] theorem nxt_ok (δ : DEnv) : R.nxt (.ok δ) = .nx δ := rfl
def R.fr (h : D → DEnv → R DEnv) (b : DEnv → Fl) : R (List D) → DEnv → Fl
  | .ok ds, δ => forD h b ds δ
  | .err x, δ => .ex x δ
  | .stk, _ => .stk
@[simp] theorem e_for (f : DEnv → R (List D)) (h : D → DEnv → R DEnv) (b : DEnv → Fl) (δ : DEnv) : forF f h b δ = (f δ).fr h b δ := by unfold forF; cases f δ <;> rfl
@[simp] theorem fr_ok (h : D → DEnv → R DEnv) (b : DEnv → Fl) (ds : List D) (δ : DEnv) : R.fr h b (.ok ds) δ = forD h b ds δ := rfl
/-! expressions -/
def nmK : Option (Option D) → R D
  | some (some d) => .ok d
  | _ => .stk
@[simp] theorem e_nm (i : Nat) (δ : DEnv) : nmD i δ = nmK δ[i]? := rfl
@[simp] theorem e_nmK (d : D) : nmK (some (some d)) = .ok d := rfl
@[simp] theorem e_c (d : D) (δ : DEnv) : cD d δ = .ok d := rfl
def R.b2 (h : D → D → R D) : R D → R D → R D
  | .ok d, .ok e => h d e
  | .ok _, .err x => .err x
  | .ok _, .stk => .stk
  | .err x, _ => .err x
  | .stk, _ => .stk
@[simp] theorem e_b2 (h : D → D → R D) (f g : DEnv → R D) (δ : DEnv) : DL.b2 h f g δ = R.b2 h (f δ) (g δ) := by unfold DL.b2; cases f δ <;> simp [R.b2] <;> cases g δ <;> rfl
@[simp] theorem b2_ok (h : D → D → R D) (d e : D) : R.b2 h (.ok d) (.ok e) = h d e := rfl
@[simp] theorem b2_err1 (h : D → D → R D) (x : Exn) (r : R D) : R.b2 h (.err x) r = .err x := rfl
@[simp] theorem b2_err2 (h : D → D → R D) (d : D) (x : Exn) : R.b2 h (.ok d) (.err x) = .err x := rfl
@[simp] theorem e_u1 (h : D → R D) (f : DEnv → R D) (δ : DEnv) : u1 h f δ = (f δ).bind h := rfl
@[simp] theorem e_call (h : List D → R D) (g : DEnv → R (List D)) (δ : DEnv) : callF h g δ = (g δ).bind h := rfl
@[simp] theorem e_nil (δ : DEnv) : nilA δ = .ok [] := rfl
def R.cons : R D → R (List D) → R (List D)
  | .ok d, .ok ds => .ok (d :: ds)
  | .ok _, .err x => .err x
  | .ok _, .stk => .stk
  | .err x, _ => .err x
  | .stk, _ => .stk
@[simp] theorem e_cons (f : DEnv → R D) (g : DEnv → R (List D)) (δ : DEnv) : consA f g δ = R.cons (f δ) (g δ) := by unfold consA; cases f δ <;> simp [R.cons] <;> cases g δ <;> rfl
@[simp] theorem cons_ok (d : D) (ds : List D) : R.cons (.ok d) (.ok ds) = .ok (d :: ds) := rfl
@[simp] theorem cons_err1 (x : Exn) (ds : R (List D)) : R.cons (.err x) ds = .err x := rfl
@[simp] theorem cons_err2 (d : D) (x : Exn) : R.cons (.ok d) (.err x) = .err x := rfl
def tupK (ds : List D) : R D := if ds.length ≤ sizeLine then .ok (.tup ds) else .stk
def lstK (ds : List D) : R D := if ds.length ≤ sizeLine then .ok (.lst ds) else .stk
@[simp] theorem e_tup (g : DEnv → R (List D)) (δ : DEnv) : tupA g δ = (g δ).bind tupK := rfl
@[simp] theorem e_lst (g : DEnv → R (List D)) (δ : DEnv) : lstA g δ = (g δ).bind lstK := rfl
theorem tupK_ok {ds : List D} (h : ds.length ≤ 16777216) : tupK ds = .ok (.tup ds) := by unfold tupK; rw [if_pos (by rw [sizeLine_eq]; exact h)]
theorem lstK_ok {ds : List D} (h : ds.length ≤ 16777216) : lstK ds = .ok (.lst ds) := by unfold lstK; rw [if_pos (by rw [sizeLine_eq]; exact h)]
@[simp] theorem tupK0 : tupK [] = .ok (.tup []) := tupK_ok (by simp)
@[simp] theorem tupK1 (a : D) : tupK [a] = .ok (.tup [a]) := tupK_ok (by simp)
@[simp] theorem tupK2 (a b : D) : tupK [a, b] = .ok (.tup [a, b]) := tupK_ok (by simp)
@[simp] theorem tupK3 (a b c : D) : tupK [a, b, c] = .ok (.tup [a, b, c]) := tupK_ok (by simp)
@[simp] theorem tupK4 (a b c d : D) : tupK [a, b, c, d] = .ok (.tup [a, b, c, d]) := tupK_ok (by simp)
@[simp] theorem tupK6 (a b c d e f : D) : tupK [a, b, c, d, e, f] = .ok (.tup [a, b, c, d, e, f]) := tupK_ok (by simp)
@[simp] theorem lstK0 : lstK [] = .ok (.lst []) := lstK_ok (by simp)
@[simp] theorem lstK1 (a : D) : lstK [a] = .ok (.lst [a]) := lstK_ok (by simp)
@[simp] theorem lstK2 (a b : D) : lstK [a, b] = .ok (.lst [a, b]) := lstK_ok (by simp)
def boK : D → R Bool
  | .bl b => .ok b
  | _ => .stk
@[simp] theorem e_toB (f : DEnv → R D) (δ : DEnv) : toB f δ = (f δ).bind boK := by unfold toB; rcases f δ with (_|_|_|_|_|_|_) | _ | _ <;> rfl
@[simp] theorem e_boK (b : Bool) : boK (.bl b) = .ok b := rfl
@[simp] theorem e_toT (f : DEnv → R D) (δ : DEnv) : toT f δ = (f δ).bind truD := rfl
@[simp] theorem e_truB (b : Bool) : truD (.bl b) = .ok b := rfl
@[simp] theorem e_truI (i : Int) : truD (.int i) = .ok (i != 0) := rfl
@[simp] theorem e_truN : truD .non = .ok false := rfl
@[simp] theorem e_truL (ds : List D) : truD (.lst ds) = .ok (!ds.isEmpty) := rfl
@[simp] theorem e_truT (ds : List D) : truD (.tup ds) = .ok (!ds.isEmpty) := rfl
def R.an : R Bool → (DEnv → R Bool) → DEnv → R Bool
  | .ok b, g, δ => if b = true then g δ else .ok false
  | .err x, _, _ => .err x
  | .stk, _, _ => .stk
def R.orr : R Bool → (DEnv → R Bool) → DEnv → R Bool
  | .ok b, g, δ => if b = true then .ok true else g δ
  | .err x, _, _ => .err x
  | .stk, _, _ => .stk
@[simp] theorem e_andB (f g : DEnv → R Bool) (δ : DEnv) : andB f g δ = (f δ).an g δ := by unfold andB; cases f δ <;> rfl
@[simp] theorem e_orB (f g : DEnv → R Bool) (δ : DEnv) : orB f g δ = (f δ).orr g δ := by unfold orB; cases f δ <;> rfl
@[simp] theorem an_t (g : DEnv → R Bool) (δ : DEnv) : R.an (.ok true) g δ = g δ := rfl
@[simp] theorem an_f (g : DEnv → R Bool) (δ : DEnv) : R.an (.ok false) g δ = .ok false := rfl
@[simp] theorem orr_t (g : DEnv → R Bool) (δ : DEnv) : R.orr (.ok true) g δ = .ok true := rfl
@[simp] theorem orr_f (g : DEnv → R Bool) (δ : DEnv) : R.orr (.ok false) g δ = g δ := rfl
theorem an_b (b : Bool) (g : DEnv → R Bool) (δ : DEnv) : R.an (.ok b) g δ = if b = true then g δ else .ok false := rfl
theorem orr_b (b : Bool) (g : DEnv → R Bool) (δ : DEnv) : R.orr (.ok b) g δ = if b = true then .ok true else g δ := rfl
def R.nt : R Bool → R Bool
  | .ok b => .ok (!b)
  | .err x => .err x
  | .stk => .stk
@[simp] theorem e_notB (f : DEnv → R Bool) (δ : DEnv) : notB f δ = (f δ).nt := by unfold notB; cases f δ <;> rfl
@[simp] theorem nt_ok (b : Bool) : R.nt (.ok b) = .ok (!b) := rfl
def R.anV : R D → (DEnv → R D) → DEnv → R D
  | .ok (.bl true), g, δ => g δ
  | .ok (.bl false), _, _ => .ok (.bl false)
  | .err x, _, _ => .err x
  | _, _, _ => .stk
def R.orV : R D → (DEnv → R D) → DEnv → R D
  | .ok (.bl false), g, δ => g δ
  | .ok (.bl true), _, _ => .ok (.bl true)
  | .err x, _, _ => .err x
  | _, _, _ => .stk
@[simp] theorem e_andV (f g : DEnv → R D) (δ : DEnv) : andV f g δ = (f δ).anV g δ := by unfold andV; rcases f δ with (_|(_|_)|_|_|_|_|_) | _ | _ <;> rfl
@[simp] theorem e_orV (f g : DEnv → R D) (δ : DEnv) : DL.orV f g δ = (f δ).orV g δ := by unfold DL.orV; rcases f δ with (_|(_|_)|_|_|_|_|_) | _ | _ <;> rfl
@[simp] theorem anV_t (g : DEnv → R D) (δ : DEnv) : R.anV (.ok (.bl true)) g δ = g δ := rfl
@[simp] theorem anV_f (g : DEnv → R D) (δ : DEnv) : R.anV (.ok (.bl false)) g δ = .ok (.bl false) := rfl
@[simp] theorem orV_t (g : DEnv → R D) (δ : DEnv) : R.orV (.ok (.bl true)) g δ = .ok (.bl true) := rfl
@[simp] theorem orV_f (g : DEnv → R D) (δ : DEnv) : R.orV (.ok (.bl false)) g δ = g δ := rfl
theorem anV_b (b : Bool) (g : DEnv → R D) (δ : DEnv) : R.anV (.ok (.bl b)) g δ = if b = true then g δ else .ok (.bl false) := by cases b <;> rfl
theorem orV_b (b : Bool) (g : DEnv → R D) (δ : DEnv) : R.orV (.ok (.bl b)) g δ = if b = true then .ok (.bl true) else g δ := by cases b <;> rfl
@[simp] theorem e_notD (b : Bool) : notD (.bl b) = .ok (.bl (!b)) := rfl
def R.ifV : R Bool → (DEnv → R D) → (DEnv → R D) → DEnv → R D
  | .ok b, f, g, δ => if b = true then f δ else g δ
  | .err x, _, _, _ => .err x
  | .stk, _, _, _ => .stk
@[simp] theorem e_ifV (c : DEnv → R Bool) (f g : DEnv → R D) (δ : DEnv) : DL.ifV c f g δ = (c δ).ifV f g δ := by unfold DL.ifV; cases c δ <;> rfl
@[simp] theorem ifV_t (f g : DEnv → R D) (δ : DEnv) : R.ifV (.ok true) f g δ = f δ := rfl
@[simp] theorem ifV_f (f g : DEnv → R D) (δ : DEnv) : R.ifV (.ok false) f g δ = g δ := rfl
theorem ifV_b (b : Bool) (f g : DEnv → R D) (δ : DEnv) : R.ifV (.ok b) f g δ = if b = true then f δ else g δ := rfl
def R.ch (h h' : D → D → R D) : R D → R D → (DEnv → R D) → DEnv → R D
  | .ok d, .ok e, w, δ => (h d e).anV (fun δ => (w δ).bind fun z => h' e z) δ
  | .ok _, .err x, _, _ => .err x
  | .ok _, .stk, _, _ => .stk
  | .err x, _, _, _ => .err x
  | .stk, _, _, _ => .stk
@[simp] theorem e_chain (h h' : D → D → R D) (f g w : DEnv → R D) (δ : DEnv) : chainD h h' f g w δ = R.ch h h' (f δ) (g δ) w δ := by
  unfold chainD
  cases f δ with
  | ok d =>
    cases g δ with
    | ok e =>
      show (h d e).bind _ = R.anV _ _ _
      rcases h d e with (_|(_|_)|_|_|_|_|_) | _ | _ <;> rfl
    | err x => rfl
    | stk => rfl
  | err x => rfl
  | stk => rfl
@[simp] theorem ch_ok (h h' : D → D → R D) (d e : D) (w : DEnv → R D) (δ : DEnv) : R.ch h h' (.ok d) (.ok e) w δ = (h d e).anV (fun δ => (w δ).bind fun z => h' e z) δ := rfl
/-! operators on data -/
@[simp] theorem o_add (i j : Int) : addD (.int i) (.int j) = .ok (.int (i + j)) := rfl
@[simp] theorem o_iadd (i j : Int) : iaddD (.int i) (.int j) = .ok (.int (i + j)) := rfl
@[simp] theorem o_sub (i j : Int) : subD (.int i) (.int j) = .ok (.int (i - j)) := rfl
@[simp] theorem o_neg (i : Int) : negD (.int i) = .ok (.int (-i)) := rfl
@[simp] theorem o_int (i : Int) : intD [.int i] = .ok (.int i) := rfl
@[simp] theorem o_intb (b : Bool) : intD [.bl b] = .ok (.int (if b then 1 else 0)) := rfl
@[simp] theorem o_abs (i : Int) : absD [.int i] = .ok (.int (if i < 0 then -i else i)) := rfl
@[simp] theorem o_gcd (i j : Int) : gcdD [.int i, .int j] = .ok (.int ((Nat.gcd i.natAbs j.natAbs : Nat) : Int)) := rfl
@[simp] theorem o_lt (i j : Int) : ltD (.int i) (.int j) = .ok (.bl (decide (i < j))) := rfl
@[simp] theorem o_le (i j : Int) : leD (.int i) (.int j) = .ok (.bl (decide (i ≤ j))) := rfl
@[simp] theorem o_gt (i j : Int) : gtD (.int i) (.int j) = .ok (.bl (decide (j < i))) := rfl
@[simp] theorem o_ge (i j : Int) : geD (.int i) (.int j) = .ok (.bl (decide (j ≤ i))) := rfl
@[simp] theorem o_lenL (ds : List D) : lenD [.lst ds] = .ok (.int ds.length) := rfl
@[simp] theorem o_lenT (ds : List D) : lenD [.tup ds] = .ok (.int ds.length) := rfl
@[simp] theorem o_lenS (ds : List D) : lenD [.scr ds] = .ok (.int ds.length) := rfl
@[simp] theorem o_listL (ds : List D) : listD [.lst ds] = .ok (.lst ds) := rfl
@[simp] theorem o_isN : isND .non = .ok (.bl true) := rfl
@[simp] theorem o_notN : notND .non = .ok (.bl false) := rfl
@[simp] theorem o_isB (a b : Bool) : isBD (.bl a) (.bl b) = .ok (.bl (decide (a = b))) := rfl
@[simp] theorem o_notisB (a b : Bool) : notBD (.bl a) (.bl b) = .ok (.bl (!decide (a = b))) := rfl
@[simp] theorem o_isi (T : String) (d : D) : isiD T d = .ok (.bl (isTb (tyN d) T)) := rfl
@[simp] theorem ty_non : tyN .non = "NoneType" := rfl
@[simp] theorem ty_bl (b : Bool) : tyN (.bl b) = "bool" := rfl
@[simp] theorem ty_int (i : Int) : tyN (.int i) = "int" := rfl
@[simp] theorem ty_str (x : PySem.Str) : tyN (.str x) = "str" := rfl
@[simp] theorem ty_tup (ds : List D) : tyN (.tup ds) = "tuple" := rfl
@[simp] theorem ty_lst (ds : List D) : tyN (.lst ds) = "list" := rfl
@[simp] theorem ty_scr (ds : List D) : tyN (.scr ds) = "list" := rfl
@[simp] theorem isT_ii : isTb "int" "int" = true := by decide
@[simp] theorem isT_ib : isTb "int" "bool" = false := by decide
@[simp] theorem isT_it : isTb "int" "tuple" = false := by decide
@[simp] theorem isT_il : isTb "int" "list" = false := by decide
@[simp] theorem isT_tt : isTb "tuple" "tuple" = true := by decide
@[simp] theorem isT_ti : isTb "tuple" "int" = false := by decide
@[simp] theorem isT_tb : isTb "tuple" "bool" = false := by decide
@[simp] theorem isT_tl : isTb "tuple" "list" = false := by decide
@[simp] theorem isT_ll : isTb "list" "list" = true := by decide
@[simp] theorem isT_li : isTb "list" "int" = false := by decide
@[simp] theorem isT_lb : isTb "list" "bool" = false := by decide
@[simp] theorem isT_lt : isTb "list" "tuple" = false := by decide
@[simp] theorem isT_bb : isTb "bool" "bool" = true := by decide
@[simp] theorem isT_bi : isTb "bool" "int" = true := by decide
theorem o_mul {i j : Int} (h : mulOk i j = true) : mulD (.int i) (.int j) = .ok (.int (i * j)) := by show (if mulOk i j = true then _ else _) = _; rw [if_pos h]
theorem o_fdiv {i j : Int} (h : divOk j = true) : fdivD (.int i) (.int j) = .ok (.int (i.fdiv j)) := by show (if divOk j = true then _ else _) = _; rw [if_pos h]
theorem o_mod {i j : Int} (h : j ≠ 0) : modD (.int i) (.int j) = .ok (.int (i.fmod j)) := by show (if j ≠ 0 then _ else _) = _; rw [if_pos h]
theorem o_modp {i j : Int} (h : 0 < j) : modD (.int i) (.int j) = .ok (.int (i % j)) := by
  rw [o_mod (by omega), Int.fmod_eq_emod_of_nonneg _ (by omega)]
theorem o_fdivp {i j : Int} (h : divOk j = true) (h2 : 0 < j) : fdivD (.int i) (.int j) = .ok (.int (i / j)) := by
  rw [o_fdiv h, Int.fdiv_eq_ediv_of_nonneg _ (by omega)]
theorem mulOk_l {i j : Int} (h : -(2 ^ 64) < i) (h2 : i < 2 ^ 64) : mulOk i j = true := by unfold mulOk; simp; left; left; exact ⟨by simpa using h, by simpa using h2⟩
theorem mulOk_r {i j : Int} (h : -(2 ^ 64) < j) (h2 : j < 2 ^ 64) : mulOk i j = true := by unfold mulOk; simp; left; right; exact ⟨by simpa using h, by simpa using h2⟩
/-! equality -/
@[simp] theorem q_int (i j : Int) : eqv (.int i) (.int j) = decide (i = j) := by
  unfold eqv
  simp only [toPy]
  rw [PyData.eqv]
  rfl
@[simp] theorem o_eqI (i j : Int) : eqD (.int i) (.int j) = .ok (.bl (decide (i = j))) := by unfold eqD; rw [if_pos ⟨rfl, rfl⟩, q_int]
@[simp] theorem o_neI (i j : Int) : neD (.int i) (.int j) = .ok (.bl (!decide (i = j))) := by unfold neD; rw [if_pos ⟨rfl, rfl⟩, q_int]
@[simp] theorem q_bl (a b : Bool) : eqv (.bl a) (.bl b) = decide (a = b) := by
  unfold eqv
  simp only [toPy]
  rw [PyData.eqv]
  cases a <;> cases b <;> rfl
@[simp] theorem o_eqB (a b : Bool) : eqD (.bl a) (.bl b) = .ok (.bl (decide (a = b))) := by unfold eqD; rw [if_pos ⟨rfl, rfl⟩, q_bl]
@[simp] theorem o_neB (a b : Bool) : neD (.bl a) (.bl b) = .ok (.bl (!decide (a = b))) := by unfold neD; rw [if_pos ⟨rfl, rfl⟩, q_bl]
mutual
theorem eqv_refl' : ∀ d : D, PyData.eqv (toPy d) (toPy d) = true
  | .non => by simp [toPy, PyData.eqv]
  | .bl _ => by simp [toPy, PyData.eqv]
  | .int _ => by simp [toPy, PyData.eqv]
  | .str _ => by simp [toPy, PyData.eqv]
  | .tup ds => by simp [toPy, PyData.eqv, eqvL_refl ds]
  | .lst ds => by simp [toPy, PyData.eqv, eqvL_refl ds]
  | .scr ds => by simp [toPy, PyData.eqv, eqvL_refl ds]
theorem eqvL_refl : ∀ ds : List D, PyData.eqvAll (toPyL ds) (toPyL ds) = true
  | [] => by simp [toPyL, PyData.eqvAll]
  | d :: ds => by simp [toPyL, PyData.eqvAll, eqv_refl' d, eqvL_refl ds]
end
@[simp] theorem eqv_refl (d : D) : eqv d d = true := eqv_refl' d
theorem eqv_tup (xs ys : List D) : eqv (.tup xs) (.tup ys) = PyData.eqvAll (toPyL xs) (toPyL ys) := by unfold eqv; simp only [toPy]; rw [PyData.eqv]
theorem eqv_lst (xs ys : List D) : eqv (.lst xs) (.lst ys) = PyData.eqvAll (toPyL xs) (toPyL ys) := by unfold eqv; simp only [toPy]; rw [PyData.eqv]
theorem eqvAll_cons (x y : D) (xs ys : List D) : PyData.eqvAll (toPyL (x :: xs)) (toPyL (y :: ys)) = (eqv x y && PyData.eqvAll (toPyL xs) (toPyL ys)) := by simp only [toPyL]; rw [PyData.eqvAll]; rfl
@[simp] theorem q_ii (a b c d : Int) : eqv (.tup [.int a, .int b]) (.tup [.int c, .int d]) = decide (a = c ∧ b = d) := by
  rw [eqv_tup, eqvAll_cons, eqvAll_cons, q_int, q_int]
  simp only [toPyL, PyData.eqvAll, Bool.and_true]
  by_cases h1 : a = c <;> by_cases h2 : b = d <;> simp [h1, h2]
@[simp] theorem o_eqII (a b c d : Int) : eqD (.tup [.int a, .int b]) (.tup [.int c, .int d]) = .ok (.bl (decide (a = c ∧ b = d))) := by unfold eqD; rw [if_pos ⟨rfl, rfl⟩, q_ii]
@[simp] theorem o_neII (a b c d : Int) : neD (.tup [.int a, .int b]) (.tup [.int c, .int d]) = .ok (.bl (!decide (a = c ∧ b = d))) := by unfold neD; rw [if_pos ⟨rfl, rfl⟩, q_ii]
theorem eqD_refl {d : D} (h : shp d 8 = true) : eqD d d = .ok (.bl true) := by unfold eqD; rw [if_pos ⟨h, h⟩, eqv_refl]
theorem neD_refl {d : D} (h : shp d 8 = true) : neD d d = .ok (.bl false) := by unfold neD; rw [if_pos ⟨h, h⟩, eqv_refl]; rfl
/-! places -/
@[simp] theorem e_put (i : Nat) (d : D) (δ : DEnv) : putD i d δ = if i < δ.length then .ok (δ.set i (some d)) else .stk := rfl
@[simp] theorem e_nilT (δ : DEnv) : nilT [] δ = .ok δ := rfl
@[simp] theorem e_consT (h : D → DEnv → R DEnv) (hs : List D → DEnv → R DEnv) (d : D) (r : List D) (δ : DEnv) : consT h hs (d :: r) δ = (h d δ).bind fun δ1 => hs r δ1 := rfl
@[simp] theorem e_tupT (hs : List D → DEnv → R DEnv) (ds : List D) (δ : DEnv) : tupT hs (.tup ds) δ = hs ds δ := rfl
theorem idx_lst {ds : List D} {i : Int} {d : D} (h : 0 ≤ i) (h2 : ds[i.toNat]? = some d) : idxD (.lst ds) (.int i) = .ok d := by
  have hl : i.toNat < ds.length := by
    rcases Nat.lt_or_ge i.toNat ds.length with q | q
    · exact q
    · rw [List.getElem?_eq_none q] at h2; cases h2
  have e : atI ds i = some d := by
    have e2 : i = (i.toNat : Nat) := by omega
    rw [e2]
    exact atI_nat h2
  show (match atI ds i with | some d => R.ok d | none => R.stk) = _
  rw [e]
theorem idx_tup {ds : List D} {i : Int} {d : D} (h : 0 ≤ i) (h2 : ds[i.toNat]? = some d) : idxD (.tup ds) (.int i) = .ok d := by
  exact (show idxD (.lst ds) (.int i) = .ok d from idx_lst h h2)
@[simp] theorem idx_t0 (a : D) (ds : List D) : idxD (.tup (a :: ds)) (.int 0) = .ok a := idx_tup (by decide) rfl
@[simp] theorem idx_t1 (a b : D) (ds : List D) : idxD (.tup (a :: b :: ds)) (.int 1) = .ok b := idx_tup (by decide) rfl
@[simp] theorem idx_t2 (a b c : D) (ds : List D) : idxD (.tup (a :: b :: c :: ds)) (.int 2) = .ok c := idx_tup (by decide) rfl
/-! the body -/
theorem e_run (m : Nat) (g : DEnv → Fl) (ds : List D) : runD m g ds = fnRes (g (startD m ds)) := rfl
@[simp] theorem fn_nx (δ : DEnv) : fnRes (.nx δ) = .ok .non := rfl
@[simp] theorem fn_rt (d : D) : fnRes (.rt d) = .ok d := rfl
@[simp] theorem fn_ex (x : Exn) (δ : DEnv) : fnRes (.ex x δ) = .err x := rfl
@[simp] theorem e_start (m : Nat) (ds : List D) : startD m ds = ds.map some ++ List.replicate (m - ds.length) none := rfl
@[simp] theorem e_raise (nm : String) (δ : DEnv) : raiseF nm δ = .ex ⟨nm⟩ δ := rfl
@[simp] theorem e_yes (δ : DEnv) : yesB δ = .ok true := rfl
theorem itS_l (f : DEnv → R D) (δ : DEnv) (ds : List D) (h : f δ = .ok (.lst ds)) : itS f δ = .ok ds := by unfold itS; rw [h]; rfl
theorem itS_t (f : DEnv → R D) (δ : DEnv) (ds : List D) (h : f δ = .ok (.tup ds)) : itS f δ = .ok ds := by unfold itS; rw [h]; rfl
theorem itS_s (f : DEnv → R D) (δ : DEnv) (ds : List D) (h : f δ = .ok (.scr ds)) : itS f δ = .ok ds := by unfold itS; rw [h]; rfl
def sqK : D → R (List D)
  | .lst ds => .ok ds
  | .scr ds => .ok ds
  | .tup ds => .ok ds
  | _ => .stk
@[simp] theorem e_itS (f : DEnv → R D) (δ : DEnv) : itS f δ = (f δ).bind sqK := by unfold itS; rcases f δ with (_|_|_|_|_|_|_) | _ | _ <;> rfl
@[simp] theorem sqK_l (ds : List D) : sqK (.lst ds) = .ok ds := rfl
@[simp] theorem sqK_t (ds : List D) : sqK (.tup ds) = .ok ds := rfl
@[simp] theorem sqK_s (ds : List D) : sqK (.scr ds) = .ok ds := rfl
def zpK : List D → R (List D)
  | [.lst xs, .lst ys] => .ok (zipPairs xs ys)
  | [.tup xs, .tup ys] => .ok (zipPairs xs ys)
  | _ => .stk
@[simp] theorem e_zip (fs : DEnv → R (List D)) (δ : DEnv) : zipA fs δ = (fs δ).bind zpK := rfl
@[simp] theorem zpK_l (xs ys : List D) : zpK [.lst xs, .lst ys] = .ok (zipPairs xs ys) := rfl
@[simp] theorem zpK_t (xs ys : List D) : zpK [.tup xs, .tup ys] = .ok (zipPairs xs ys) := rfl
open Classical in
noncomputable def rgK : List D → R (List D)
  | [.int j] => if smR j then .ok (intsFrom 0 j.toNat) else .stk
  | _ => .stk
@[simp] theorem e_rng1 (fs : DEnv → R (List D)) (δ : DEnv) : rng1 fs δ = (fs δ).bind rgK := by unfold rng1; cases fs δ <;> rfl
theorem rgK_ok {j : Int} (h : -(2 ^ 62) ≤ j) (h2 : j < 2 ^ 62) : rgK [.int j] = .ok (intsFrom 0 j.toNat) := by unfold rgK; simp only; rw [if_pos ⟨h, h2⟩]
/-! loops -/
theorem forD_nil (h : D → DEnv → R DEnv) (b : DEnv → Fl) (δ : DEnv) : forD h b [] δ = .nx δ := rfl
/-- a loop that runs through -/
theorem for_thru {h : D → DEnv → R DEnv} {b : DEnv → Fl} (I : List D → DEnv → Prop) (step : ∀ d ds δ, I (d :: ds) δ → ∃ δ1 δ2, h d δ = .ok δ1 ∧ (b δ1 = .nx δ2 ∨ b δ1 = .ct δ2) ∧ I ds δ2) : ∀ (items : List D) (δ : DEnv), I items δ → ∃ δ', forD h b items δ = .nx δ' ∧ I [] δ'
  | [], δ, hI => ⟨δ, rfl, hI⟩
  | d :: ds, δ, hI => by
    obtain ⟨δ1, δ2, h1, h2, h3⟩ := step d ds δ hI
    obtain ⟨δ', h4, h5⟩ := for_thru I step ds δ2 h3
    refine ⟨δ', ?_, h5⟩
    unfold forD
    rw [h1]
    rcases h2 with h2 | h2 <;> simp only [h2] <;> exact h4
/-- a loop: it runs through, or returns on its way -/
theorem for_ret {h : D → DEnv → R DEnv} {b : DEnv → Fl} (I : List D → DEnv → Prop) (P : D → Prop) (step : ∀ d ds δ, I (d :: ds) δ → ∃ δ1, h d δ = .ok δ1 ∧ ((∃ δ2, (b δ1 = .nx δ2 ∨ b δ1 = .ct δ2) ∧ I ds δ2) ∨ ∃ v, b δ1 = .rt v ∧ P v)) :
    ∀ (items : List D) (δ : DEnv), I items δ → (∃ δ', forD h b items δ = .nx δ' ∧ I [] δ') ∨ ∃ v, forD h b items δ = .rt v ∧ P v
  | [], δ, hI => .inl ⟨δ, rfl, hI⟩
  | d :: ds, δ, hI => by
    obtain ⟨δ1, h1, h2⟩ := step d ds δ hI
    rcases h2 with ⟨δ2, h2, h3⟩ | ⟨v, h2, h3⟩
    · rcases for_ret I P step ds δ2 h3 with ⟨δ', h4, h5⟩ | ⟨v, h4, h5⟩
      · refine .inl ⟨δ', ?_, h5⟩
        unfold forD
        rw [h1]
        rcases h2 with h2 | h2 <;> simp only [h2] <;> exact h4
      · refine .inr ⟨v, ?_, h5⟩
        unfold forD
        rw [h1]
        rcases h2 with h2 | h2 <;> simp only [h2] <;> exact h4
    · refine .inr ⟨v, ?_, h3⟩
      unfold forD
      rw [h1]
      simp only [h2]
/-- a while loop under a measure -/
theorem while_run {c : DEnv → R Bool} {b : DEnv → Fl} (I : Nat → DEnv → Prop) (step : ∀ n δ, I n δ → (c δ = .ok false) ∨ (c δ = .ok true ∧ ∃ δ2 m, (b δ = .nx δ2 ∨ b δ = .ct δ2) ∧ m < n ∧ I m δ2)) :
    ∀ (n : Nat) (δ : DEnv), I n δ → ∃ δ' m, whileF c b δ = .nx δ' ∧ c δ' = .ok false ∧ I m δ' := by
  have key : ∀ (n : Nat) (δ : DEnv), I n δ → ∃ δ' m k, whileN c b k δ = .nx δ' ∧ c δ' = .ok false ∧ I m δ' := by
    intro n
    induction n using Nat.strongRecOn with
    | ind n ih =>
      intro δ hI
      rcases step n δ hI with h | ⟨h, δ2, m, hb, hm, hI2⟩
      · exact ⟨δ, n, 1, by simp [whileN, h], h, hI⟩
      · obtain ⟨δ', m', k, hk, hc, hI'⟩ := ih m hm δ2 hI2
        refine ⟨δ', m', k + 1, ?_, hc, hI'⟩
        rcases hb with hb | hb <;> simp only [whileN, h, hb] <;> exact hk
  intro n δ hI
  obtain ⟨δ', m, k, hk, hc, hI'⟩ := key n δ hI
  exact ⟨δ', m, whileF_of hk (by simp), hc, hI'⟩
/-! new lists -/
theorem comp_ok {vs : List Nat} {h : D → DEnv → R DEnv} {c : DEnv → R Bool} {el : DEnv → R D} {δ : DEnv} (g : D → D) : ∀ {ds : List D}, (∀ d ∈ ds, ∃ δ1, h d (wipeD δ vs) = .ok δ1 ∧ c δ1 = .ok true ∧ el δ1 = .ok (g d)) → compD vs h c el δ ds = .ok (ds.map g)
  | [], _ => rfl
  | d :: ds, H => by
    obtain ⟨δ1, h1, h2, h3⟩ := H d List.mem_cons_self
    unfold compD
    rw [h1]
    simp only [R.bind_ok, h2, if_true, h3]
    rw [comp_ok g fun d' hd => H d' (List.mem_cons_of_mem _ hd)]
    rfl
def R.lc (vs : List Nat) (h : D → DEnv → R DEnv) (c : DEnv → R Bool) (el : DEnv → R D) : R (List D) → DEnv → R D
  | .ok items, δ => (compD vs h c el δ items).ne.bind fun r => if r.length ≤ sizeLine then .ok (.lst r) else .stk
  | .err x, _ => .err x
  | .stk, _ => .stk
@[simp] theorem e_lc (vs : List Nat) (f : DEnv → R (List D)) (h : D → DEnv → R DEnv) (c : DEnv → R Bool) (el : DEnv → R D) (δ : DEnv) : lcD vs f h c el δ = R.lc vs h c el (f δ) δ := by unfold lcD; cases f δ <;> rfl
theorem lc_ok {vs : List Nat} {h : D → DEnv → R DEnv} {c : DEnv → R Bool} {el : DEnv → R D} {δ : DEnv} (g : D → D) {ds : List D} (H : ∀ d ∈ ds, ∃ δ1, h d (wipeD δ vs) = .ok δ1 ∧ c δ1 = .ok true ∧ el δ1 = .ok (g d)) (hl : ds.length ≤ 16777216) :
    R.lc vs h c el (.ok ds) δ = .ok (.lst (ds.map g)) := by
  unfold R.lc
  simp only [comp_ok g H, R.ne_ok, R.bind_ok, List.length_map]
  rw [if_pos (by rw [sizeLine_eq]; exact hl)]
/-! errors -/
def Fl.tr (i : Nat) (ms : List (String × Bool)) (gs : String → DEnv → Fl) : Fl → Fl
  | .ex x δ' => (match ms.lookup x.cls with
    | some true => if i < δ'.length then unsetF i (gs x.cls (δ'.set i none)) else .stk
    | some false => .ex x δ'
    | none => .stk)
  | .nx δ' => .nx δ'
  | .bk δ' => .bk δ'
  | .ct δ' => .ct δ'
  | .rt d => .rt d
  | .stk => .stk
@[simp] theorem e_try (i : Nat) (ms : List (String × Bool)) (g : DEnv → Fl) (gs : String → DEnv → Fl) (δ : DEnv) : tryF i ms g gs δ = (g δ).tr i ms gs := by unfold tryF; cases g δ <;> rfl
@[simp] theorem tr_nx (i : Nat) (ms : List (String × Bool)) (gs : String → DEnv → Fl) (δ : DEnv) : Fl.tr i ms gs (.nx δ) = .nx δ := rfl
@[simp] theorem tr_rt (i : Nat) (ms : List (String × Bool)) (gs : String → DEnv → Fl) (d : D) : Fl.tr i ms gs (.rt d) = .rt d := rfl
theorem tr_ex (i : Nat) (ms : List (String × Bool)) (gs : String → DEnv → Fl) {nm : String} (δ : DEnv) (h : ms.lookup nm = some true) (hi : i < δ.length) : Fl.tr i ms gs (.ex ⟨nm⟩ δ) = unsetF i (gs nm (δ.set i none)) := by unfold Fl.tr; simp only [h]; rw [if_pos hi]
@[simp] theorem un_nx (i : Nat) (δ : DEnv) : unsetF i (.nx δ) = .nx (δ.set i none) := rfl
@[simp] theorem un_rt (i : Nat) (d : D) : unsetF i (.rt d) = .rt d := rfl
def Fl.tro (ms : List (String × Bool)) (gs : DEnv → Fl) : Fl → Fl
  | .ex x δ' => (match ms.lookup x.cls with
    | some true => (match gs δ' with | .ex _ _ => .stk | r => r)
    | some false => .ex x δ'
    | none => .stk)
  | .nx δ' => .nx δ'
  | .bk δ' => .bk δ'
  | .ct δ' => .ct δ'
  | .rt d => .rt d
  | .stk => .stk
@[simp] theorem e_tryO (ms : List (String × Bool)) (g gs : DEnv → Fl) (δ : DEnv) : tryOF ms g gs δ = (g δ).tro ms gs := by unfold tryOF; cases g δ <;> rfl
@[simp] theorem tro_nx (ms : List (String × Bool)) (gs : DEnv → Fl) (δ : DEnv) : Fl.tro ms gs (.nx δ) = .nx δ := rfl
theorem tro_ex (ms : List (String × Bool)) (gs : DEnv → Fl) {nm : String} (δ δ' : DEnv) (h : ms.lookup nm = some true) (hg : gs δ = .nx δ') : Fl.tro ms gs (.ex ⟨nm⟩ δ) = .nx δ' := by unfold Fl.tro; simp only [h, hg]
theorem e_isE {tbl : List (String × Bool)} {nm : String} {b : Bool} (δ : DEnv) (h : tbl.lookup nm = some b) : isE tbl nm δ = .ok (.bl b) := by unfold isE; rw [h]
end DL

set_option maxRecDepth 100001
set_option maxHeartbeats 1000001
namespace DL
open PySem PySem.Spec PyProof.Rows L2
/-! ### sizes -/
def Bz (k : Nat) (i : Int) : Prop := i.natAbs < 2 ^ k
theorem Bz.mono {k l : Nat} {i : Int} (h : Bz k i) (hk : k ≤ l) : Bz l i := Nat.lt_of_lt_of_le h (Nat.pow_le_pow_right (by decide) hk)
theorem Bz.neg {k : Nat} {i : Int} (h : Bz k i) : Bz k (-i) := by unfold Bz at *; rw [Int.natAbs_neg]; exact h
theorem Bz.mul {k l : Nat} {i j : Int} (h : Bz k i) (h2 : Bz l j) : Bz (k + l) (i * j) := by
  unfold Bz at *
  rw [Int.natAbs_mul, Nat.pow_add]
  exact Nat.mul_lt_mul'' h h2
theorem Bz.add {k l : Nat} {i j : Int} (h : Bz k i) (h2 : Bz l j) : Bz (max k l + 1) (i + j) := by
  have a := h.mono (Nat.le_max_left k l)
  have b := h2.mono (Nat.le_max_right k l)
  unfold Bz at *
  have := Int.natAbs_add_le i j
  rw [Nat.pow_succ]
  omega
theorem Bz.le {k : Nat} {i j : Int} (h : Bz k i) (h2 : j.natAbs ≤ i.natAbs) : Bz k j := Nat.lt_of_le_of_lt h2 h
theorem Bz.lit {k : Nat} {i : Int} {m : Nat} (h : i.natAbs < m) (hm : m ≤ 2 ^ k) : Bz k i := Nat.lt_of_lt_of_le h hm
theorem log2_bz {k : Nat} {n : Nat} (h : n < 2 ^ k) (hk : 0 < k) : n.log2 < k := by
  by_cases e : n = 0
  · subst e; rw [Nat.log2_zero]; exact hk
  · exact (Nat.log2_lt e).2 h
theorem Bz.mulOk {i j : Int} (h : Bz 400000 i) (h2 : Bz 400000 j) : mulOk i j = true := by
  have a := log2_bz h (by decide)
  have b := log2_bz h2 (by decide)
  unfold DL.mulOk
  simp only [Bool.or_eq_true, decide_eq_true_eq]
  right
  omega
theorem Bz.divOk {j : Int} (h0 : j ≠ 0) (h : Bz 9000 j) : divOk j = true := by
  have a := log2_bz h (by decide)
  unfold DL.divOk
  simp only [Bool.and_eq_true, decide_eq_true_eq]
  exact ⟨h0, a⟩
theorem Bz.one {k : Nat} (h : 1 ≤ k) : Bz k 1 := (Bz.lit (k := 1) (m := 2) (by decide) (by decide)).mono h
theorem Bz.zero {k : Nat} : Bz k 0 := (Bz.lit (k := 0) (m := 1) (by decide) (by decide)).mono (by omega)
/-! ### primes -/
def Pm (p : Int) : Prop := p = 2 ∨ p = 3 ∨ p = 5 ∨ p = 7 ∨ p = 11
theorem Pm.pos {p : Int} (h : Pm p) : 0 < p := by rcases h with h | h | h | h | h <;> omega
theorem Pm.le {p : Int} (h : Pm p) : p ≤ 11 := by rcases h with h | h | h | h | h <;> omega
theorem Pm.two {p : Int} (h : Pm p) : 2 ≤ p := by rcases h with h | h | h | h | h <;> omega
theorem pm_nat : ∀ p : Nat, p ≤ 11 → (p = 2 ∨ p = 3 ∨ p = 5 ∨ p = 7 ∨ p = 11) → ∀ g, g ≤ 11 → g ∣ p → g = 1 ∨ g = p := by decide
theorem Pm.gcd {p d : Int} (h : Pm p) (hd : ¬ p ∣ d) : Nat.gcd p.natAbs d.natAbs = 1 := by
  have hp := h.pos
  have hl := h.le
  have hg : Nat.gcd p.natAbs d.natAbs ∣ p.natAbs := Nat.gcd_dvd_left _ _
  have hle : Nat.gcd p.natAbs d.natAbs ≤ p.natAbs := Nat.le_of_dvd (by omega) hg
  rcases pm_nat p.natAbs (by omega) (by rcases h with h | h | h | h | h <;> subst h <;> simp) _ (by omega) hg with q | q
  · exact q
  · exfalso
    apply hd
    have : p.natAbs ∣ d.natAbs := by rw [← q]; exact Nat.gcd_dvd_right _ _
    exact Int.natAbs_dvd_natAbs.mp this
theorem Pm.euclid {p a b : Int} (h : Pm p) (hab : p ∣ a * b) : p ∣ a ∨ p ∣ b := by
  by_cases q : p ∣ b
  · exact .inr q
  · left
    have c : Nat.Coprime p.natAbs b.natAbs := h.gcd q
    have d : p.natAbs ∣ a.natAbs * b.natAbs := by rw [← Int.natAbs_mul]; exact Int.natAbs_dvd_natAbs.mpr hab
    exact Int.natAbs_dvd_natAbs.mp (c.dvd_of_dvd_mul_right d)
theorem dvd_small {p k : Int} (hp : 0 < p) (h : p ∣ k) (h1 : -p < k) (h2 : k < p) : k = 0 := by
  obtain ⟨m, rfl⟩ := h
  rcases Int.lt_trichotomy m 0 with q | q | q
  · exfalso
    have : p * m ≤ p * (-1) := Int.mul_le_mul_of_nonneg_left (by omega) (by omega)
    omega
  · subst q; simp
  · exfalso
    have : p * 1 ≤ p * m := Int.mul_le_mul_of_nonneg_left (by omega) (by omega)
    omega
/-! ### the numbers of a field -/
/-- x is the number n / d of the field p -/
inductive Rp : Int → Int → Int → D → Prop
  | z {a b q : Int} : 0 < b → Int.gcd a b = 1 → q ≠ 0 → Rp 0 (a * q) (b * q) (.tup [.int a, .int b])
  | p {p n d k : Int} : Pm p → ¬ p ∣ d → 0 ≤ k → k < p → p ∣ k * d - n → Rp p n d (.int k)
theorem Rp.d0 {p n d : Int} {x : D} (h : Rp p n d x) : d ≠ 0 := by
  cases h with
  | z h1 h2 h3 => exact Int.mul_ne_zero (by omega) h3
  | p h1 h2 => intro e; subst e; exact h2 ⟨0, by simp⟩
theorem coprime_eq {a b a' b' : Int} (hb : 0 < b) (hb' : 0 < b') (h : Int.gcd a b = 1) (h' : Int.gcd a' b' = 1) (e : a * b' = a' * b) : a = a' ∧ b = b' := by
  have d1 : b.natAbs ∣ b'.natAbs := by
    have c : Nat.Coprime b.natAbs a.natAbs := by rw [Nat.coprime_comm]; exact h
    have : b.natAbs ∣ a.natAbs * b'.natAbs := by rw [← Int.natAbs_mul, e, Int.natAbs_mul]; exact Nat.dvd_mul_left _ _
    exact c.dvd_of_dvd_mul_left this
  have d2 : b'.natAbs ∣ b.natAbs := by
    have c : Nat.Coprime b'.natAbs a'.natAbs := by rw [Nat.coprime_comm]; exact h'
    have : b'.natAbs ∣ a'.natAbs * b.natAbs := by rw [← Int.natAbs_mul, ← e, Int.natAbs_mul]; exact Nat.dvd_mul_left _ _
    exact c.dvd_of_dvd_mul_left this
  have eb : b = b' := by
    have := Nat.dvd_antisymm d1 d2
    omega
  subst eb
  exact ⟨Int.eq_of_mul_eq_mul_right (by omega) e, rfl⟩
theorem Rp.uniq {p n d : Int} {x y : D} (h : Rp p n d x) (h' : Rp p n d y) : x = y := by
  cases h with
  | @z a b q h1 h2 h3 =>
    generalize en : a * q = n at h'
    generalize ed : b * q = d at h'
    generalize ep : (0 : Int) = p at h'
    cases h' with
    | @z a' b' q' k1 k2 k3 =>
      have e : a * b' = a' * b := by
        have e1 : (a * b') * (q * q') = (a' * b) * (q * q') := by
          calc (a * b') * (q * q') = (a * q) * (b' * q') := by ac_rfl
            _ = (a' * q') * (b * q) := by rw [en, ed]
            _ = (a' * b) * (q * q') := by ac_rfl
        exact Int.eq_of_mul_eq_mul_right (Int.mul_ne_zero h3 k3) e1
      obtain ⟨rfl, rfl⟩ := coprime_eq h1 k1 h2 k2 e
      rfl
    | p k1 => exact absurd k1.pos (by omega)
  | p h1 h2 h3 h4 h5 =>
    rename_i k
    cases h' with
    | z => exact absurd h1.pos (by omega)
    | p k1 k2 k3 k4 k5 =>
      rename_i k'
      have e : p ∣ (k - k') * d := by
        have := Int.dvd_sub h5 k5
        have e2 : (k - k') * d = k * d - n - (k' * d - n) := by rw [Int.sub_mul]; omega
        rw [e2]; exact this
      have e3 := (h1.euclid e).resolve_right h2
      have := dvd_small h1.pos e3 (by omega) (by omega)
      have : k = k' := by omega
      rw [this]
theorem Rp.eq {p n d n' d' : Int} {x y : D} (h : Rp p n d x) (h' : Rp p n' d' y) (e1 : n = n') (e2 : d = d') : x = y := by subst e1; subst e2; exact h.uniq h'
theorem Rp.cast {p n d n' d' : Int} {x : D} (h : Rp p n d x) (e1 : n = n') (e2 : d = d') : Rp p n' d' x := by subst e1; subst e2; exact h
/-- zero of the field -/
def Z0 (p n : Int) : Prop := if p = 0 then n = 0 else p ∣ n
def Fd (p : Int) : Prop := p = 0 ∨ Pm p
theorem natAbs_mul_le {a q : Int} (h : q ≠ 0) : a.natAbs ≤ (a * q).natAbs := by
  rw [Int.natAbs_mul]
  exact Nat.le_mul_of_pos_right _ (by omega)
/-- what the two whole numbers by their common part are -/
theorem low_of {n d : Int} (hd : d ≠ 0) : Rp 0 n d (.tup [.int (n.fdiv (if d < 0 then -((Nat.gcd n.natAbs d.natAbs : Nat) : Int) else ((Nat.gcd n.natAbs d.natAbs : Nat) : Int))), .int (d.fdiv (if d < 0 then -((Nat.gcd n.natAbs d.natAbs : Nat) : Int) else ((Nat.gcd n.natAbs d.natAbs : Nat) : Int)))]) := by
  have hg : Nat.gcd n.natAbs d.natAbs ≠ 0 := by
    intro e
    have := Nat.eq_zero_of_gcd_eq_zero_right e
    omega
  obtain ⟨k, hk⟩ : ((Nat.gcd n.natAbs d.natAbs : Nat) : Int) ∣ n := Int.gcd_dvd_left n d
  obtain ⟨l, hl⟩ : ((Nat.gcd n.natAbs d.natAbs : Nat) : Int) ∣ d := Int.gcd_dvd_right n d
  have hgcd : Int.gcd n d = Nat.gcd n.natAbs d.natAbs := rfl
  generalize hG : Nat.gcd n.natAbs d.natAbs = g at *
  have hkl : Int.gcd k l = 1 := by
    have e : Int.gcd ((g : Int) * k) ((g : Int) * l) = g := by rw [← hk, ← hl]; exact hgcd
    rw [Int.gcd_mul_left] at e
    have e2 : g * Int.gcd k l = g * 1 := by simpa using e
    exact Nat.eq_of_mul_eq_mul_left (by omega) e2
  have hg0 : (g : Int) ≠ 0 := by omega
  by_cases h : d < 0
  · rw [if_pos h]
    have e1 : n = (-k) * (-(g : Int)) := by rw [Int.neg_mul_neg, hk]; exact Int.mul_comm _ _
    have e2 : d = (-l) * (-(g : Int)) := by rw [Int.neg_mul_neg, hl]; exact Int.mul_comm _ _
    have hl0 : 0 < -l := by
      have : (g : Int) * l < 0 := by rw [← hl]; exact h
      rcases Int.lt_trichotomy l 0 with q | q | q
      · omega
      · subst q; simp at this
      · exact absurd (Int.mul_pos (by omega) q) (by omega : ¬ 0 < (g : Int) * l)
    have hk' : Int.gcd (-k) (-l) = 1 := by rw [Int.neg_gcd, Int.gcd_neg]; exact hkl
    have r := Rp.z (a := -k) (b := -l) (q := -(g : Int)) hl0 hk' (by omega)
    rw [← e1, ← e2] at r
    have f1 : n.fdiv (-(g : Int)) = -k := by
      conv => lhs; rw [e1]
      exact Int.mul_fdiv_cancel _ (by omega)
    have f2 : d.fdiv (-(g : Int)) = -l := by
      conv => lhs; rw [e2]
      exact Int.mul_fdiv_cancel _ (by omega)
    rw [f1, f2]
    exact r
  · rw [if_neg h]
    have e1 : n = k * (g : Int) := by rw [hk]; exact Int.mul_comm _ _
    have e2 : d = l * (g : Int) := by rw [hl]; exact Int.mul_comm _ _
    have hl0 : 0 < l := by
      have : 0 < (g : Int) * l := by rw [← hl]; omega
      rcases Int.lt_trichotomy l 0 with q | q | q
      · exact absurd (Int.mul_neg_of_pos_of_neg (by omega : 0 < (g : Int)) q) (by omega)
      · subst q; simp at this
      · exact q
    have r := Rp.z (a := k) (b := l) (q := (g : Int)) hl0 hkl (by omega)
    rw [← e1, ← e2] at r
    have f1 : n.fdiv (g : Int) = k := by
      conv => lhs; rw [e1]
      exact Int.mul_fdiv_cancel _ (by omega)
    have f2 : d.fdiv (g : Int) = l := by
      conv => lhs; rw [e2]
      exact Int.mul_fdiv_cancel _ (by omega)
    rw [f1, f2]
    exact r
theorem Rp.scale {n d r : Int} {x : D} (h : Rp 0 n d x) (hr : r ≠ 0) : Rp 0 (n * r) (d * r) x := by
  generalize ep : (0 : Int) = p at h
  cases h with
  | @z a b q h1 h2 h3 =>
    have := Rp.z (q := q * r) h1 h2 (Int.mul_ne_zero h3 hr)
    rw [← Int.mul_assoc, ← Int.mul_assoc] at this
    exact this
  | p h1 => exact absurd h1.pos (by omega)
theorem Rp.ex {p n : Int} (h : Fd p) {d : Int} (hd : if p = 0 then d ≠ 0 else d = 1) : ∃ x, Rp p n d x := by
  rcases h with h | h
  · subst h; simp at hd; exact ⟨_, low_of hd⟩
  · have hp := h.pos
    rw [if_neg (by omega)] at hd
    subst hd
    refine ⟨.int (n % p), Rp.p h (fun e => ?_) (Int.emod_nonneg _ (by omega)) (Int.emod_lt_of_pos _ hp) ?_⟩
    · have := Int.le_of_dvd (by decide) e
      have := h.two
      omega
    · rw [Int.mul_one]
      exact ⟨-(n / p), by have := Int.emod_add_mul_ediv n p; rw [Int.mul_neg]; omega⟩
theorem Rp.mk {p N Dn e : Int} (h : Pm p) (hd : ¬ p ∣ Dn) (he : p ∣ e * Dn - N) : Rp p N Dn (.int (e % p)) := by
  have hp := h.pos
  refine Rp.p h hd (Int.emod_nonneg _ (by omega)) (Int.emod_lt_of_pos _ hp) ?_
  obtain ⟨m, hm⟩ := he
  have e1 := Int.emod_add_mul_ediv e p
  refine ⟨m - (e / p) * Dn, ?_⟩
  generalize e / p = w at *
  generalize e % p = r at *
  grind
open Classical in
/-- the number n / d of the field p -/
noncomputable def nm (p n d : Int) : D := if h : ∃ x, Rp p n d x then h.choose else .non
theorem Rp.nm {p n d : Int} {x : D} (h : Rp p n d x) : x = DL.nm p n d := by
  have hex : ∃ x, Rp p n d x := ⟨x, h⟩
  unfold DL.nm
  rw [dif_pos hex]
  exact h.uniq hex.choose_spec
theorem Rp.rp {p n d : Int} {x : D} (h : Rp p n d x) : Rp p n d (DL.nm p n d) := by rw [← h.nm]; exact h
/-- n / d is a number of the field p -/
def Gd (p n d : Int) : Prop := Rp p n d (nm p n d)
theorem Rp.gd {p n d : Int} {x : D} (h : Rp p n d x) : Gd p n d := h.rp
theorem comp_map {α : Type} {vs : List Nat} {h : D → DEnv → R DEnv} {c : DEnv → R Bool} {el : DEnv → R D} {δ : DEnv} (e g : α → D) : ∀ {l : List α}, (∀ a ∈ l, ∃ δ1, h (e a) (wipeD δ vs) = .ok δ1 ∧ c δ1 = .ok true ∧ el δ1 = .ok (g a)) → compD vs h c el δ (l.map e) = .ok (l.map g)
  | [], _ => rfl
  | a :: l, H => by
    obtain ⟨δ1, h1, h2, h3⟩ := H a List.mem_cons_self
    show compD vs h c el δ (e a :: l.map e) = _
    unfold compD
    rw [h1]
    simp only [R.bind_ok, h2, if_true, h3]
    rw [comp_map e g fun a' ha => H a' (List.mem_cons_of_mem _ ha)]
    rfl
theorem lc_map {α : Type} {vs : List Nat} {h : D → DEnv → R DEnv} {c : DEnv → R Bool} {el : DEnv → R D} {δ : DEnv} (e g : α → D) {l : List α} (H : ∀ a ∈ l, ∃ δ1, h (e a) (wipeD δ vs) = .ok δ1 ∧ c δ1 = .ok true ∧ el δ1 = .ok (g a)) (hl : l.length ≤ 16777216) :
    R.lc vs h c el (.ok (l.map e)) δ = .ok (.lst (l.map g)) := by
  unfold R.lc
  simp only [comp_map e g H, R.ne_ok, R.bind_ok, List.length_map]
  rw [if_pos (by rw [sizeLine_eq]; exact hl)]
theorem zip_map {α β : Type} (e : α → D) (g : β → D) : ∀ (l : List α) (m : List β), zipPairs (l.map e) (m.map g) = (l.zip m).map fun x => .tup [e x.1, g x.2]
  | [], _ => by simp [zipPairs]
  | _ :: _, [] => by simp [zipPairs]
  | a :: l, b :: m => by simp [zipPairs, zip_map e g l m]
theorem inv_tab : ∀ p, p ≤ 11 → (p = 2 ∨ p = 3 ∨ p = 5 ∨ p = 7 ∨ p = 11) → ∀ k, k < p → k ≠ 0 → ((List.range p).any fun j => decide (1 ≤ j) && (j * k % p == 1)) = true := by decide
theorem Pm.inv {p k : Int} (h : Pm p) (h0 : 0 < k) (h1 : k < p) : ∃ j : Int, 1 ≤ j ∧ j < p ∧ j * k % p = 1 := by
  have hp := h.pos
  have hl := h.le
  have t := inv_tab p.toNat (by omega) (by rcases h with h | h | h | h | h <;> subst h <;> simp) k.toNat (by omega) (by omega)
  rw [List.any_eq_true] at t
  obtain ⟨j, a, bc⟩ := t
  rw [Bool.and_eq_true, decide_eq_true_eq, beq_iff_eq] at bc
  obtain ⟨b, c⟩ := bc
  rw [List.mem_range] at a
  refine ⟨(j : Int), by omega, by omega, ?_⟩
  have : ((j * k.toNat % p.toNat : Nat) : Int) = 1 := by rw [c]; rfl
  rw [Int.natCast_emod, Int.natCast_mul, Int.toNat_of_nonneg (by omega), Int.toNat_of_nonneg (by omega)] at this
  exact this
end DL

set_option maxRecDepth 100001
set_option maxHeartbeats 1000001
namespace DL
open PySem PySem.Spec PyProof.Rows L2
@[simp] theorem isT_ni : isTb "NoneType" "int" = false := by decide
@[simp] theorem isT_si : isTb "str" "int" = false := by decide
@[simp] theorem isT_nt : isTb "NoneType" "tuple" = false := by decide
@[simp] theorem isT_st : isTb "str" "tuple" = false := by decide
@[simp] theorem isT_bt : isTb "bool" "tuple" = false := by decide
def isI : D → Bool
  | .int _ => true
  | _ => false
theorem m_is_integer (d : D) : den_is_integer [d] = .ok (.bl (isI d)) := by
  cases d <;> simp [den_is_integer, e_run, body_is_integer, isI]
theorem mo_sm {a b : Int} (h : 0 ≤ a) (h2 : a < 11) : mulOk a b = true := mulOk_l (by omega) (by omega)
theorem dvd_emod {p a b : Int} (h : p ∣ a - b) : p ∣ a % p - b := by
  obtain ⟨m, hm⟩ := h
  exact ⟨m - a / p, by have := Int.emod_add_mul_ediv a p; rw [Int.mul_sub]; omega⟩
/-! number_of -/
theorem m_number_of {p : Int} (h : Fd p) (n : Int) : ∃ x, den_number_of [.int p, .int n] = .ok x ∧ Rp p n 1 x := by
  rcases h with rfl | h
  · refine ⟨_, by simp [den_number_of, e_run, body_number_of]; rfl, ?_⟩
    have := Rp.z (a := n) (b := 1) (q := 1) (by decide) (by simp) (by decide)
    exact this.cast (by simp) (by simp)
  · have hp := h.pos
    refine ⟨_, by simp [den_number_of, e_run, body_number_of, hp, o_modp]; rfl, ?_⟩
    refine Rp.p h (fun e => ?_) (Int.emod_nonneg _ (by omega)) (Int.emod_lt_of_pos _ hp) ?_
    · have := Int.le_of_dvd (by decide) e
      have := h.two
      omega
    · rw [Int.mul_one]
      exact dvd_emod ⟨0, by omega⟩
/-! lowest -/
theorem m_lowest {n d : Int} (hd : d ≠ 0) (bn : Bz 8000 n) (bd : Bz 8000 d) : ∃ x, den_lowest [.int n, .int d] = .ok x ∧ Rp 0 n d x := by
  have hg : Nat.gcd n.natAbs d.natAbs ≠ 0 := by
    intro e
    have := Nat.eq_zero_of_gcd_eq_zero_right e
    omega
  have hb : Bz 9000 ((Nat.gcd n.natAbs d.natAbs : Nat) : Int) := by
    refine (bd.le ?_).mono (by decide)
    rw [Int.natAbs_natCast]
    exact Nat.gcd_le_right _ (by omega)
  have dk : divOk ((Nat.gcd n.natAbs d.natAbs : Nat) : Int) = true := hb.divOk (by omega)
  have dk2 : divOk (-((Nat.gcd n.natAbs d.natAbs : Nat) : Int)) = true := hb.neg.divOk (by omega)
  refine ⟨_, ?_, low_of hd⟩
  by_cases h : d < 0
  · simp [den_lowest, e_run, body_lowest, h, o_fdiv, dk2]
  · simp [den_lowest, e_run, body_lowest, h, o_fdiv, dk]
/-! add -/
theorem m_add {p n d n' d' : Int} {x y : D} (h : Rp p n d x) (h' : Rp p n' d' y) (bn : Bz 2000 n) (bd : Bz 2000 d) (bn' : Bz 2000 n') (bd' : Bz 2000 d') : ∃ z, den_add [.int p, x, y] = .ok z ∧ Rp p (n * d' + n' * d) (d * d') z := by
  cases h with
  | @z a b q h1 h2 h3 =>
    generalize ep : (0 : Int) = p at h'
    cases h' with
    | p k1 => exact absurd k1.pos (by omega)
    | @z a' b' q' k1 k2 k3 =>
      have ba := bn.le (natAbs_mul_le h3)
      have bb := bd.le (natAbs_mul_le h3)
      have ba' := bn'.le (natAbs_mul_le k3)
      have bb' := bd'.le (natAbs_mul_le k3)
      have B1 := ba.mul bb'
      have B2 := ba'.mul bb
      have B3 := bb.mul bb'
      obtain ⟨z, hz, rz⟩ := m_lowest (n := a * b' + a' * b) (d := b * b') (Int.mul_ne_zero (by omega) (by omega)) ((B1.add B2).mono (by decide)) (B3.mono (by decide))
      refine ⟨z, ?_, ?_⟩
      · simp [den_add, e_run, body_add, o_mul, (ba.mono (by decide)).mulOk (bb'.mono (by decide)), (ba'.mono (by decide)).mulOk (bb.mono (by decide)), (bb.mono (by decide)).mulOk (bb'.mono (by decide)), hz]
      · refine (rz.scale (r := q * q') (Int.mul_ne_zero h3 k3)).cast ?_ (by ac_rfl)
        rw [Int.add_mul]
        congr 1 <;> ac_rfl
  | p h1 h2 h3 h4 h5 =>
    rename_i k
    cases h' with
    | z => exact absurd h1.pos (by omega)
    | p k1 k2 k3 k4 k5 =>
      rename_i k'
      have hp := h1.pos
      refine ⟨_, by simp [den_add, e_run, body_add, hp, o_modp]; rfl, ?_⟩
      refine Rp.p h1 (fun e => (h1.euclid e).elim h2 k2) (Int.emod_nonneg _ (by omega)) (Int.emod_lt_of_pos _ hp) ?_
      obtain ⟨m, hm⟩ := h5
      obtain ⟨m', hm'⟩ := k5
      refine ⟨m * d' + m' * d - (k + k') / p * (d * d'), ?_⟩
      have e := Int.emod_add_mul_ediv (k + k') p
      have e1 : (k + k') % p = (k + k') - p * ((k + k') / p) := by omega
      generalize (k + k') / p = w at *
      rw [e1]
      have f1 : k * d = n + p * m := by omega
      have f2 : k' * d' = n' + p * m' := by omega
      calc (k + k' - p * w) * (d * d') - (n * d' + n' * d) = (k * d) * d' + (k' * d') * d - p * (w * (d * d')) - (n * d' + n' * d) := by
            rw [Int.sub_mul, Int.add_mul]
            congr 1
            congr 1
            · congr 1 <;> ac_rfl
            · ac_rfl
        _ = p * (m * d' + m' * d - w * (d * d')) := by
            rw [f1, f2, Int.add_mul, Int.add_mul, Int.mul_sub, Int.mul_add]
            have g1 : p * m * d' = p * (m * d') := by ac_rfl
            have g2 : p * m' * d = p * (m' * d) := by ac_rfl
            omega
theorem m_multiply {p n d n' d' : Int} {x y : D} (h : Rp p n d x) (h' : Rp p n' d' y) (bn : Bz 2000 n) (bd : Bz 2000 d) (bn' : Bz 2000 n') (bd' : Bz 2000 d') : ∃ z, den_multiply [.int p, x, y] = .ok z ∧ Rp p (n * n') (d * d') z := by
  cases h with
  | @z a b q h1 h2 h3 =>
    generalize ep : (0 : Int) = p at h'
    cases h' with
    | p k1 => exact absurd k1.pos (by omega)
    | @z a' b' q' k1 k2 k3 =>
      have ba := bn.le (natAbs_mul_le h3)
      have bb := bd.le (natAbs_mul_le h3)
      have ba' := bn'.le (natAbs_mul_le k3)
      have bb' := bd'.le (natAbs_mul_le k3)
      have B1 := ba.mul ba'
      have B3 := bb.mul bb'
      obtain ⟨z, hz, rz⟩ := m_lowest (n := a * a') (d := b * b') (Int.mul_ne_zero (by omega) (by omega)) (B1.mono (by decide)) (B3.mono (by decide))
      refine ⟨z, ?_, ?_⟩
      · simp [den_multiply, e_run, body_multiply, o_mul, (ba.mono (by decide)).mulOk (ba'.mono (by decide)), (bb.mono (by decide)).mulOk (bb'.mono (by decide)), hz]
      · exact (rz.scale (r := q * q') (Int.mul_ne_zero h3 k3)).cast (by ac_rfl) (by ac_rfl)
  | p h1 h2 h3 h4 h5 =>
    rename_i k
    cases h' with
    | z => exact absurd h1.pos (by omega)
    | p k1 k2 k3 k4 k5 =>
      rename_i k'
      have hp := h1.pos
      have hl := h1.le
      refine ⟨_, by simp [den_multiply, e_run, body_multiply, hp, o_modp, o_mul, mo_sm h3 (by omega : k < 11)]; rfl, ?_⟩
      refine Rp.mk h1 (fun e => (h1.euclid e).elim h2 k2) ?_
      obtain ⟨m, hm⟩ := h5
      obtain ⟨m', hm'⟩ := k5
      exact ⟨m * (k' * d') + m' * n, by grind⟩
theorem m_negate {p n d : Int} {x : D} (h : Rp p n d x) : ∃ z, den_negate [.int p, x] = .ok z ∧ Rp p (-n) d z := by
  cases h with
  | @z a b q h1 h2 h3 =>
    refine ⟨.tup [.int (-a), .int b], by simp [den_negate, e_run, body_negate], ?_⟩
    exact (Rp.z (a := -a) (q := q) h1 (by rw [Int.neg_gcd]; exact h2) h3).cast (by grind) rfl
  | p h1 h2 h3 h4 h5 =>
    rename_i k
    have hp := h1.pos
    refine ⟨_, by simp [den_negate, e_run, body_negate, hp, o_modp]; rfl, ?_⟩
    refine Rp.mk h1 h2 ?_
    obtain ⟨m, hm⟩ := h5
    exact ⟨-m, by grind⟩
theorem m_subtract {p n d n' d' : Int} {x y : D} (h : Rp p n d x) (h' : Rp p n' d' y) (bn : Bz 2000 n) (bd : Bz 2000 d) (bn' : Bz 2000 n') (bd' : Bz 2000 d') : ∃ z, den_subtract [.int p, x, y] = .ok z ∧ Rp p (n * d' - n' * d) (d * d') z := by
  obtain ⟨w, hw, rw⟩ := m_negate h'
  obtain ⟨z, hz, rz⟩ := m_add h rw bn bd bn'.neg bd'
  exact ⟨z, by simp [den_subtract, e_run, body_subtract, hw, hz], rz.cast (by grind) rfl⟩
theorem number_0p {p : Int} (h : Pm p) : den_number_of [.int p, .int 0] = .ok (.int 0) := by
  have hp := h.pos
  simp [den_number_of, e_run, body_number_of, hp, o_modp]
theorem number_00 : den_number_of [.int 0, .int 0] = .ok (.tup [.int 0, .int 1]) := by
  simp [den_number_of, e_run, body_number_of]
theorem m_invert {p n d : Int} {x : D} (h : Rp p n d x) (h0 : ¬ Z0 p n) (bn : Bz 2000 n) (bd : Bz 2000 d) : ∃ z, den_invert [.int p, x] = .ok z ∧ Rp p d n z := by
  cases h with
  | @z a b q h1 h2 h3 =>
    unfold Z0 at h0
    rw [if_pos rfl] at h0
    have ha : a ≠ 0 := fun e => h0 (by rw [e]; simp)
    obtain ⟨z, hz, rz⟩ := m_lowest (n := b) (d := a) ha ((bd.le (natAbs_mul_le h3)).mono (by decide)) ((bn.le (natAbs_mul_le h3)).mono (by decide))
    refine ⟨z, ?_, rz.scale h3⟩
    simp [den_invert, e_run, body_invert, number_00, ha, hz]
  | p h1 h2 h3 h4 h5 =>
    rename_i k
    have hp := h1.pos
    have hl := h1.le
    unfold Z0 at h0
    rw [if_neg (by omega)] at h0
    have hk : k ≠ 0 := by
      intro e
      subst e
      apply h0
      obtain ⟨m, hm⟩ := h5
      exact ⟨-m, by grind⟩
    obtain ⟨j, j1, j2, j3⟩ := h1.inv (by omega : 0 < k) h4
    obtain ⟨δ', m, e1, e2, hI⟩ := while_run (c := toB (b2 neD (b2 modD (b2 mulD (nmD 2) (nmD 1)) (nmD 0)) (cD (.int 1)))) (b := seqF (augF 2 iaddD (cD (.int 1))) nxD)
      (fun n δ => ∃ i : Int, δ = [some (.int p), some (.int k), some (.int i)] ∧ 1 ≤ i ∧ i + n = j) (fun n δ hI => by
        obtain ⟨i, rfl, i1, i2⟩ := hI
        by_cases hi : i * k % p = 1
        · left
          simp [o_mul, o_modp, hp, mulOk_l (i := i) (j := k) (by omega) (by omega), hi]
        · right
          refine ⟨by simp [o_mul, o_modp, hp, mulOk_l (i := i) (j := k) (by omega) (by omega), hi], [some (.int p), some (.int k), some (.int (i + 1))], n - 1, by simp, ?_, i + 1, rfl, by omega, ?_⟩
          · rcases Nat.eq_zero_or_pos n with q | q
            · exact absurd (by rw [show i = j by omega]; exact j3) hi
            · omega
          · rcases Nat.eq_zero_or_pos n with q | q
            · exact absurd (by rw [show i = j by omega]; exact j3) hi
            · omega) (j - 1).toNat [some (.int p), some (.int k), some (.int 1)] ⟨1, rfl, by omega, by omega⟩
    obtain ⟨i, rfl, i1, i2⟩ := hI
    have hi : i * k % p = 1 := by
      simpa [o_mul, o_modp, hp, mulOk_l (i := i) (j := k) (by omega) (by omega)] using e2
    refine ⟨.int i, ?_, ?_⟩
    · have hp0 : p ≠ 0 := by omega
      simp [den_invert, e_run, body_invert, number_0p h1, hk, hp0, e1]
    · refine Rp.p h1 h0 (by omega) (by omega) ?_
      obtain ⟨m1, hm1⟩ := h5
      have := Int.emod_add_mul_ediv (i * k) p
      rw [hi] at this
      generalize i * k / p = w at this
      exact ⟨w * d - i * m1, by grind⟩
theorem m_invert_0 {p : Int} {x : D} (hf : Fd p) (h : Rp p 0 1 x) : den_invert [.int p, x] = .err ⟨"NoInverse"⟩ := by
  rcases hf with rfl | hf
  · have : x = .tup [.int 0, .int 1] := h.uniq ((Rp.z (a := 0) (b := 1) (q := 1) (by decide) (by decide) (by decide)).cast (by simp) (by simp))
    subst this
    simp [den_invert, e_run, body_invert, number_00]
  · have hp := hf.pos
    have : x = .int 0 := h.uniq (Rp.p hf (fun e => by have := Int.le_of_dvd (by decide) e; have := hf.two; omega) (by omega) hp (by simp))
    subst this
    simp [den_invert, e_run, body_invert, number_0p hf]
theorem m_divide {p n d n' d' : Int} {x y : D} (h : Rp p n d x) (h' : Rp p n' d' y) (h0 : ¬ Z0 p n') (bn : Bz 2000 n) (bd : Bz 2000 d) (bn' : Bz 2000 n') (bd' : Bz 2000 d') : ∃ z, den_divide [.int p, x, y] = .ok z ∧ Rp p (n * d') (d * n') z := by
  obtain ⟨w, hw, rw⟩ := m_invert h' h0 bn' bd'
  obtain ⟨z, hz, rz⟩ := m_multiply h rw bn bd bd' bn'
  exact ⟨z, by simp [den_divide, e_run, body_divide, hw, hz], rz⟩
theorem m_divide_0 {p : Int} {x y : D} (hf : Fd p) (h : Rp p 0 1 y) : den_divide [.int p, x, y] = .err ⟨"NoInverse"⟩ := by
  simp [den_divide, e_run, body_divide, m_invert_0 hf h]
theorem m_ratio_of {p n n' : Int} (hf : Fd p) (h0 : ¬ Z0 p n') (bn : Bz 2000 n) (bn' : Bz 2000 n') : ∃ z, den_ratio_of [.int p, .int n, .int n'] = .ok z ∧ Rp p n n' z := by
  obtain ⟨x, hx, rx⟩ := m_number_of hf n
  obtain ⟨y, hy, ry⟩ := m_number_of hf n'
  have b1 : Bz 2000 1 := Bz.one (by decide)
  obtain ⟨z, hz, rz⟩ := m_divide rx ry h0 bn b1 bn' b1
  exact ⟨z, by simp [den_ratio_of, e_run, body_ratio_of, hx, hy, hz], rz.cast (by simp) (by simp)⟩
theorem m_ratio_of_0 {p n : Int} (hf : Fd p) : den_ratio_of [.int p, .int n, .int 0] = .err ⟨"NoInverse"⟩ := by
  obtain ⟨x, hx, rx⟩ := m_number_of hf n
  obtain ⟨y, hy, ry⟩ := m_number_of hf 0
  simp [den_ratio_of, e_run, body_ratio_of, hx, hy, m_divide_0 hf ry]


end DL

set_option maxRecDepth 100001
set_option maxHeartbeats 1000001
namespace DL
open PySem PySem.Spec PyProof.Rows L2
theorem pow_bz {b k : Nat} {n : Int} (h : Bz b n) : Bz (b * k + 1) (n ^ k) := by
  induction k with
  | zero => rw [Int.pow_zero]; exact Bz.one (by omega)
  | succ k ih =>
    rw [Int.pow_succ]
    have := ih.mul h
    exact this.mono (by rw [Nat.mul_succ]; omega)
theorem rgK_nat {k : Nat} (h : k ≤ 1000000) : rgK [.int k] = .ok (intsFrom 0 k) := by
  have e := rgK_ok (j := (k : Int)) (by omega) (by omega)
  exact e
theorem st {p n d : Int} {x r : D} (h : Rp p n d x) {b i : Nat} (hr : Rp p (n ^ i) (d ^ i) r) (hbi : b * i + 1 ≤ 2000) (bn : Bz b n) (bd : Bz b d) (hb2 : b ≤ 2000) : ∃ z, den_multiply [.int p, r, x] = .ok z ∧ Rp p (n ^ (i + 1)) (d ^ (i + 1)) z := by
  obtain ⟨z, hz, rz⟩ := m_multiply hr h ((pow_bz bn).mono hbi) ((pow_bz bd).mono hbi) (bn.mono hb2) (bd.mono hb2)
  exact ⟨z, hz, rz.cast (Int.pow_succ _ _).symm (Int.pow_succ _ _).symm⟩

def IPow (p n d : Int) (x : D) (k : Nat) (ds : List D) (δ : DEnv) : Prop := ∃ (r : D) (j : Option D) (i : Nat), δ = [some (.int p), some x, some (.int k), some r, j] ∧ i + ds.length = k ∧ Rp p (n ^ i) (d ^ i) r
theorem m_raise_to {p n d : Int} {x : D} (hf : Fd p) (h : Rp p n d x) {k b : Nat} (hk : k ≤ 1000) (hb : b * k + 1 ≤ 2000) (bn : Bz b n) (bd : Bz b d) (hb2 : b ≤ 2000) : ∃ z, den_raise_to [.int p, x, .int k] = .ok z ∧ Rp p (n ^ k) (d ^ k) z := by
  obtain ⟨o, ho, ro⟩ := m_number_of hf 1
  obtain ⟨δ', e1, hI⟩ := for_thru (h := putD 4) (b := seqF (setF 3 (callF den_multiply (consA (nmD 0) (consA (nmD 3) (consA (nmD 1) (nilA)))))) (nxD)) (IPow p n d x k) (by
    rintro q ds δ ⟨r, j, i, rfl, hl, hr⟩
    simp only [List.length_cons] at hl
    have hi : i ≤ k := by omega
    have hbi : b * i + 1 ≤ 2000 := Nat.le_trans (Nat.add_le_add_right (Nat.mul_le_mul_left b hi) 1) hb
    obtain ⟨z, hz, rz⟩ := st h hr hbi bn bd hb2
    refine ⟨[some (.int p), some x, some (.int k), some r, some q], [some (.int p), some x, some (.int k), some z, some q], by simp, ?_, z, some q, i + 1, rfl, by omega, rz⟩
    left
    simp [hz]) (intsFrom 0 k) [some (.int p), some x, some (.int k), some o, none] ⟨o, none, 0, rfl, by rw [ints_len]; omega, ro.cast (Int.pow_zero n).symm (Int.pow_zero d).symm⟩
  obtain ⟨r, j, i, rfl, hl, hr⟩ := hI
  have hr1 := rgK_nat (k := k) (by omega)
  refine ⟨r, ?_, ?_⟩
  · simp [den_raise_to, e_run, body_raise_to, ho, hr1, e1]
  · have : i = k := by simpa using hl
    rw [← this]
    exact hr
end DL

set_option maxRecDepth 100001
set_option maxHeartbeats 1000001
namespace DL
open PySem PySem.Spec PyProof.Rows L2
/-- n / d, as a pair, is a number of the field p -/
def Gp (p : Int) (b : Nat) (f : Int × Int) : Prop := Gd p f.1 f.2 ∧ Bz b f.1 ∧ Bz b f.2
noncomputable def nq (p : Int) (f : Int × Int) : D := nm p f.1 f.2
/-- f + g times s -/
def shq (s : Int × Int) (f g : Int × Int) : Int × Int := (f.1 * s.2 * g.2 + s.1 * g.1 * f.2, f.2 * s.2 * g.2)
theorem Rp.pos {p n d : Int} {x : D} (h : Rp p n d x) (hp : 0 < p) : Pm p ∧ ¬ p ∣ d ∧ ∃ k, x = .int k ∧ 0 ≤ k ∧ k < p ∧ p ∣ k * d - n := by
  cases h with
  | z => omega
  | p h1 h2 h3 h4 h5 => exact ⟨h1, h2, _, rfl, h3, h4, h5⟩
theorem m_shifted {p : Int} {s : Int × Int} {fs gs : List (Int × Int)} (hf : Fd p) (hs : Gp p 100 s) (h1 : ∀ f ∈ fs, Gp p 100 f) (h2 : ∀ f ∈ gs, Gp p 100 f) (hl : fs.length ≤ 1000) :
    den_shifted [.int p, .lst (fs.map (nq p)), nq p s, .lst (gs.map (nq p))] = .ok (.lst ((fs.zip gs).map fun x => nq p (shq s x.1 x.2))) := by
  have hlz : (fs.zip gs).length ≤ 16777216 := by
    rw [List.length_zip]
    omega
  rcases hf with rfl | hp
  · have key := lc_map (vs := [4, 5]) (h := tupT (consT (putD 4) (consT (putD 5) (nilT)))) (c := yesB) (el := callF den_add (consA (nmD 0) (consA (nmD 4) (consA (callF den_multiply (consA (nmD 0) (consA (nmD 2) (consA (nmD 5) (nilA))))) (nilA)))))
      (δ := [some (.int 0), some (.lst (fs.map (nq 0))), some (nq 0 s), some (.lst (gs.map (nq 0))), none, none]) (fun x => D.tup [nq 0 x.1, nq 0 x.2]) (fun x => nq 0 (shq s x.1 x.2)) (l := fs.zip gs) (fun x hx => by
        have hx1 := h1 _ (List.of_mem_zip hx).1
        have hx2 := h2 _ (List.of_mem_zip hx).2
        obtain ⟨w, hw, rw⟩ := m_multiply (hs.1 : Rp 0 s.1 s.2 _) (hx2.1 : Rp 0 x.2.1 x.2.2 _) (hs.2.1.mono (by decide)) (hs.2.2.mono (by decide)) (hx2.2.1.mono (by decide)) (hx2.2.2.mono (by decide))
        obtain ⟨z, hz, rz⟩ := m_add (hx1.1 : Rp 0 x.1.1 x.1.2 _) rw (hx1.2.1.mono (by decide)) (hx1.2.2.mono (by decide)) ((hs.2.1.mul hx2.2.1).mono (by decide)) ((hs.2.2.mul hx2.2.2).mono (by decide))
        have rz' : Rp 0 (shq s x.1 x.2).1 (shq s x.1 x.2).2 z := rz.cast (by unfold shq; grind) (by unfold shq; grind)
        have e := rz'.nm
        refine ⟨[some (.int 0), some (.lst (fs.map (nq 0))), some (nq 0 s), some (.lst (gs.map (nq 0))), some (nq 0 x.1), some (nq 0 x.2)], by simp [wipeD], rfl, ?_⟩
        simp [hw, hz, e, nq]) hlz
    simp [den_shifted, e_run, body_shifted, zip_map, key]
  · have hp0 := hp.pos
    have hpl := hp.le
    have key := lc_map (vs := [4, 5]) (h := tupT (consT (putD 4) (consT (putD 5) (nilT)))) (c := yesB) (el := b2 modD (b2 addD (nmD 4) (b2 mulD (nmD 2) (nmD 5))) (nmD 0))
      (δ := [some (.int p), some (.lst (fs.map (nq p))), some (nq p s), some (.lst (gs.map (nq p))), none, none]) (fun x => D.tup [nq p x.1, nq p x.2]) (fun x => nq p (shq s x.1 x.2)) (l := fs.zip gs) (fun x hx => by
        have hx1 := h1 _ (List.of_mem_zip hx).1
        have hx2 := h2 _ (List.of_mem_zip hx).2
        obtain ⟨_, a1, ka, ea, a2, a3, a4⟩ := Rp.pos hx1.1 hp0
        obtain ⟨_, b1, kb, eb, b2, b3, b4⟩ := Rp.pos hx2.1 hp0
        obtain ⟨_, c1, kc, ec, c2, c3, c4⟩ := Rp.pos hs.1 hp0
        have rz : Rp p (shq s x.1 x.2).1 (shq s x.1 x.2).2 (.int ((ka + kc * kb) % p)) := by
          refine Rp.mk hp (fun e => ?_) ?_
          · rcases hp.euclid e with q | q
            · exact (hp.euclid q).elim a1 c1
            · exact b1 q
          · obtain ⟨ma, ha⟩ := a4
            obtain ⟨mb, hb⟩ := b4
            obtain ⟨mc, hc⟩ := c4
            unfold shq
            exact ⟨ma * s.2 * x.2.2 + (mc * (kb * x.2.2) + s.1 * mb) * x.1.2, by grind⟩
        have e := rz.nm
        refine ⟨[some (.int p), some (.lst (fs.map (nq p))), some (nq p s), some (.lst (gs.map (nq p))), some (nq p x.1), some (nq p x.2)], by simp [wipeD], rfl, ?_⟩
        have ea' : nq p x.1 = .int ka := ea
        have eb' : nq p x.2 = .int kb := eb
        have ec' : nq p s = .int kc := ec
        simp [ea', eb', ec', o_modp, hp0, o_mul, mo_sm c2 (by omega : kc < 11)]
        exact e) hlz
    simp [den_shifted, e_run, body_shifted, hp0, zip_map, key]
/-! dot -/
theorem asInts_map {α : Type} (f : α → Int) : ∀ l : List α, asInts (l.map fun a => D.int (f a)) = some (l.map f)
  | [] => rfl
  | a :: l => by
    show asInts (D.int (f a) :: l.map fun a => D.int (f a)) = _
    unfold asInts
    rw [asInts_map f l]
    rfl
def dotq : Int × Int → List ((Int × Int) × (Int × Int)) → Int × Int
  | s, [] => s
  | s, (f, g) :: r => dotq (s.1 * f.2 * g.2 + f.1 * g.1 * s.2, s.2 * f.2 * g.2) r
/-- the rest of a number by p -/
noncomputable def kq (p : Int) (f : Int × Int) : Int := match nq p f with | .int k => k | _ => 0
theorem Gd.kq {p : Int} {b : Nat} {f : Int × Int} (h : Gp p b f) (hp : 0 < p) : nq p f = .int (kq p f) ∧ 0 ≤ kq p f ∧ kq p f < p ∧ p ∣ kq p f * f.2 - f.1 ∧ ¬ p ∣ f.2 := by
  obtain ⟨_, a1, k, e, h0, h1, h2⟩ := Rp.pos h.1 hp
  have e' : nq p f = .int k := e
  have e2 : DL.kq p f = k := by unfold DL.kq; rw [e']
  rw [e2]
  exact ⟨e', h0, h1, h2, a1⟩
theorem dot_sum {p : Int} (hp : Pm p) : ∀ (l : List ((Int × Int) × (Int × Int))) (s : Int × Int) (k : Int), (∀ x ∈ l, Gp p 100 x.1 ∧ Gp p 100 x.2) → ¬ p ∣ s.2 → p ∣ k * s.2 - s.1 →
    ¬ p ∣ (dotq s l).2 ∧ p ∣ (k + (l.map fun x => kq p x.1 * kq p x.2).sum) * (dotq s l).2 - (dotq s l).1
  | [], s, k, _, h1, h2 => ⟨h1, by simpa [dotq] using h2⟩
  | (f, g) :: r, s, k, H, h1, h2 => by
    obtain ⟨hf, hg⟩ := H _ List.mem_cons_self
    obtain ⟨_, _, _, ⟨ma, ha⟩, hfd⟩ := Gd.kq hf hp.pos
    obtain ⟨_, _, _, ⟨mb, hb⟩, hgd⟩ := Gd.kq hg hp.pos
    obtain ⟨mc, hc⟩ := h2
    have := dot_sum hp r (s.1 * f.2 * g.2 + f.1 * g.1 * s.2, s.2 * f.2 * g.2) (k + kq p f * kq p g) (fun x hx => H x (List.mem_cons_of_mem _ hx)) (fun e => by
      rcases hp.euclid e with q | q
      · exact (hp.euclid q).elim h1 hfd
      · exact hgd q) (by
      refine ⟨mc * f.2 * g.2 + (ma * (kq p g * g.2) + f.1 * mb) * s.2, ?_⟩
      simp only
      grind)
    simp only [dotq, List.map_cons, List.sum_cons]
    rw [← Int.add_assoc]
    exact this
def Idot (fs gs : D) (p : Int) (fin : Int × Int) (ds : List D) (δ : DEnv) : Prop := ∃ (t : D) (s : Int × Int) (i : Nat) (j1 j2 : Option D) (l : List ((Int × Int) × (Int × Int))), δ = [some (.int p), some fs, some gs, some t, j1, j2] ∧ ds = l.map (fun x => D.tup [nq p x.1, nq p x.2]) ∧ i + l.length ≤ 6 ∧ (∀ x ∈ l, Gp p 100 x.1 ∧ Gp p 100 x.2) ∧ Rp p s.1 s.2 t ∧ Bz (201 * i + 1) s.1 ∧ Bz (201 * i + 1) s.2 ∧ dotq s l = fin
theorem m_dot {p : Int} {fs gs : List (Int × Int)} (hf : Fd p) (h1 : ∀ f ∈ fs, Gp p 100 f) (h2 : ∀ f ∈ gs, Gp p 100 f) (hl : fs.length ≤ 6) :
    ∃ z, den_dot [.int p, .lst (fs.map (nq p)), .lst (gs.map (nq p))] = .ok z ∧ Rp p (dotq (0, 1) (fs.zip gs)).1 (dotq (0, 1) (fs.zip gs)).2 z := by
  have hlz : (fs.zip gs).length ≤ 6 := by
    rw [List.length_zip]
    omega
  have hz12 : ∀ x ∈ fs.zip gs, Gp p 100 x.1 ∧ Gp p 100 x.2 := fun x hx => ⟨h1 _ (List.of_mem_zip hx).1, h2 _ (List.of_mem_zip hx).2⟩
  rcases hf with rfl | hp
  · obtain ⟨o, ho, ro⟩ := m_number_of (p := 0) (.inl rfl) 0
    obtain ⟨δ', e1, hI⟩ := for_thru (h := tupT (consT (putD 4) (consT (putD 5) (nilT)))) (b := seqF (setF 3 (callF den_add (consA (nmD 0) (consA (nmD 3) (consA (callF den_multiply (consA (nmD 0) (consA (nmD 4) (consA (nmD 5) (nilA))))) (nilA)))))) (nxD))
      (Idot (.lst (fs.map (nq 0))) (.lst (gs.map (nq 0))) 0 (dotq (0, 1) (fs.zip gs))) (by
        rintro q ds δ ⟨t, s, i, j1, j2, l, rfl, hds, hi, hG, ht, b1, b2, hfin⟩
        cases l with
        | nil => cases hds
        | cons x r =>
          obtain ⟨f, g⟩ := x
          simp only [List.map_cons, List.cons.injEq] at hds
          obtain ⟨rfl, rfl⟩ := hds
          simp only [List.length_cons] at hi
          obtain ⟨hf, hg⟩ := hG _ List.mem_cons_self
          obtain ⟨w, hw, rw⟩ := m_multiply (hf.1 : Rp 0 f.1 f.2 _) (hg.1 : Rp 0 g.1 g.2 _) (hf.2.1.mono (by decide)) (hf.2.2.mono (by decide)) (hg.2.1.mono (by decide)) (hg.2.2.mono (by decide))
          obtain ⟨z, hz, rz⟩ := m_add ht rw (b1.mono (by omega)) (b2.mono (by omega)) ((hf.2.1.mul hg.2.1).mono (by decide)) ((hf.2.2.mul hg.2.2).mono (by decide))
          refine ⟨[some (.int 0), some (.lst (fs.map (nq 0))), some (.lst (gs.map (nq 0))), some t, some (nq 0 f), some (nq 0 g)], [some (.int 0), some (.lst (fs.map (nq 0))), some (.lst (gs.map (nq 0))), some z, some (nq 0 f), some (nq 0 g)], by simp, ?_, z, (s.1 * f.2 * g.2 + f.1 * g.1 * s.2, s.2 * f.2 * g.2), i + 1, _, _, r, rfl, rfl, by omega, fun x hx => hG x (List.mem_cons_of_mem _ hx), rz.cast (by simp only; grind) (by simp only; grind), ?_, ?_, hfin⟩
          · left
            simp [nq, hw, hz]
          · have a := ((b1.mul hf.2.2).mul hg.2.2).add ((hf.2.1.mul hg.2.1).mul b2)
            exact a.mono (by omega)
          · have a := (b2.mul hf.2.2).mul hg.2.2
            exact a.mono (by omega)) ((fs.zip gs).map (fun x => D.tup [nq 0 x.1, nq 0 x.2])) [some (.int 0), some (.lst (fs.map (nq 0))), some (.lst (gs.map (nq 0))), some o, none, none]
        ⟨o, (0, 1), 0, none, none, fs.zip gs, rfl, rfl, by omega, hz12, ro, Bz.zero, Bz.one (by omega), rfl⟩
    obtain ⟨t, s, i, j1, j2, l, rfl, hds, hi, hG, ht, b1, b2, hfin⟩ := hI
    have hl0 : l = [] := by
      cases l with
      | nil => rfl
      | cons => cases hds
    subst hl0
    refine ⟨t, ?_, ?_⟩
    · simp [den_dot, e_run, body_dot, ho, zip_map, e1]
    · rw [← hfin]
      exact ht
  · have hp0 := hp.pos
    have hpl := hp.le
    have key := lc_map (vs := [4, 5]) (h := tupT (consT (putD 4) (consT (putD 5) (nilT)))) (c := yesB) (el := b2 mulD (nmD 4) (nmD 5))
      (δ := [some (.int p), some (.lst (fs.map (nq p))), some (.lst (gs.map (nq p))), none, none, none]) (fun x => D.tup [nq p x.1, nq p x.2]) (fun x => D.int (kq p x.1 * kq p x.2)) (l := fs.zip gs) (fun x hx => by
        obtain ⟨ea, a1, a2, _, _⟩ := Gd.kq (hz12 x hx).1 hp0
        obtain ⟨eb, b1, b2, _, _⟩ := Gd.kq (hz12 x hx).2 hp0
        refine ⟨[some (.int p), some (.lst (fs.map (nq p))), some (.lst (gs.map (nq p))), none, some (nq p x.1), some (nq p x.2)], by simp [wipeD], rfl, ?_⟩
        simp [ea, eb, o_mul, mo_sm a1 (by omega : kq p x.1 < 11)]) (by omega)
    obtain ⟨q1, q2⟩ := dot_sum hp (fs.zip gs) (0, 1) 0 hz12 (fun e => by have := Int.le_of_dvd (by decide) e; have := hp.two; omega) (by simp)
    rw [Int.zero_add] at q2
    refine ⟨_, ?_, Rp.mk hp q1 q2⟩
    have hs : sumD [.lst ((fs.zip gs).map fun x => D.int (kq p x.1 * kq p x.2))] = .ok (.int ((fs.zip gs).map fun x => kq p x.1 * kq p x.2).sum) := by
      unfold sumD
      simp only [asInts_map]
    simp [den_dot, e_run, body_dot, hp0, zip_map, key, hs, o_modp]
end DL

set_option maxRecDepth 100001
set_option maxHeartbeats 1000001
namespace DL
open PySem PySem.Spec PyProof.Rows L2
theorem abs_nat (i : Int) : (if i < 0 then -i else i) = (i.natAbs : Int) := by split <;> omega
theorem m_common (a b : Int) : den__law_common [.int a, .int b] = .ok (.int ((Nat.gcd a.natAbs b.natAbs : Nat) : Int)) := by
  obtain ⟨δ', m, e1, e2, hI⟩ := while_run (c := toB (b2 neD (nmD 1) (cD (.int 0)))) (b := seqF (parF 0 1 (consA (nmD 1) (consA (b2 modD (callF intD (consA (nmD 0) (nilA))) (nmD 1)) (nilA)))) (nxD))
    (fun n δ => ∃ x : Nat, δ = [some (.int x), some (.int n)] ∧ Nat.gcd x n = Nat.gcd a.natAbs b.natAbs) (fun n δ hI => by
      obtain ⟨x, rfl, hg⟩ := hI
      by_cases hn : n = 0
      · left
        subst hn
        simp
      · right
        refine ⟨by simp [hn], [some (.int n), some (.int ((x % n : Nat) : Int))], x % n, ?_, Nat.mod_lt _ (by omega), n, rfl, ?_⟩
        · left
          simp [o_modp (i := (x : Int)) (j := (n : Int)) (by omega)]
        · rw [← hg, Nat.gcd_comm x n, Nat.gcd_comm n (x % n)]
          exact (Nat.gcd_rec n x).symm) b.natAbs [some (.int (a.natAbs : Nat)), some (.int (b.natAbs : Nat))] ⟨a.natAbs, rfl, rfl⟩
  obtain ⟨x, rfl, hg⟩ := hI
  have hm : m = 0 := by simpa using e2
  subst hm
  rw [Nat.gcd_zero_right] at hg
  simp [den__law_common, e_run, body__law_common, abs_nat, e1, hg]
theorem m_law_lowest {n d : Int} (hd : d ≠ 0) (bn : Bz 8000 n) (bd : Bz 8000 d) : ∃ x, den__law_lowest [.int n, .int d] = .ok x ∧ Rp 0 n d x := by
  have hg : Nat.gcd n.natAbs d.natAbs ≠ 0 := by
    intro e
    have := Nat.eq_zero_of_gcd_eq_zero_right e
    omega
  have hb : Bz 9000 ((Nat.gcd n.natAbs d.natAbs : Nat) : Int) := by
    refine (bd.le ?_).mono (by decide)
    rw [Int.natAbs_natCast]
    exact Nat.gcd_le_right _ (by omega)
  have dk : divOk ((Nat.gcd n.natAbs d.natAbs : Nat) : Int) = true := hb.divOk (by omega)
  have dk2 : divOk (-((Nat.gcd n.natAbs d.natAbs : Nat) : Int)) = true := hb.neg.divOk (by omega)
  refine ⟨_, ?_, low_of hd⟩
  by_cases h : d < 0
  · simp [den__law_lowest, e_run, body__law_lowest, m_common, h, o_fdiv, dk2]
  · simp [den__law_lowest, e_run, body__law_lowest, m_common, h, o_fdiv, dk]
def Inum (p n d k : Int) (ds : List D) (δ : DEnv) : Prop := ∃ (j : Option D), δ = [some (.int p), some (.int n), some (.int d), j] ∧ (D.int k) ∈ ds ∧ ∀ q ∈ ds, ∃ i : Int, q = .int i ∧ 0 ≤ i ∧ i < p
theorem m_law_number {p n d : Int} {x : D} (h : Rp p n d x) (bn : Bz 8000 n) (bd : Bz 8000 d) : den__law_number [.int p, .int n, .int d] = .ok x := by
  have h0 := h
  by_cases hp : p = 0
  · subst hp
    obtain ⟨z, hz, rz⟩ := m_law_lowest h.d0 bn bd
    have := h.uniq rz
    subst this
    simp [den__law_number, e_run, body__law_number, hz]
  · cases h with
    | z => exact absurd rfl hp
    | p h1 h2 h3 h4 h5 =>
      rename_i k
      have hp0 := h1.pos
      have hpl := h1.le
      have key := for_ret (h := putD 3) (b := seqF (ifF (toB (b2 eqD (b2 modD (callF intD (consA (b2 subD (b2 mulD (nmD 3) (nmD 2)) (nmD 1)) (nilA))) (nmD 0)) (cD (.int 0)))) (retF (nmD 3)) (nxD)) (nxD))
        (Inum p n d k) (fun v => v = .int k) (by
          rintro q ds δ ⟨j, rfl, hk, hq⟩
          obtain ⟨i, rfl, i0, i1⟩ := hq _ List.mem_cons_self
          refine ⟨[some (.int p), some (.int n), some (.int d), some (.int i)], by simp, ?_⟩
          by_cases hi : (i * d - n) % p = 0
          · right
            refine ⟨.int i, by simp [o_mul, mo_sm i0 (by omega : i < 11), o_modp, hp0, hi], ?_⟩
            have r : Rp p n d (.int i) := Rp.p h1 h2 i0 i1 (Int.dvd_of_emod_eq_zero hi)
            exact r.uniq h0
          · left
            refine ⟨[some (.int p), some (.int n), some (.int d), some (.int i)], .inl (by simp [o_mul, mo_sm i0 (by omega : i < 11), o_modp, hp0, hi]), some (.int i), rfl, ?_, fun q hq' => hq q (List.mem_cons_of_mem _ hq')⟩
            rcases List.mem_cons.mp hk with e | e
            · exfalso
              cases e
              exact hi (Int.emod_eq_zero_of_dvd h5)
            · exact e) (intsFrom 0 p.toNat) [some (.int p), some (.int n), some (.int d), none]
        ⟨none, rfl, by unfold intsFrom; exact List.mem_map.mpr ⟨k.toNat, List.mem_range.mpr (by omega), by rw [Int.zero_add, Int.toNat_of_nonneg h3]⟩, fun q hq => by
          unfold intsFrom at hq
          obtain ⟨i, hi, rfl⟩ := List.mem_map.mp hq
          have := List.mem_range.mp hi
          exact ⟨(i : Int), by rw [Int.zero_add], by omega, by omega⟩⟩
      rcases key with ⟨δ', _, j, _, hk, _⟩ | ⟨v, e, rfl⟩
      · cases hk
      · have hr := rgK_ok (j := p) (by omega) (by omega)
        simp [den__law_number, e_run, body__law_number, hp, hr, e]
theorem m_law_same {p n d : Int} {x : D} (h : Rp p n d x) : den__law_same [.int p, x, x] = .ok (.bl true) := by
  cases h with
  | @z a b q h1 h2 h3 =>
    simp [den__law_same, e_run, body__law_same, forD]
  | p h1 h2 h3 h4 h5 =>
    have hp0 := h1.pos
    simp [den__law_same, e_run, body__law_same, hp0]
end DL

set_option maxRecDepth 100001
set_option maxHeartbeats 1000001
namespace DL
open PySem PySem.Spec PyProof.Rows L2
theorem has_ints {i : Int} {ns : List Int} : hasD (.int i) (.tup (ns.map D.int)) = .ok (ns.any fun j => decide (j = i)) := by
  show (if flat (.int i) = true ∧ (ns.map D.int).all flat = true then R.ok ((ns.map D.int).any fun z => eqv z (.int i)) else .stk) = _
  have h1 : (ns.map D.int).all flat = true := by
    rw [List.all_map, List.all_eq_true]
    intro x _
    rfl
  rw [if_pos ⟨rfl, h1⟩, List.any_map]
  congr 1
def isF (n : Int) : Bool := n = 0 || n = 2 || n = 3 || n = 5 || n = 7 || n = 11
theorem isF_iff {n : Int} : isF n = true ↔ Fd n := by
  unfold isF Fd Pm
  simp only [Bool.or_eq_true, decide_eq_true_eq]
  omega
theorem nin_primes (n : Int) : ninD (.int n) k_PRIMES = .ok (.bl (!([2, 3, 5, 7, 11].any fun j => decide (j = n)))) := by
  have := has_ints (i := n) (ns := [2, 3, 5, 7, 11])
  unfold ninD
  rw [show k_PRIMES = .tup (([2, 3, 5, 7, 11] : List Int).map D.int) from rfl, this]
  rfl
theorem m_check_field (n : Int) : den_check_field [.int n] = if isF n = true then .ok .non else .err ⟨"InvalidField"⟩ := by
  by_cases h0 : n = 0
  · subst h0
    simp [den_check_field, e_run, body_check_field, isF]
  · by_cases h : isF n = true
    · rw [if_pos h]
      have : ([2, 3, 5, 7, 11].any fun j => decide (j = n)) = true := by
        rcases isF_iff.mp h with q | q
        · exact absurd q h0
        · rcases q with q | q | q | q | q <;> subst q <;> decide
      simp [den_check_field, e_run, body_check_field, h0, nin_primes, this, -List.any_cons]
    · rw [if_neg h]
      have : ([2, 3, 5, 7, 11].any fun j => decide (j = n)) = false := by
        rw [List.any_eq_false]
        intro j hj e
        apply h
        rw [decide_eq_true_eq] at e
        subst e
        unfold isF
        simp at hj
        simp
        omega
      simp [den_check_field, e_run, body_check_field, h0, nin_primes, this, -List.any_cons]
theorem m_law_fields (n : Int) : den__law_fields [.int n] = .ok (.bl true) := by
  have e6 : ninD (.int n) (.tup [.int 0, .int 2, .int 3, .int 5, .int 7, .int 11]) = .ok (.bl (!isF n)) := by
    have := has_ints (i := n) (ns := [0, 2, 3, 5, 7, 11])
    unfold ninD
    rw [show D.tup [.int 0, .int 2, .int 3, .int 5, .int 7, .int 11] = .tup (([0, 2, 3, 5, 7, 11] : List Int).map D.int) from rfl, this]
    have e : (([0, 2, 3, 5, 7, 11] : List Int).any fun j => decide (j = n)) = isF n := by
      unfold isF
      simp only [List.any_cons, List.any_nil, Bool.or_false, eq_comm (a := n), Bool.or_assoc]
    rw [e]
    rfl
  by_cases h : isF n = true
  · simp [den__law_fields, e_run, body__law_fields, m_check_field, h, e6]
  · simp [den__law_fields, e_run, body__law_fields, m_check_field, h, e6, tr_ex, e_isE]
theorem m_is_number_t {p : Int} {ds : List D} (h : 0 < p) : den_is_number [.int p, .tup ds] = .ok (.bl false) := by
  simp [den_is_number, e_run, body_is_number, h, m_is_integer, isI]
theorem m_is_number_i {p k : Int} (h : 0 < p) : den_is_number [.int p, .int k] = .ok (.bl (decide (0 ≤ k ∧ k < p))) := by
  by_cases h0 : 0 ≤ k
  · simp [den_is_number, e_run, body_is_number, h, m_is_integer, isI, h0]
  · simp [den_is_number, e_run, body_is_number, h, m_is_integer, isI, h0]
theorem m_is_number_0i (k : Int) : den_is_number [.int 0, .int k] = .ok (.bl false) := by
  simp [den_is_number, e_run, body_is_number]
theorem m_is_number_0t {ds : List D} (h : ds.length ≠ 2) : den_is_number [.int 0, .tup ds] = .ok (.bl false) := by
  have h' : ¬ ((ds.length : Int) = 2) := by omega
  simp [den_is_number, e_run, body_is_number, h']
theorem m_is_number_02 (a b : Int) : den_is_number [.int 0, .tup [.int a, .int b]] = .ok (.bl (decide (0 < b) && decide ((Nat.gcd a.natAbs b.natAbs : Int) = 1))) := by
  by_cases h : 0 < b
  · simp [den_is_number, e_run, body_is_number, m_is_integer, isI, h]
  · simp [den_is_number, e_run, body_is_number, m_is_integer, isI, h]
theorem m_law_kinds {p n d : Int} {x : D} (hx : Rp p n d x) (m : Int) (bn : Bz 2000 n) (bd : Bz 2000 d) : den__law_kinds [.int p, x, .int m] = .ok (.bl true) := by
  cases hx with
  | @z a b q h1 h2 h3 =>
    have g1 : (Nat.gcd a.natAbs b.natAbs : Int) = 1 := by
      have : Nat.gcd a.natAbs b.natAbs = 1 := h2
      omega
    have g2 : ¬ ((Nat.gcd (2 * a).natAbs (2 * b).natAbs : Int) = 1) := by
      have : Nat.gcd (2 * a).natAbs (2 * b).natAbs = 2 := by
        rw [Int.natAbs_mul, Int.natAbs_mul, Nat.gcd_mul_left]
        have : Nat.gcd a.natAbs b.natAbs = 1 := h2
        rw [this]
        rfl
      omega
    have h5 : ¬ (0 < -b) := by omega
    have h6 : 0 ≤ b := by omega
    have o1 : mulOk 2 a = true := mulOk_l (by decide) (by decide)
    have o2 : mulOk 2 b = true := mulOk_l (by decide) (by decide)
    simp [den__law_kinds, e_run, body__law_kinds, m_is_number_0i, m_is_number_0t, m_is_number_02, g1, g2, h1, h6, o_mul, o1, o2]
  | p h1 h2 h3 h4 h5 =>
    have hp0 := h1.pos
    by_cases hm : 0 ≤ m
    · simp [den__law_kinds, e_run, body__law_kinds, m_is_number_t, m_is_number_i, hp0, h3, h4, hm]
    · simp [den__law_kinds, e_run, body__law_kinds, m_is_number_t, m_is_number_i, hp0, h3, h4, hm]
theorem m_no_inverse {p : Int} {x y : D} (hf : Fd p) (h : Rp p 0 1 y) : den__law_no_inverse [.int p, y, x] = .ok (.bl true) := by
  simp [den__law_no_inverse, e_run, body__law_no_inverse, m_invert_0 hf h, m_divide_0 hf h, m_ratio_of_0 hf, tr_ex, e_isE, Fl.tro, List.lookup]
end DL

set_option maxRecDepth 100001
set_option maxHeartbeats 1000001
namespace DL
open PySem PySem.Spec PyProof.Rows L2
def Pv (ps : List Int) : Prop := ∀ v ∈ ps, 0 ≤ v ∧ v < 1000
theorem Pv.app {ps : List Int} {v : Int} (h : Pv ps) (h1 : 0 ≤ v) (h2 : v < 1000) : Pv (ps ++ [v]) := by
  intro w hw
  rcases List.mem_append.mp hw with q | q
  · exact h w q
  · rw [List.mem_singleton.mp q]
    exact ⟨h1, h2⟩
theorem d7 : divOk 7 = true := by decide
theorem d11 : divOk 11 = true := by decide
theorem d1000 : divOk 1000 = true := by decide
theorem pw18 : powD (.int 10) (.int 18) = .ok (.int 1000000000000000000) := by
  show (if (0 : Int) ≤ 18 ∧ (18 : Int) ≤ 1000000 ∧ (10 : Int).natAbs < 2 ^ 64 then R.ok (D.int ((10 : Int) ^ (18 : Int).toNat)) else .stk) = _
  rw [if_pos (by decide)]
  rfl
theorem sz_lt {n : Nat} (h : n ≤ 10000) : n < sizeLine := by rw [sizeLine_eq]; omega
/-- the pool's state: so many items may still come -/
def IP (S : D) (b : Nat) (δ : DEnv) : Prop := ∃ (ps : List Int) (t : Int) (c4 c5 c6 c7 : Option D), δ = [some S, some (.int 60), some (.lst (ps.map D.int)), some (.int t), c4, c5, c6, c7] ∧ Pv ps ∧ ps.length + b ≤ 4000
def IP1 (S : D) (b : Nat) (ds : List D) (δ : DEnv) : Prop := ∃ (ps : List Int) (t l : Int) (c4 c5 c7 : Option D), δ = [some S, some (.int 60), some (.lst (ps.map D.int)), some (.int t), c4, c5, some (.int l), c7] ∧ Pv ps ∧ ps.length + b + ds.length ≤ 4000
def IP2 (S : D) (b : Nat) (ds : List D) (δ : DEnv) : Prop := ∃ (ps : List Int) (t m : Int) (c4 c5 c6 : Option D), δ = [some S, some (.int 60), some (.lst (ps.map D.int)), some (.int t), c4, c5, c6, some (.int m)] ∧ Pv ps ∧ ps.length + b + ds.length ≤ 4000
def IP3 (S : D) (ds : List D) (δ : DEnv) : Prop := ∃ (ps : List Int) (t : Int) (c4 c5 c6 c7 : Option D), δ = [some S, some (.int 60), some (.lst (ps.map D.int)), some (.int t), c4, c5, c6, c7] ∧ Pv ps ∧ ps.length + ds.length ≤ 4000 ∧ 60 ≤ ps.length + ds.length
def bP1 : DEnv → Fl := seqF (ifF (toB (b2 gtD (nmD 6) (cD (.int 0)))) (seqF (appF 2 (b2 modD (nmD 6) (cD (.int 1000)))) (seqF (setF 6 (b2 fdivD (nmD 6) (cD (.int 1000)))) (nxD))) (nxD)) (nxD)
theorem sP1 (S : D) (b : Nat) (q : D) (ds : List D) (δ : DEnv) (h : IP1 S b (q :: ds) δ) : ∃ δ1 δ2, putD 5 q δ = .ok δ1 ∧ (bP1 δ1 = .nx δ2 ∨ bP1 δ1 = .ct δ2) ∧ IP1 S b ds δ2 := by
  obtain ⟨ps, t, l, c4, c5, c7, rfl, hp, hl⟩ := h
  simp only [List.length_cons] at hl
  have hz : ps.length < sizeLine := sz_lt (by omega)
  by_cases h0 : 0 < l
  · refine ⟨_, _, by simp; rfl, .inl (by simp [bP1, h0, o_modp, o_fdivp, d1000, apK2_ok, hz]; rfl), ps ++ [l % 1000], t, l / 1000, c4, some q, c7, by simp, hp.app (by omega) (by omega), by simp; omega⟩
  · refine ⟨_, _, by simp; rfl, .inl (by simp [bP1, h0]; rfl), ps, t, l, c4, some q, c7, by simp, hp, by omega⟩
def bP2 : DEnv → Fl := seqF (setF 7 (b2 modD (callF intD (consA (b2 addD (b2 mulD (nmD 7) (cD (.int 48271))) (cD (.int 11))) (nilA))) (cD (.int 2147483647)))) (seqF (appF 2 (b2 modD (b2 fdivD (nmD 7) (cD (.int 7))) (cD (.int 1000)))) (nxD))
theorem sP2 (S : D) (b : Nat) (q : D) (ds : List D) (δ : DEnv) (h : IP2 S b (q :: ds) δ) : ∃ δ1 δ2, putD 5 q δ = .ok δ1 ∧ (bP2 δ1 = .nx δ2 ∨ bP2 δ1 = .ct δ2) ∧ IP2 S b ds δ2 := by
  obtain ⟨ps, t, m, c4, c5, c6, rfl, hp, hl⟩ := h
  simp only [List.length_cons] at hl
  have hz : ps.length < sizeLine := sz_lt (by omega)
  refine ⟨_, _, by simp; rfl, .inl (by simp [bP2, o_modp, o_fdivp, d7, o_mul, mulOk_r, apK2_ok, hz]; rfl), ps ++ [(m * 48271 + 11) % 2147483647 / 7 % 1000], t, (m * 48271 + 11) % 2147483647, c4, some q, c6, by simp, hp.app (by omega) (by omega), by simp; omega⟩
def bP3 : DEnv → Fl := seqF (setF 3 (b2 modD (callF intD (consA (b2 addD (b2 mulD (nmD 3) (cD (.int 69621))) (cD (.int 13))) (nilA))) (cD (.int 2147483629)))) (seqF (appF 2 (b2 modD (b2 fdivD (nmD 3) (cD (.int 11))) (cD (.int 1000)))) (nxD))
theorem sP3 (S : D) (q : D) (ds : List D) (δ : DEnv) (h : IP3 S (q :: ds) δ) : ∃ δ1 δ2, putD 5 q δ = .ok δ1 ∧ (bP3 δ1 = .nx δ2 ∨ bP3 δ1 = .ct δ2) ∧ IP3 S ds δ2 := by
  obtain ⟨ps, t, c4, c5, c6, c7, rfl, hp, hl, h60⟩ := h
  simp only [List.length_cons] at hl h60
  have hz : ps.length < sizeLine := sz_lt (by omega)
  refine ⟨_, _, by simp; rfl, .inl (by simp [bP3, o_modp, o_fdivp, d11, o_mul, mulOk_r, apK2_ok, hz]; rfl), ps ++ [(t * 69621 + 13) % 2147483629 / 11 % 1000], (t * 69621 + 13) % 2147483629, c4, some q, c6, c7, by simp, hp.app (by omega) (by omega), by simp; omega, by simp; omega⟩
noncomputable def bP0 : DEnv → Fl := seqF (setF 6 (ifV (toB (b2 geD (nmD 4) (cD (.int 0)))) (b2 mulD (cD (.int 2)) (callF intD (consA (nmD 4) (nilA)))) (b2 subD (b2 mulD (u1 negD (cD (.int 2))) (callF intD (consA (nmD 4) (nilA)))) (cD (.int 1))))) (seqF (setF 3 (b2 modD (callF intD (consA (b2 addD (b2 mulD (nmD 3) (cD (.int 31))) (nmD 6)) (nilA))) (cD (.int 2147483629)))) (seqF (ifF (toB (b2 geD (nmD 6) (b2 powD (cD (.int 10)) (cD (.int 18))))) (seqF (forF (rng1 (consA (nmD 1) (nilA))) (putD 5) bP1) (nxD)) (seqF (setF 7 (b2 modD (callF intD (consA (b2 addD (b2 mulD (b2 addD (nmD 6) (cD (.int 5))) (cD (.int 40692))) (cD (.int 977))) (nilA))) (cD (.int 2147483399)))) (seqF (forF (rng1 (consA (cD (.int 6)) (nilA))) (putD 5) bP2) (nxD)))) (nxD)))
theorem r60 : rgK [.int 60] = .ok (intsFrom 0 60) := rgK_ok (by decide) (by decide)
theorem r6 : rgK [.int 6] = .ok (intsFrom 0 6) := rgK_ok (by decide) (by decide)
noncomputable def bP0' : DEnv → Fl := seqF (setF 3 (b2 modD (callF intD (consA (b2 addD (b2 mulD (nmD 3) (cD (.int 31))) (nmD 6)) (nilA))) (cD (.int 2147483629)))) (seqF (ifF (toB (b2 geD (nmD 6) (b2 powD (cD (.int 10)) (cD (.int 18))))) (seqF (forF (rng1 (consA (nmD 1) (nilA))) (putD 5) bP1) (nxD)) (seqF (setF 7 (b2 modD (callF intD (consA (b2 addD (b2 mulD (b2 addD (nmD 6) (cD (.int 5))) (cD (.int 40692))) (cD (.int 977))) (nilA))) (cD (.int 2147483399)))) (seqF (forF (rng1 (consA (cD (.int 6)) (nilA))) (putD 5) bP2) (nxD)))) (nxD))
theorem sP0' (S : D) (b : Nat) (ps : List Int) (t l : Int) (c4 c5 c7 : Option D) (hp : Pv ps) (hl : ps.length + (b + 60) ≤ 4000) :
    ∃ δ2, bP0' [some S, some (.int 60), some (.lst (ps.map D.int)), some (.int t), c4, c5, some (.int l), c7] = .nx δ2 ∧ IP S b δ2 := by
  by_cases h : 1000000000000000000 ≤ l
  · obtain ⟨δ', e, ps', t', l', c4', c5', c7', rfl, hp', hl'⟩ := for_thru (IP1 S b) (sP1 S b) (intsFrom 0 60) [some S, some (.int 60), some (.lst (ps.map D.int)), some (.int ((t * 31 + l) % 2147483629)), c4, c5, some (.int l), c7]
      ⟨ps, _, l, c4, c5, c7, rfl, hp, by rw [ints_len]; omega⟩
    refine ⟨_, by simp [bP0', o_modp, o_mul, mulOk_r, pw18, h, r60, e], ps', t', c4', c5', some (.int l'), c7', rfl, hp', by simp at hl'; omega⟩
  · obtain ⟨δ', e, ps', t', l', c4', c5', c6', rfl, hp', hl'⟩ := for_thru (IP2 S b) (sP2 S b) (intsFrom 0 6) [some S, some (.int 60), some (.lst (ps.map D.int)), some (.int ((t * 31 + l) % 2147483629)), c4, c5, some (.int l), some (.int (((l + 5) * 40692 + 977) % 2147483399))]
      ⟨ps, _, _, c4, c5, some (.int l), rfl, hp, by rw [ints_len]; omega⟩
    refine ⟨_, by simp [bP0', o_modp, o_mul, mulOk_r, pw18, h, r6, e], ps', t', c4', c5', c6', some (.int l'), rfl, hp', by simp at hl'; omega⟩
def IPs (S : D) (ds : List D) (δ : DEnv) : Prop := IP S (60 * ds.length + 100) δ ∧ ∀ q ∈ ds, ∃ i : Int, q = .int i
theorem sP0 (S : D) (q : D) (ds : List D) (δ : DEnv) (h : IPs S (q :: ds) δ) : ∃ δ1 δ2, putD 4 q δ = .ok δ1 ∧ (bP0 δ1 = .nx δ2 ∨ bP0 δ1 = .ct δ2) ∧ IPs S ds δ2 := by
  obtain ⟨⟨ps, t, c4, c5, c6, c7, rfl, hp, hl⟩, hq⟩ := h
  simp only [List.length_cons] at hl
  obtain ⟨i, rfl⟩ := hq _ List.mem_cons_self
  have key : ∃ l : Int, bP0 [some S, some (.int 60), some (.lst (ps.map D.int)), some (.int t), some (.int i), c5, c6, c7] = bP0' [some S, some (.int 60), some (.lst (ps.map D.int)), some (.int t), some (.int i), c5, some (.int l), c7] := by
    by_cases h : 0 ≤ i
    · exact ⟨2 * i, by unfold bP0 bP0'; rw [e_seq]; simp only [e_set, e_ifV]; simp [o_mul, mulOk_l, h, -e_seq, -e_if]⟩
    · exact ⟨-2 * i - 1, by unfold bP0 bP0'; rw [e_seq]; simp only [e_set, e_ifV]; simp [o_mul, mulOk_l, h, -e_seq, -e_if]⟩
  obtain ⟨l, hl2⟩ := key
  obtain ⟨δ2, e2, h2⟩ := sP0' S (60 * ds.length + 100) ps t l (some (.int i)) c5 c7 hp (by omega)
  exact ⟨_, δ2, by simp, .inl (hl2.trans e2), h2, fun q hq' => hq q (List.mem_cons_of_mem _ hq')⟩
theorem cutL_to {α : Type} {n : Nat} (xs : List α) : cutL xs none (some (n : Int)) = xs.take n := by
  unfold cutL
  rw [HT.sIx_none, HT.sIx_nat, List.drop_zero, Nat.sub_zero]
  by_cases h : n ≤ xs.length
  · rw [Nat.min_eq_left h]
  · rw [Nat.min_eq_right (by omega), List.take_of_length_le (Nat.le_refl _), List.take_of_length_le (by omega)]
theorem m_pool {ns : List Int} (hn : ns.length ≤ 63) : ∃ ps : List Int, den__law_pool [.scr (ns.map D.int), .int 60] = .ok (.lst (ps.map D.int)) ∧ ps.length = 60 ∧ Pv ps := by
  obtain ⟨δ1, e1, ⟨ps, t, c4, c5, c6, c7, rfl, hp, hl⟩, _⟩ := for_thru (IPs (.scr (ns.map D.int))) (sP0 (.scr (ns.map D.int))) (ns.map D.int) [some (.scr (ns.map D.int)), some (.int 60), some (.lst []), some (.int 7), none, none, none, none]
    ⟨⟨[], 7, none, none, none, none, rfl, fun _ h => absurd h (List.not_mem_nil), by simp; omega⟩, fun q hq => by
      obtain ⟨i, _, rfl⟩ := List.mem_map.mp hq
      exact ⟨i, rfl⟩⟩
  obtain ⟨δ2, e2, ps2, t2, d4, d5, d6, d7, rfl, hp2, hl2, h60⟩ := for_thru (IP3 (.scr (ns.map D.int))) (sP3 (.scr (ns.map D.int))) (intsFrom 0 60) [some (.scr (ns.map D.int)), some (.int 60), some (.lst (ps.map D.int)), some (.int t), c4, c5, c6, c7]
    ⟨ps, t, c4, c5, c6, c7, rfl, hp, by rw [ints_len]; simp at hl; omega, by rw [ints_len]; omega⟩
  have hb : body__law_pool = seqF (setF 2 (lstA nilA)) (seqF (setF 3 (cD (.int 7))) (seqF (forF (itS (nmD 0)) (putD 4) bP0) (seqF (forF (rng1 (consA (nmD 1) nilA)) (putD 5) bP3) (retF (sl3 cutD (nmD 2) noP (someP (nmD 1))))))) := rfl
  refine ⟨ps2.take 60, ?_, by simp at h60; simp; omega, fun v hv => hp2 v (List.mem_of_mem_take hv)⟩
  have e3 : sl3 cutD (nmD 2) noP (someP (nmD 1)) [some (.scr (ns.map D.int)), some (.int 60), some (.lst (ps2.map D.int)), some (.int t2), d4, d5, d6, d7] = .ok (.lst ((ps2.take 60).map D.int)) := by
    show R.ok (D.lst (cutL (ps2.map D.int) none (some 60))) = _
    have := cutL_to (n := 60) (ps2.map D.int)
    rw [show ((60 : Nat) : Int) = 60 from rfl] at this
    rw [this, List.map_take]
  rw [den__law_pool, e_run, hb]
  simp [e1, r60, e2, e3]
end DL

set_option maxRecDepth 100001
set_option maxHeartbeats 1000001
namespace DL
open PySem PySem.Spec PyProof.Rows L2
/-- an item of the pool -/
def gp (ps : List Int) (i : Int) : Int := (ps[i.toNat]?).getD 0
theorem gp_ok {ps : List Int} (hp : Pv ps) (i : Int) : 0 ≤ gp ps i ∧ gp ps i < 1000 := by
  unfold gp
  cases h : ps[i.toNat]? with
  | none => exact ⟨by decide, by decide⟩
  | some v => exact hp v (List.mem_of_getElem? h)
theorem ix_pool {ps : List Int} (hl : ps.length = 60) {i : Int} (h0 : 0 ≤ i) (h1 : i < 60) : idxD (.lst (ps.map D.int)) (.int i) = .ok (.int (gp ps i)) := by
  refine idx_lst h0 ?_
  rw [List.getElem?_map]
  unfold gp
  cases h : ps[i.toNat]? with
  | none =>
    rw [List.getElem?_eq_none_iff] at h
    omega
  | some v => rfl
def pn (ps : List Int) (w : Bool) (i : Int) : Int := if gp ps (i + 2) % 5 = 0 then 0 else if w = true then gp ps i * 1000 + gp ps (i + 1) - 500000 else gp ps i % 601 - 300
def pd (ps : List Int) (p : Int) (w : Bool) (i : Int) : Int := if p = 0 then 1 + (if w = true then (gp ps (i + 1) * 1000 + gp ps (i + 2)) % 999999 else gp ps (i + 1) % 12) else 1
theorem m_pair {ps : List Int} (hl : ps.length = 60) {p : Int} (w : Bool) {i : Int} (h0 : 0 ≤ i) (h1 : i < 58) : den__law_pair [.lst (ps.map D.int), .int i, .int p, .bl w] = .ok (.tup [.int (pn ps w i), .int (pd ps p w i)]) := by
  have e0 := ix_pool hl h0 (by omega)
  have e1 := ix_pool hl (i := i + 1) (by omega) (by omega)
  have e2 := ix_pool hl (i := i + 2) (by omega) (by omega)
  cases w <;> by_cases hp : p = 0 <;> by_cases hz : gp ps (i + 2) % 5 = 0 <;> simp [den__law_pair, e_run, body__law_pair, e0, e1, e2, hp, hz, o_modp, o_mul, mulOk_r, pn, pd]
theorem pn_bz {ps : List Int} (hp : Pv ps) (w : Bool) (i : Int) : Bz 20 (pn ps w i) := by
  have a := gp_ok hp i
  have b := gp_ok hp (i + 1)
  unfold Bz pn
  split
  · decide
  · split <;> (rw [show (2 ^ 20 : Nat) = 1048576 from rfl]; omega)
theorem pd_bz {ps : List Int} (hp : Pv ps) (p : Int) (w : Bool) (i : Int) : Bz 20 (pd ps p w i) := by
  have b := gp_ok hp (i + 1)
  have c := gp_ok hp (i + 2)
  unfold Bz pd
  split
  · split <;> (rw [show (2 ^ 20 : Nat) = 1048576 from rfl]; omega)
  · decide
theorem pd_ok {ps : List Int} (hp : Pv ps) (p : Int) (w : Bool) (i : Int) : if p = 0 then pd ps p w i ≠ 0 else pd ps p w i = 1 := by
  have b := gp_ok hp (i + 1)
  have c := gp_ok hp (i + 2)
  unfold pd
  split
  · split <;> omega
  · rfl
theorem pq_gp {ps : List Int} (hp : Pv ps) {p : Int} (hf : Fd p) (w : Bool) (i : Int) : Gp p 20 (pn ps w i, pd ps p w i) := by
  obtain ⟨x, hx⟩ := Rp.ex hf (n := pn ps w i) (pd_ok hp p w i)
  exact ⟨hx.gd, pn_bz hp w i, pd_bz hp p w i⟩
theorem Gp.mono {p : Int} {k l : Nat} {f : Int × Int} (h : Gp p k f) (hk : k ≤ l) : Gp p l f := ⟨h.1, h.2.1.mono hk, h.2.2.mono hk⟩
/-! rows -/
def tq (f : Int × Int) : D := .tup [.int f.1, .int f.2]
theorem Rp.shp {p n d : Int} {x : D} (h : Rp p n d x) (m : Nat) : DL.shp x (m + 1) = true := by
  cases h with
  | z => rfl
  | p => rfl
theorem Gp.shp {p : Int} {k : Nat} {f : Int × Int} (h : Gp p k f) (m : Nat) : DL.shp (nq p f) (m + 1) = true := Rp.shp (h.1 : Rp p f.1 f.2 _) m
theorem shpL_map {α : Type} (f : α → D) (n : Nat) : ∀ {l : List α}, (∀ a ∈ l, shp (f a) n = true) → shpL (l.map f) n = true
  | [], _ => rfl
  | a :: l, h => by
    show shpL (f a :: l.map f) n = true
    unfold shpL
    rw [h a List.mem_cons_self, shpL_map f n fun b hb => h b (List.mem_cons_of_mem _ hb)]
    rfl
theorem ix_map {α : Type} (f : α → D) {l : List α} {i : Nat} {a : α} (h : l[i]? = some a) : idxD (.lst (l.map f)) (.int i) = .ok (f a) := by
  refine idx_lst (by omega) ?_
  rw [List.getElem?_map, Int.toNat_natCast, h]
  rfl
theorem bz_shq {p : Int} {s f g : Int × Int} (hs : Gp p 20 s) (hf : Gp p 20 f) (hg : Gp p 20 g) : Bz 100 (shq s f g).1 ∧ Bz 100 (shq s f g).2 :=
  ⟨(((hf.2.1.mul hs.2.2).mul hg.2.2).add ((hs.2.1.mul hg.2.1).mul hf.2.2)).mono (by decide), ((hf.2.2.mul hs.2.2).mul hg.2.2).mono (by decide)⟩
theorem bz_dot {p : Int} : ∀ (l : List ((Int × Int) × (Int × Int))) (s : Int × Int) (k : Nat), (∀ x ∈ l, Gp p 20 x.1 ∧ Gp p 20 x.2) → Bz k s.1 → Bz k s.2 → Bz (k + 41 * l.length) (dotq s l).1 ∧ Bz (k + 41 * l.length) (dotq s l).2
  | [], s, k, _, h1, h2 => ⟨h1, h2⟩
  | (f, g) :: r, s, k, H, h1, h2 => by
    obtain ⟨hf, hg⟩ := H _ List.mem_cons_self
    have a := ((h1.mul hf.2.2).mul hg.2.2).add ((hf.2.1.mul hg.2.1).mul h2)
    have b := (h2.mul hf.2.2).mul hg.2.2
    have := bz_dot r (s.1 * f.2 * g.2 + f.1 * g.1 * s.2, s.2 * f.2 * g.2) (k + 41) (fun x hx => H x (List.mem_cons_of_mem _ hx)) (a.mono (by omega)) (b.mono (by omega))
    simp only [dotq, List.length_cons]
    exact ⟨this.1.mono (by omega), this.2.mono (by omega)⟩
/-- the law's check of two rows: the state of its loop -/
def Irow (p : Int) (fs gs : List (Int × Int)) (s : Int × Int) (ds : List D) (δ : DEnv) : Prop := ∃ (i : Nat) (l : List ((Int × Int) × (Int × Int))) (t : Int × Int) (j9 j12 j13 j14 : Option D),
  δ = [some (.int p), some (.lst (fs.map tq)), some (.lst (gs.map tq)), some (tq s), some (.lst (fs.map (nq p))), some (.lst (gs.map (nq p))), some (nq p s), some (.lst [.lst (fs.map (nq p)), .lst (gs.map (nq p))]), some (.lst ((fs.zip gs).map fun x => nq p (shq s x.1 x.2))), j9, some (.int t.1), some (.int t.2), j12, j13, j14] ∧
  ds = (List.range' i l.length).map (fun j => D.int ((j : Nat) : Int)) ∧ l = (fs.zip gs).drop i ∧ dotq t l = dotq (0, 1) (fs.zip gs) ∧ Bz (41 * i + 1) t.1 ∧ Bz (41 * i + 1) t.2 ∧ i + l.length = (fs.zip gs).length
noncomputable def bRow : DEnv → Fl := seqF (parF 13 14 (consA (b2 idxD (nmD 1) (nmD 9)) (consA (b2 idxD (nmD 2) (nmD 9)) (nilA)))) (seqF (setF 12 (tupA (consA (b2 addD (b2 mulD (b2 mulD (b2 idxD (nmD 13) (cD (.int 0))) (b2 idxD (nmD 3) (cD (.int 1)))) (b2 idxD (nmD 14) (cD (.int 1)))) (b2 mulD (b2 mulD (b2 idxD (nmD 3) (cD (.int 0))) (b2 idxD (nmD 14) (cD (.int 0)))) (b2 idxD (nmD 13) (cD (.int 1))))) (consA (b2 mulD (b2 mulD (b2 idxD (nmD 13) (cD (.int 1))) (b2 idxD (nmD 3) (cD (.int 1)))) (b2 idxD (nmD 14) (cD (.int 1)))) (nilA))))) (seqF (ifF (notB (toT (callF den__law_same (consA (nmD 0) (consA (b2 idxD (nmD 8) (nmD 9)) (consA (callF den__law_number (consA (nmD 0) (consA (b2 idxD (nmD 12) (cD (.int 0))) (consA (b2 idxD (nmD 12) (cD (.int 1))) (nilA))))) (nilA))))))) (retF (cD (.bl false))) (nxD)) (seqF (parF 10 11 (consA (b2 addD (b2 mulD (b2 mulD (nmD 10) (b2 idxD (nmD 13) (cD (.int 1)))) (b2 idxD (nmD 14) (cD (.int 1)))) (b2 mulD (b2 mulD (b2 idxD (nmD 13) (cD (.int 0))) (b2 idxD (nmD 14) (cD (.int 0)))) (nmD 11))) (consA (b2 mulD (b2 mulD (nmD 11) (b2 idxD (nmD 13) (cD (.int 1)))) (b2 idxD (nmD 14) (cD (.int 1)))) (nilA)))) (nxD))))
theorem shq_ex {p : Int} (hf : Fd p) {s f g : Int × Int} (hs : Gp p 20 s) (h1 : Gp p 20 f) (h2 : Gp p 20 g) : Rp p (shq s f g).1 (shq s f g).2 (nq p (shq s f g)) := by
  have a1 := hs.mono (l := 100) (by decide)
  have a2 := h1.mono (l := 100) (by decide)
  have a3 := h2.mono (l := 100) (by decide)
  obtain ⟨w, hw, rw⟩ := m_multiply (a1.1 : Rp p s.1 s.2 _) (a3.1 : Rp p g.1 g.2 _) (a1.2.1.mono (by decide)) (a1.2.2.mono (by decide)) (a3.2.1.mono (by decide)) (a3.2.2.mono (by decide))
  obtain ⟨z, hz, rz⟩ := m_add (a2.1 : Rp p f.1 f.2 _) rw (a2.2.1.mono (by decide)) (a2.2.2.mono (by decide)) ((a1.2.1.mul a3.2.1).mono (by decide)) ((a1.2.2.mul a3.2.2).mono (by decide))
  have rz' : Rp p (shq s f g).1 (shq s f g).2 z := rz.cast (by unfold shq; grind) (by unfold shq; grind)
  exact rz'.rp
theorem s_row {p : Int} (hf : Fd p) {fs gs : List (Int × Int)} {s : Int × Int} (hs : Gp p 20 s) (h1 : ∀ f ∈ fs, Gp p 20 f) (h2 : ∀ f ∈ gs, Gp p 20 f) (hl : fs.length = gs.length) (hl6 : fs.length ≤ 6) (q : D) (ds : List D) (δ : DEnv) (h : Irow p fs gs s (q :: ds) δ) :
    ∃ δ1 δ2, putD 9 q δ = .ok δ1 ∧ (bRow δ1 = .nx δ2 ∨ bRow δ1 = .ct δ2) ∧ Irow p fs gs s ds δ2 := by
  obtain ⟨i, l, t, j9, j12, j13, j14, rfl, hds, hlz, hd, b1, b2, hi⟩ := h
  cases l with
  | nil => cases hds
  | cons x r =>
    obtain ⟨f, g⟩ := x
    simp only [List.length_cons, List.range'_succ, List.map_cons, List.cons.injEq] at hds
    obtain ⟨rfl, rfl⟩ := hds
    simp only [List.length_cons] at hi
    have hz : (fs.zip gs).length ≤ 6 := by rw [List.length_zip]; omega
    have hg1 : (fs.zip gs)[i]? = some (f, g) := by
      have : ((fs.zip gs).drop i)[0]? = some (f, g) := by rw [← hlz]; rfl
      rw [List.getElem?_drop] at this
      exact this
    have hg2 : fs[i]? = some f ∧ gs[i]? = some g := by
      rw [List.getElem?_zip_eq_some] at hg1
      exact hg1
    have hfm := h1 f (List.mem_of_getElem? hg2.1)
    have hgm := h2 g (List.mem_of_getElem? hg2.2)
    have e1 := ix_map tq hg2.1
    have e2 := ix_map tq hg2.2
    have e3 : idxD (D.lst ((fs.zip gs).map fun x => nq p (shq s x.1 x.2))) (D.int i) = .ok (nq p (shq s f g)) := ix_map (fun x : (Int × Int) × (Int × Int) => nq p (shq s x.1 x.2)) hg1
    have rq := shq_ex hf hs hfm hgm
    have hb := bz_shq hs hfm hgm
    have e4 : den__law_number [.int p, .int (f.1 * s.2 * g.2 + s.1 * g.1 * f.2), .int (f.2 * s.2 * g.2)] = .ok (nq p (shq s f g)) := m_law_number rq (hb.1.mono (by decide)) (hb.2.mono (by decide))
    have e5 := m_law_same rq
    have hB : ∀ {k : Nat} {a b : Int}, Bz k a → Bz k b → k ≤ 400000 → mulOk a b = true := fun ha hb hk => (ha.mono hk).mulOk (hb.mono hk)
    have c1 := hfm.2.1.mono (l := 400) (by decide)
    have c2 := hfm.2.2.mono (l := 400) (by decide)
    have c3 := hgm.2.1.mono (l := 400) (by decide)
    have c4 := hgm.2.2.mono (l := 400) (by decide)
    have c5 := hs.2.1.mono (l := 400) (by decide)
    have c6 := hs.2.2.mono (l := 400) (by decide)
    have c7 := b1.mono (l := 400) (by omega)
    have c8 := b2.mono (l := 400) (by omega)
    have m1 := hB c1 c6 (by decide)
    have m2 := hB ((c1.mul c6).mono (l := 1000) (by decide)) (c4.mono (l := 1000) (by decide)) (by decide)
    have m3 := hB c5 c3 (by decide)
    have m4 := hB ((c5.mul c3).mono (l := 1000) (by decide)) (c2.mono (l := 1000) (by decide)) (by decide)
    have m5 := hB c2 c6 (by decide)
    have m6 := hB ((c2.mul c6).mono (l := 1000) (by decide)) (c4.mono (l := 1000) (by decide)) (by decide)
    have m7 := hB c7 c2 (by decide)
    have m8 := hB ((c7.mul c2).mono (l := 1000) (by decide)) (c4.mono (l := 1000) (by decide)) (by decide)
    have m9 := hB c1 c3 (by decide)
    have m10 := hB ((c1.mul c3).mono (l := 1000) (by decide)) (c8.mono (l := 1000) (by decide)) (by decide)
    have m11 := hB c8 c2 (by decide)
    have m12 := hB ((c8.mul c2).mono (l := 1000) (by decide)) (c4.mono (l := 1000) (by decide)) (by decide)
    have a := ((b1.mul hfm.2.2).mul hgm.2.2).add ((hfm.2.1.mul hgm.2.1).mul b2)
    have b := (b2.mul hfm.2.2).mul hgm.2.2
    refine ⟨_, _, by simp; rfl, .inl (by simp [bRow, e1, e2, e3, tq, o_mul, m1, m2, m3, m4, m5, m6, m7, m8, m9, m10, m11, m12, e4, e5]; rfl), i + 1, r, (t.1 * f.2 * g.2 + f.1 * g.1 * t.2, t.2 * f.2 * g.2), some (.int i), some (tq (shq s f g)), some (tq f), some (tq g), ?_, rfl, ?_, hd, a.mono (by omega), b.mono (by omega), by omega⟩
    · simp [tq, shq]
    · rw [← List.drop_drop, ← hlz]
      rfl
end DL

set_option maxRecDepth 100001
set_option maxHeartbeats 1000001
namespace DL
open PySem PySem.Spec PyProof.Rows L2
theorem num_gp {p : Int} {f : Int × Int} (h : Gp p 20 f) : den__law_number [.int p, .int f.1, .int f.2] = .ok (nq p f) := m_law_number (h.1 : Rp p f.1 f.2 _) (h.2.1.mono (by decide)) (h.2.2.mono (by decide))
theorem lc_rows {p : Int} {fs : List (Int × Int)} (h : ∀ f ∈ fs, Gp p 20 f) (hl : fs.length ≤ 6) (c1 c2 c3 c4 c5 c6 c7 c8 c9 c10 c11 c12 c13 c14 : Option D) :
    R.lc [10, 11] (tupT (consT (putD 10) (consT (putD 11) (nilT)))) (yesB) (callF den__law_number (consA (nmD 0) (consA (nmD 10) (consA (nmD 11) (nilA))))) (.ok (fs.map tq)) [some (.int p), c1, c2, c3, c4, c5, c6, c7, c8, c9, c10, c11, c12, c13, c14] = .ok (.lst (fs.map (nq p))) := by
  refine lc_map tq (nq p) (fun f hf => ?_) (by omega)
  refine ⟨[some (.int p), c1, c2, c3, c4, c5, c6, c7, c8, c9, some (.int f.1), some (.int f.2), c12, c13, c14], by simp [wipeD, tq], rfl, ?_⟩
  simp [num_gp (h f hf)]
theorem ints_range' (n : Nat) : intsFrom 0 n = (List.range' 0 n).map fun j => D.int ((j : Nat) : Int) := by
  unfold intsFrom
  rw [List.range_eq_range']
  simp
theorem m_rows {p : Int} (hf : Fd p) {fs gs : List (Int × Int)} {s : Int × Int} (hs : Gp p 20 s) (h1 : ∀ f ∈ fs, Gp p 20 f) (h2 : ∀ f ∈ gs, Gp p 20 f) (hl : fs.length = gs.length) (hl6 : fs.length ≤ 6) :
    den__law_rows [.int p, .lst (fs.map tq), .lst (gs.map tq), tq s] = .ok (.bl true) := by
  have hz : (fs.zip gs).length = fs.length := by rw [List.length_zip]; omega
  have e1 := lc_rows h1 hl6
  have e2 := lc_rows h2 (by omega)
  have e3 := num_gp hs
  have e4 := m_shifted hf (hs.mono (by decide)) (fun f hf => (h1 f hf).mono (by decide : 20 ≤ 100)) (fun f hf => (h2 f hf).mono (by decide : 20 ≤ 100)) (by omega)
  have sh : shp (.lst [.lst (fs.map (nq p)), .lst (gs.map (nq p))]) 8 = true := by
    simp only [shp, shpL]
    rw [shpL_map _ _ fun f hf => (h1 f hf).shp 5, shpL_map _ _ fun f hf => (h2 f hf).shp 5]
    rfl
  have e5 := neD_refl sh
  have e6 := eqD_refl sh
  obtain ⟨δ', e7, hI⟩ := for_thru (h := putD 9) (b := bRow) (Irow p fs gs s) (s_row hf hs h1 h2 hl hl6) (intsFrom 0 fs.length)
    [some (.int p), some (.lst (fs.map tq)), some (.lst (gs.map tq)), some (tq s), some (.lst (fs.map (nq p))), some (.lst (gs.map (nq p))), some (nq p s), some (.lst [.lst (fs.map (nq p)), .lst (gs.map (nq p))]), some (.lst ((fs.zip gs).map fun x => nq p (shq s x.1 x.2))), none, some (.int 0), some (.int 1), none, none, none]
    ⟨0, fs.zip gs, (0, 1), none, none, none, none, rfl, by rw [hz, ints_range'], by simp, rfl, Bz.zero, Bz.one (by omega), by omega⟩
  obtain ⟨i, l, t, j9, j12, j13, j14, rfl, hds, hlz, hd, B1, B2, hi⟩ := hI
  have hl0 : l = [] := by
    cases l with
    | nil => rfl
    | cons x r => simp [List.range'_succ] at hds
  subst hl0
  obtain ⟨z, e8, rz⟩ := m_dot hf (fun f hf => (h1 f hf).mono (by decide : 20 ≤ 100)) (fun f hf => (h2 f hf).mono (by decide : 20 ≤ 100)) hl6
  have ht : t = dotq (0, 1) (fs.zip gs) := hd
  rw [← ht] at rz
  have hi6 : i ≤ 6 := by
    have : i + 0 = (fs.zip gs).length := hi
    omega
  have e9 := m_law_number rz (B1.mono (by omega)) (B2.mono (by omega))
  have e10 := m_law_same rz
  have r6 : rgK [.int (fs.length : Nat)] = .ok (intsFrom 0 fs.length) := rgK_nat (by omega)
  have hlen : min fs.length gs.length = fs.length := by omega
  have t0 : tq s = .tup [.int s.1, .int s.2] := rfl
  rw [t0] at e7 ⊢
  unfold bRow at e7
  simp [den__law_rows, e_run, body__law_rows, e1, e2, e3, e4, e5, e6, e7, e8, e9, e10, r6, hlen]
end DL

set_option maxRecDepth 100001
set_option maxHeartbeats 4000001
namespace DL
open PySem PySem.Spec PyProof.Rows L2
def bPw : DEnv → Fl := seqF (parF 4 17 (consA (b2 mulD (nmD 4) (b2 idxD (nmD 13) (cD (.int 0)))) (consA (b2 mulD (nmD 17) (b2 idxD (nmD 13) (cD (.int 1)))) (nilA)))) (nxD)
def Ipw (f : Int × Int) (K : Nat) (c0 c1 c2 c3 c5 c6 c8 c9 c10 c11 c12 c14 c15 c16 : Option D) (ds : List D) (δ : DEnv) : Prop := ∃ (i : Nat) (c7 : Option D), δ = [c0, c1, c2, c3, some (.int (f.1 ^ i)), c5, c6, c7, c8, c9, c10, c11, c12, some (tq f), c14, c15, c16, some (.int (f.2 ^ i))] ∧ i + ds.length = K
theorem lp_pow {f : Int × Int} (b1 : Bz 20 f.1) (b2 : Bz 20 f.2) {K : Nat} (hK : K ≤ 1000) (c0 c1 c2 c3 c5 c6 c7 c8 c9 c10 c11 c12 c14 c15 c16 : Option D) :
    ∃ c7', forD (putD 7) bPw (intsFrom 0 K) [c0, c1, c2, c3, some (.int 1), c5, c6, c7, c8, c9, c10, c11, c12, some (tq f), c14, c15, c16, some (.int 1)] = .nx [c0, c1, c2, c3, some (.int (f.1 ^ K)), c5, c6, c7', c8, c9, c10, c11, c12, some (tq f), c14, c15, c16, some (.int (f.2 ^ K))] := by
  obtain ⟨δ', e, i, c7', rfl, hi⟩ := for_thru (h := putD 7) (b := bPw) (Ipw f K c0 c1 c2 c3 c5 c6 c8 c9 c10 c11 c12 c14 c15 c16) (by
    rintro q ds δ ⟨i, c7, rfl, hi⟩
    simp only [List.length_cons] at hi
    have m1 : mulOk (f.1 ^ i) f.1 = true := ((pow_bz b1).mono (by omega)).mulOk (b1.mono (by decide))
    have m2 : mulOk (f.2 ^ i) f.2 = true := ((pow_bz b2).mono (by omega)).mulOk (b2.mono (by decide))
    refine ⟨_, _, by simp; rfl, .inl (by simp [bPw, tq, o_mul, m1, m2]; rfl), i + 1, some q, ?_, by omega⟩
    simp [tq, Int.pow_succ]) (intsFrom 0 K) [c0, c1, c2, c3, some (.int 1), c5, c6, c7, c8, c9, c10, c11, c12, some (tq f), c14, c15, c16, some (.int 1)] ⟨0, c7, by simp, by rw [ints_len]; omega⟩
  have : i = K := by simpa using hi
  subst this
  exact ⟨c7', e⟩
theorem ne_zero {p n d : Int} {x z : D} (hx : Rp p n d x) (hz : Rp p 0 1 z) : ∃ b, neD x z = .ok (.bl b) ∧ (b = true ↔ ¬ Z0 p n) := by
  cases hx with
  | @z a b q h1 h2 h3 =>
    have : z = .tup [.int 0, .int 1] := hz.uniq ((Rp.z (a := 0) (b := 1) (q := 1) (by decide) (by decide) (by decide)).cast (by simp) (by simp))
    subst this
    rw [o_neII]
    have e : (a = 0 ∧ b = 1) ↔ Z0 0 (a * q) := by
      unfold Z0
      rw [if_pos rfl]
      constructor
      · rintro ⟨rfl, _⟩
        simp
      · intro e
        have ha : a = 0 := (Int.mul_eq_zero.mp e).resolve_right h3
        subst ha
        refine ⟨rfl, ?_⟩
        have : Int.gcd 0 b = b.natAbs := by simp
        omega
    exact ⟨_, rfl, by rw [← e, Bool.not_eq_true', decide_eq_false_iff_not]⟩
  | p h1 h2 h3 h4 h5 =>
    rename_i k
    have hp := h1.pos
    have : z = .int 0 := hz.uniq (Rp.p h1 (fun e => by have := Int.le_of_dvd (by decide) e; have := h1.two; omega) (by omega) hp (by simp))
    subst this
    rw [o_neI]
    have e : (k = 0) ↔ Z0 p n := by
      unfold Z0
      rw [if_neg (by omega)]
      obtain ⟨m, hm⟩ := h5
      constructor
      · rintro rfl
        exact ⟨-m, by grind⟩
      · rintro ⟨w, rfl⟩
        have : p ∣ k * d := ⟨m + w, by grind⟩
        exact dvd_small hp ((h1.euclid this).resolve_right h2) (by omega) h4
    exact ⟨_, rfl, by rw [← e, Bool.not_eq_true', decide_eq_false_iff_not]⟩
theorem prime_of (v : Int) (h0 : 0 ≤ v) (h1 : v < 6) : ∃ p, Fd p ∧ idxD (.tup [.int 2, .int 3, .int 5, .int 7, .int 11, .int 0]) (.int v) = .ok (.int p) := by
  have : v = 0 ∨ v = 1 ∨ v = 2 ∨ v = 3 ∨ v = 4 ∨ v = 5 := by omega
  rcases this with rfl | rfl | rfl | rfl | rfl | rfl
  · exact ⟨2, .inr (.inl rfl), rfl⟩
  · exact ⟨3, .inr (.inr (.inl rfl)), rfl⟩
  · exact ⟨5, .inr (.inr (.inr (.inl rfl))), rfl⟩
  · exact ⟨7, .inr (.inr (.inr (.inr (.inl rfl)))), rfl⟩
  · exact ⟨11, .inr (.inr (.inr (.inr (.inr rfl)))), rfl⟩
  · exact ⟨0, .inl rfl, rfl⟩
theorem pw57 : powD (.int 10) (.int 57) = .ok (.int 1000000000000000000000000000000000000000000000000000000000) := by
  show (if (0 : Int) ≤ 57 ∧ (57 : Int) ≤ 1000000 ∧ (10 : Int).natAbs < 2 ^ 64 then R.ok (D.int ((10 : Int) ^ (57 : Int).toNat)) else .stk) = _
  rw [if_pos (by decide)]
  rfl
theorem lc_pairs {ps : List Int} (hl : ps.length = 60) {p : Int} (w : Bool) (K : Nat) (hK : K ≤ 6) (o : Int) (h0 : 0 ≤ o) (h1 : o ≤ 30) (c0 c3 c4 c5 c6 c7 c8 c9 c10 c12 c13 c14 c15 c16 c17 : Option D) :
    R.lc [7] (putD 7) (yesB) (callF den__law_pair (consA (nmD 1) (consA (b2 addD (cD (.int o)) (b2 mulD (cD (.int 3)) (nmD 7))) (consA (nmD 2) (consA (nmD 11) (nilA)))))) (.ok (intsFrom 0 K)) [c0, some (.lst (ps.map D.int)), some (.int p), c3, c4, c5, c6, c7, c8, c9, c10, some (.bl w), c12, c13, c14, c15, c16, c17]
      = .ok (.lst (((List.range' 0 K).map fun (j : Nat) => (pn ps w (o + 3 * (j : Int)), pd ps p w (o + 3 * (j : Int)))).map tq)) := by
  rw [ints_range', List.map_map]
  refine lc_map (fun (j : Nat) => D.int (j : Int)) _ (fun j hj => ?_) (by rw [List.length_range']; omega)
  have hj2 := List.mem_range'_1.mp hj
  refine ⟨[c0, some (.lst (ps.map D.int)), some (.int p), c3, c4, c5, c6, some (.int (j : Int)), c8, c9, c10, some (.bl w), c12, c13, c14, c15, c16, c17], by simp [wipeD], rfl, ?_⟩
  have e := m_pair hl (p := p) w (i := o + 3 * (j : Int)) (by omega) (by omega)
  simp [o_mul, mulOk_l (i := 3) (j := (j : Int)) (by decide) (by decide), e, tq]
end DL

set_option maxRecDepth 100001
set_option maxHeartbeats 8000001
namespace DL
open PySem PySem.Spec PyProof.Rows L2
theorem seq_nx {g h : DEnv → Fl} {δ δ' : DEnv} {r : Fl} (h1 : g δ = .nx δ') (h2 : h δ' = r) : seqF g h δ = r := by rw [e_seq, h1]; exact h2
theorem run_rt {m : Nat} {g : DEnv → Fl} {ds : List D} {d : D} (h : g (startD m ds) = .rt d) : runD m g ds = .ok d := by rw [e_run, h]; rfl
theorem den_law_true (ns : List Int) (hn : ns.length ≤ 63) : den_law [.scr (ns.map D.int)] = .ok (.bl true) := by
  obtain ⟨ps, e1, hl, hp⟩ := m_pool hn
  have ix : ∀ {i : Int}, 0 ≤ i → i < 60 → idxD (.lst (ps.map D.int)) (.int i) = .ok (.int (gp ps i)) := fun h0 h1 => ix_pool hl h0 h1
  have g := gp_ok hp
  obtain ⟨p, hf, e2⟩ := prime_of (gp ps 0 % 6) (by omega) (by omega)
  generalize hw : decide (gp ps 55 % 4 = 0) = w
  generalize hL : (gp ps 57 - 500) * 1000000000000000000000000000000000000000000000000000000000 + gp ps 58 = L
  have bL : Bz 2000 L := by
    have h57 := g 57
    have h58 := g 58
    refine (Bz.lit (k := 210) (m := 10 ^ 61) ?_ (by decide)).mono (by decide)
    rw [← hL]
    have : (10 ^ 61 : Nat) = 10000000000000000000000000000000000000000000000000000000000000 := by decide
    omega
  have mL : mulOk (gp ps 57 - 500) 1000000000000000000000000000000000000000000000000000000000 = true := mulOk_l (by have := g 57; omega) (by have := g 57; omega)
  have pa := m_pair hl (p := p) w (i := 1) (by decide) (by decide)
  have pb := m_pair hl (p := p) w (i := 4) (by decide) (by decide)
  have ga := pq_gp hp hf w 1
  have gb := pq_gp hp hf w 4
  have da := pd_ok hp p w 1
  have db := pd_ok hp p w 4
  generalize hA0 : pn ps w 1 = a0 at *
  generalize hA1 : pd ps p w 1 = a1 at *
  generalize hB0 : pn ps w 4 = b0 at *
  generalize hB1 : pd ps p w 4 = b1 at *
  obtain ⟨ra, ba0, ba1⟩ := ga
  obtain ⟨rb, bb0, bb1⟩ := gb
  simp only at ra ba0 ba1 rb bb0 bb1
  have ra' : Rp p a0 a1 (nm p a0 a1) := ra
  have rb' : Rp p b0 b1 (nm p b0 b1) := rb
  have nx := m_law_number ra' (ba0.mono (by decide)) (ba1.mono (by decide))
  have ny := m_law_number rb' (bb0.mono (by decide)) (bb1.mono (by decide))
  -- the power
  obtain ⟨K, hK, hKe⟩ : ∃ K : Nat, K ≤ 40 ∧ (DL.ifV (toB (b2 eqD (b2 modD (b2 idxD (nmD 1) (cD (.int 56))) (cD (.int 4))) (cD (.int 0)))) (cD (.int 41)) (cD (.int 10)) = DL.ifV (toB (b2 eqD (b2 modD (b2 idxD (nmD 1) (cD (.int 56))) (cD (.int 4))) (cD (.int 0)))) (cD (.int 41)) (cD (.int 10))) ∧ (if gp ps 56 % 4 = 0 then gp ps 7 % 41 else gp ps 7 % 10) = (K : Int) := by
    refine ⟨(if gp ps 56 % 4 = 0 then gp ps 7 % 41 else gp ps 7 % 10).toNat, ?_, rfl, ?_⟩ <;> split <;> omega
  obtain ⟨_, hKe⟩ := hKe
  have cf : den_check_field [.int p] = .ok .non := by rw [m_check_field, if_pos (isF_iff.mpr hf)]
  have k1 := m_law_kinds ra' a0 (ba0.mono (by decide)) (ba1.mono (by decide))
  have k2 := m_law_kinds ra' L (ba0.mono (by decide)) (ba1.mono (by decide))
  obtain ⟨z1, n1, r1⟩ := m_number_of hf a0
  have l1 := m_law_number r1 (ba0.mono (by decide)) (Bz.one (by decide))
  have s1 := m_law_same r1
  obtain ⟨z2, n2, r2⟩ := m_number_of hf L
  have l2 := m_law_number r2 (bL.mono (by decide)) (Bz.one (by decide))
  have s2 := m_law_same r2
  obtain ⟨z3, n3, r3⟩ := m_add ra' rb' (ba0.mono (by decide)) (ba1.mono (by decide)) (bb0.mono (by decide)) (bb1.mono (by decide))
  have l3 := m_law_number r3 (((ba0.mul bb1).add (bb0.mul ba1)).mono (by decide)) ((ba1.mul bb1).mono (by decide))
  have s3 := m_law_same r3
  obtain ⟨z4, n4, r4⟩ := m_subtract ra' rb' (ba0.mono (by decide)) (ba1.mono (by decide)) (bb0.mono (by decide)) (bb1.mono (by decide))
  have l4 := m_law_number r4 (by rw [Int.sub_eq_add_neg]; exact (((ba0.mul bb1).add (bb0.mul ba1).neg).mono (by decide))) ((ba1.mul bb1).mono (by decide))
  have s4 := m_law_same r4
  obtain ⟨z5, n5, r5⟩ := m_negate ra'
  have l5 := m_law_number r5 (ba0.neg.mono (by decide)) (ba1.mono (by decide))
  have s5 := m_law_same r5
  obtain ⟨z6, n6, r6⟩ := m_multiply ra' rb' (ba0.mono (by decide)) (ba1.mono (by decide)) (bb0.mono (by decide)) (bb1.mono (by decide))
  have l6 := m_law_number r6 ((ba0.mul bb0).mono (by decide)) ((ba1.mul bb1).mono (by decide))
  have s6 := m_law_same r6
  obtain ⟨z7, n7, r7⟩ := m_raise_to hf ra' (k := K) (b := 20) (by omega) (by omega) ba0 ba1 (by decide)
  have l7 := m_law_number r7 ((pow_bz ba0).mono (by omega)) ((pow_bz ba1).mono (by omega))
  have s7 := m_law_same r7
  obtain ⟨z8, n8, r8⟩ := m_number_of hf 0
  have l8 := m_law_number r8 Bz.zero (Bz.one (by decide))
  have B1 : ∀ {a b : Int}, Bz 20 a → Bz 20 b → mulOk a b = true := fun h h2 => (h.mono (by decide)).mulOk (h2.mono (by decide))
  have rK : rgK [.int (K : Nat)] = .ok (intsFrom 0 K) := rgK_nat (by omega)
  -- the rows
  obtain ⟨M, hM, hMe⟩ : ∃ M : Nat, M ≤ 6 ∧ gp ps 8 % 7 = (M : Int) := ⟨(gp ps 8 % 7).toNat, by omega, by omega⟩
  have rM : rgK [.int (M : Nat)] = .ok (intsFrom 0 M) := rgK_nat (by omega)
  have w1 := lc_pairs hl (p := p) w M hM 10 (by decide) (by decide)
  have w2 := lc_pairs hl (p := p) w M hM 30 (by decide) (by decide)
  have R := m_rows hf (fs := (List.range' 0 M).map fun (j : Nat) => (pn ps w (10 + 3 * (j : Int)), pd ps p w (10 + 3 * (j : Int)))) (gs := (List.range' 0 M).map fun (j : Nat) => (pn ps w (30 + 3 * (j : Int)), pd ps p w (30 + 3 * (j : Int)))) (s := (b0, b1)) ⟨rb, bb0, bb1⟩ (fun f hf' => by
    obtain ⟨j, _, rfl⟩ := List.mem_map.mp hf'
    exact pq_gp hp hf w _) (fun f hf' => by
    obtain ⟨j, _, rfl⟩ := List.mem_map.mp hf'
    exact pq_gp hp hf w _) (by simp) (by simp; omega)
  generalize hfs : ((List.range' 0 M).map fun (j : Nat) => (pn ps w (10 + 3 * (j : Int)), pd ps p w (10 + 3 * (j : Int)))) = fs at *
  generalize hgs : ((List.range' 0 M).map fun (j : Nat) => (pn ps w (30 + 3 * (j : Int)), pd ps p w (30 + 3 * (j : Int)))) = gs at *
  have hfl : fs.length = M := by rw [← hfs]; simp
  have N := m_no_inverse (x := nm p a0 a1) hf r8
  have R' : den__law_rows [.int p, .lst (fs.map tq), .lst (gs.map tq), .tup [.int b0, .int b1]] = .ok (.bl true) := R
  have q := fun (c0 c1 c2 c3 c5 c6 c7 c8 c9 c10 c11 c12 c14 c15 c16 : Option D) => (lp_pow (f := (a0, a1)) ba0 ba1 (K := K) (by omega) c0 c1 c2 c3 c5 c6 c7 c8 c9 c10 c11 c12 c14 c15 c16).choose_spec
  unfold bPw tq at q
  obtain ⟨bz, nz, hbz⟩ := ne_zero rb' r8
  have m1 := B1 ba0 bb1
  have m2 := B1 bb0 ba1
  have m3 := B1 ba1 bb1
  have m4 := B1 ba0 bb0
  have m5 := B1 ba1 bb0
  have i55 := ix (i := 55) (by decide) (by decide)
  have i0 := ix (i := 0) (by decide) (by decide)
  have i57 := ix (i := 57) (by decide) (by decide)
  have i58 := ix (i := 58) (by decide) (by decide)
  have i56 := ix (i := 56) (by decide) (by decide)
  have i7 := ix (i := 7) (by decide) (by decide)
  have i8 := ix (i := 8) (by decide) (by decide)
  have i9 := ix (i := 9) (by decide) (by decide)
  have f9 := m_law_fields (gp ps 9 % 20 - 5)
  have fL := m_law_fields L
  have fL2 := m_law_fields (-L)
  have hpow : ∀ δ : DEnv, δ[1]? = some (some (.lst (ps.map D.int))) → b2 modD (b2 idxD (nmD 1) (cD (.int 7))) (DL.ifV (toB (b2 eqD (b2 modD (b2 idxD (nmD 1) (cD (.int 56))) (cD (.int 4))) (cD (.int 0)))) (cD (.int 41)) (cD (.int 10))) δ = .ok (.int (K : Int)) := by
    intro δ hδ
    by_cases h56 : gp ps 56 % 4 = 0
    · rw [if_pos h56] at hKe
      simp [hδ, i56, i7, o_modp, h56, hKe]
    · rw [if_neg h56] at hKe
      simp [hδ, i56, i7, o_modp, h56, hKe]
  rw [den_law]
  apply run_rt
  unfold body_law
  simp only [e_start, List.map_cons, List.map_nil, List.length_cons, List.length_nil, List.cons_append, List.nil_append, List.replicate]
  refine seq_nx (by simp [e1]; rfl) ?_
  refine seq_nx (by simp [i0, o_modp, e2]; rfl) ?_
  refine seq_nx (by simp [i55, i57, i58, o_modp, pw57, o_mul, mL, hw, hL]; rfl) ?_
  refine seq_nx (by simp [pa, pb]; rfl) ?_
  refine seq_nx (by rw [e_set, hpow _ rfl]; rfl) ?_
  refine seq_nx (by simp [nx, ny]; rfl) ?_
  refine seq_nx (by simp [cf, i9, o_modp, f9, k1]; rfl) ?_
  refine seq_nx (by simp [fL, fL2, k2]; rfl) ?_
  refine seq_nx (by simp [forD, n1, l1, s1, n2, l2, s2]; rfl) ?_
  refine seq_nx (by simp [o_mul, m1, m2, m3, l3]; rfl) ?_
  refine seq_nx (by simp [o_mul, m1, m2, m3, l4]; rfl) ?_
  refine seq_nx (by simp [n3, s3, n4, s4]; rfl) ?_
  refine seq_nx (by simp [n5, l5, s5]; rfl) ?_
  refine seq_nx (by simp [o_mul, m4, m3, n6, l6, s6]; rfl) ?_
  refine seq_nx (by simp; rfl) ?_
  refine seq_nx (by simp [rK]; exact q _ _ _ _ _ _ _ _ _ _ _ _ _ _ _) ?_
  refine seq_nx (by simp [n7, l7, s7]; rfl) ?_
  refine seq_nx (by simp [l8]; rfl) ?_
  have fin : ∀ c4 c5 c6 c7 c17 : Option D, (seqF (setF 9 (lcD [7] (rng1 (consA (b2 modD (b2 idxD (nmD 1) (cD (.int 8))) (cD (.int 7))) (nilA))) (putD 7) (yesB) (callF den__law_pair (consA (nmD 1) (consA (b2 addD (cD (.int 10)) (b2 mulD (cD (.int 3)) (nmD 7))) (consA (nmD 2) (consA (nmD 11) (nilA)))))))) (seqF (setF 10 (lcD [7] (rng1 (consA (callF lenD (consA (nmD 9) (nilA))) (nilA))) (putD 7) (yesB) (callF den__law_pair (consA (nmD 1) (consA (b2 addD (cD (.int 30)) (b2 mulD (cD (.int 3)) (nmD 7))) (consA (nmD 2) (consA (nmD 11) (nilA)))))))) (retF (andV (callF den__law_no_inverse (consA (nmD 2) (consA (nmD 8) (consA (nmD 15) (nilA))))) (callF den__law_rows (consA (nmD 2) (consA (nmD 9) (consA (nmD 10) (consA (nmD 14) (nilA)))))))))) [some (.scr (ns.map D.int)), some (.lst (ps.map D.int)), some (.int p), some (.int (K : Int)), c4, c5, c6, c7, some z8, none, none, some (.bl w), some (.int L), some (.tup [.int a0, .int a1]), some (.tup [.int b0, .int b1]), some (nm p a0 a1), some (nm p b0 b1), c17] = .rt (.bl true) := by
    intro c4 c5 c6 c7 c17
    refine seq_nx (by simp [i8, o_modp, hMe, rM, w1]; rfl) ?_
    refine seq_nx (by simp [hfl, rM, w2]; rfl) ?_
    simp [N, R']
  have i2 : ∀ n : Int, (n = a0 ∨ n = L) → ¬ Z0 p b0 → ∃ z, den_ratio_of [.int p, .int n, .int b0] = .ok z ∧ den__law_number [.int p, .int n, .int b0] = .ok z ∧ den__law_same [.int p, z, z] = .ok (.bl true) := by
    intro n hn h0
    have bn : Bz 2000 n := by
      rcases hn with rfl | rfl
      · exact ba0.mono (by decide)
      · exact bL
    obtain ⟨z, e, r⟩ := m_ratio_of hf h0 bn (bb0.mono (by decide))
    exact ⟨z, e, m_law_number r (bn.mono (by decide)) (bb0.mono (by decide)), m_law_same r⟩
  cases bz with
  | false => exact seq_nx (by simp [nz]; exact ⟨rfl, rfl, rfl, rfl, rfl⟩) (fin _ _ _ _ _)
  | true =>
    have h0 : ¬ Z0 p b0 := hbz.mp rfl
    obtain ⟨z9, n9, r9⟩ := m_invert rb' h0 (bb0.mono (by decide)) (bb1.mono (by decide))
    have l9 := m_law_number r9 (bb1.mono (by decide)) (bb0.mono (by decide))
    have s9 := m_law_same r9
    obtain ⟨z10, n10, r10⟩ := m_divide ra' rb' h0 (ba0.mono (by decide)) (ba1.mono (by decide)) (bb0.mono (by decide)) (bb1.mono (by decide))
    have l10 := m_law_number r10 ((ba0.mul bb1).mono (by decide)) ((ba1.mul bb0).mono (by decide))
    have s10 := m_law_same r10
    obtain ⟨z11, n11, l11, s11⟩ := i2 a0 (.inl rfl) h0
    obtain ⟨z12, n12, l12, s12⟩ := i2 L (.inr rfl) h0
    exact seq_nx (by simp [nz, n9, l9, s9, o_mul, m1, m5, n10, l10, s10, forD, n11, l11, s11, n12, l12, s12]; exact ⟨rfl, rfl, rfl, rfl, rfl⟩) (fin _ _ _ _ _)
end DL

set_option maxRecDepth 100001
set_option maxHeartbeats 4000001
namespace DL
open PySem PySem.Spec PyProof.Rows L2

/-! ### the end -/
def spLaw (K : PySem.W.Frag) : Sp := fun vs H Q _ => ∃ (a : Addr) (ns : List Int), vs = [.ref a] ∧ SqL K H a (ns.map V.int) ∧ ns.length ≤ 63 ∧ ∀ H', Q (.bl true) H'
theorem exI {K : PySem.W.Frag} {C : Addr} (h1 : PySem.W.findIn K (.ref C) "__getattribute__" = some (some (.builtin "BaseException.__getattribute__"))) (h2 : PySem.W.findIn K (.ref C) "__getattr__" = some none) (h3 : PySem.W.subIn K (.ref C) (.type "BaseException") = some true) (h4 : PySem.W.hasDictIn K C = true)
    (h5 : PySem.W.findIn K (.ref C) "__class__" = some (some (.builtin "object.__class__"))) (h6 : PySem.W.specialIn K (.builtin "object.__class__") "__get__" = some (some (.builtin "getset_descriptor.__get__"))) (h7 : PySem.W.takesIn K (.builtin "object.__class__") = some true) (h8 : PySem.W.mroIn K C (.type "object") = some true) : ExcC K C := ⟨h1, h2, h3, h4, h5, h6, h7, h8⟩

theorem all_mk (hden : ∀ ns : List Int, ns.length ≤ 63 → den_law [.scr (ns.map D.int)] = .ok (.bl true)) {l : PySem.W.OpenLaw} {w : World} {K : PySem.W.Frag} {h : Heap} {mg : PySem.Str → Option Value} {fa f0 f1 f2 f3 f4 f5 f6 f7 f8 f9 f10 f11 f12 f13 f14 f15 f16 f17 f18 f19 f20 f21 f22 f23 f24 f25 e0 e1 e2 e3 q0 : Addr} (X : K.In h) (G : h.Ns mainGlobals mg) (hfa : mg (PySem.Str.ofString "law") = some (.ref fa))
    {od0 an0 od1 an1 od2 an2 od3 an3 od4 an4 od5 an5 od6 an6 od7 an7 od8 an8 od9 an9 od10 an10 od11 an11 od12 an12 od13 an13 od14 an14 od15 an15 od16 an16 od17 an17 od18 an18 od19 an19 od20 an20 od21 an21 od22 an22 od23 an23 od24 an24 od25 an25 : Option Addr} {sl0 sl1 sl2 sl3 sl4 sl5 sl6 sl7 sl8 sl9 sl10 sl11 sl12 sl13 sl14 sl15 sl16 sl17 sl18 sl19 sl20 sl21 sl22 sl23 sl24 sl25 : Array (Option Value)} {oc0 kV0 dc0 pm0 cd0 ct0 oc1 kV1 dc1 pm1 cd1 ct1 oc2 kV2 dc2 pm2 cd2 ct2 oc3 kV3 dc3 pm3 cd3 ct3 oc4 kV4 dc4 pm4 cd4 ct4 oc5 kV5 dc5 pm5 cd5 ct5 oc6 kV6 dc6 pm6 cd6 ct6 oc7 kV7 dc7 pm7 cd7 ct7 oc8 kV8 dc8 pm8 cd8 ct8 oc9 kV9 dc9 pm9 cd9 ct9 oc10 kV10 dc10 pm10 cd10 ct10 oc11 kV11 dc11 pm11 cd11 ct11 oc12 kV12 dc12 pm12 cd12 ct12 oc13 kV13 dc13 pm13 cd13 ct13 oc14 kV14 dc14 pm14 cd14 ct14 oc15 kV15 dc15 pm15 cd15 ct15 oc16 kV16 dc16 pm16 cd16 ct16 oc17 kV17 dc17 pm17 cd17 ct17 oc18 kV18 dc18 pm18 cd18 ct18 oc19 kV19 dc19 pm19 cd19 ct19 oc20 kV20 dc20 pm20 cd20 ct20 oc21 kV21 dc21 pm21 cd21 ct21 oc22 kV22 dc22 pm22 cd22 ct22 oc23 kV23 dc23 pm23 cd23 ct23 oc24 kV24 dc24 pm24 cd24 ct24 oc25 kV25 dc25 pm25 cd25 ct25 : Value} {qd0 : Option Addr} {qs0 : Array Value} {qn0 : Nat} {qo0 : Array (Option Value)} {qt0_0 qt0_1 qt0_2 qt0_3 qt0_4 : Tok}
    (a0 : PySem.W.nsIn K mainGlobals (PySem.Str.ofString "check_field") = some (some (.ref f0)))
    (l0 : K.lookup f0 = some ⟨oc0, od0, .func (PySem.W.fnOf (PySem.Str.ofString "check_field") (PySem.Str.ofString "check_field") (defArgs s_check_field) (defBody s_check_field) (defScope s_check_field) .none kV0 dc0 pm0 an0 cd0 ct0), sl0⟩)
    (c0 : PySem.W.codeIn K cd0 (PySem.Str.ofString "check_field") = true)
    (k0 : PySem.W.keepIn K (.ref f0) = true)
    (a1 : PySem.W.nsIn K mainGlobals (PySem.Str.ofString "lowest") = some (some (.ref f1)))
    (l1 : K.lookup f1 = some ⟨oc1, od1, .func (PySem.W.fnOf (PySem.Str.ofString "lowest") (PySem.Str.ofString "lowest") (defArgs s_lowest) (defBody s_lowest) (defScope s_lowest) .none kV1 dc1 pm1 an1 cd1 ct1), sl1⟩)
    (c1 : PySem.W.codeIn K cd1 (PySem.Str.ofString "lowest") = true)
    (k1 : PySem.W.keepIn K (.ref f1) = true)
    (a2 : PySem.W.nsIn K mainGlobals (PySem.Str.ofString "is_integer") = some (some (.ref f2)))
    (l2 : K.lookup f2 = some ⟨oc2, od2, .func (PySem.W.fnOf (PySem.Str.ofString "is_integer") (PySem.Str.ofString "is_integer") (defArgs s_is_integer) (defBody s_is_integer) (defScope s_is_integer) .none kV2 dc2 pm2 an2 cd2 ct2), sl2⟩)
    (c2 : PySem.W.codeIn K cd2 (PySem.Str.ofString "is_integer") = true)
    (k2 : PySem.W.keepIn K (.ref f2) = true)
    (a3 : PySem.W.nsIn K mainGlobals (PySem.Str.ofString "is_number") = some (some (.ref f3)))
    (l3 : K.lookup f3 = some ⟨oc3, od3, .func (PySem.W.fnOf (PySem.Str.ofString "is_number") (PySem.Str.ofString "is_number") (defArgs s_is_number) (defBody s_is_number) (defScope s_is_number) .none kV3 dc3 pm3 an3 cd3 ct3), sl3⟩)
    (c3 : PySem.W.codeIn K cd3 (PySem.Str.ofString "is_number") = true)
    (k3 : PySem.W.keepIn K (.ref f3) = true)
    (a4 : PySem.W.nsIn K mainGlobals (PySem.Str.ofString "number_of") = some (some (.ref f4)))
    (l4 : K.lookup f4 = some ⟨oc4, od4, .func (PySem.W.fnOf (PySem.Str.ofString "number_of") (PySem.Str.ofString "number_of") (defArgs s_number_of) (defBody s_number_of) (defScope s_number_of) .none kV4 dc4 pm4 an4 cd4 ct4), sl4⟩)
    (c4 : PySem.W.codeIn K cd4 (PySem.Str.ofString "number_of") = true)
    (k4 : PySem.W.keepIn K (.ref f4) = true)
    (a5 : PySem.W.nsIn K mainGlobals (PySem.Str.ofString "add") = some (some (.ref f5)))
    (l5 : K.lookup f5 = some ⟨oc5, od5, .func (PySem.W.fnOf (PySem.Str.ofString "add") (PySem.Str.ofString "add") (defArgs s_add) (defBody s_add) (defScope s_add) .none kV5 dc5 pm5 an5 cd5 ct5), sl5⟩)
    (c5 : PySem.W.codeIn K cd5 (PySem.Str.ofString "add") = true)
    (k5 : PySem.W.keepIn K (.ref f5) = true)
    (a6 : PySem.W.nsIn K mainGlobals (PySem.Str.ofString "negate") = some (some (.ref f6)))
    (l6 : K.lookup f6 = some ⟨oc6, od6, .func (PySem.W.fnOf (PySem.Str.ofString "negate") (PySem.Str.ofString "negate") (defArgs s_negate) (defBody s_negate) (defScope s_negate) .none kV6 dc6 pm6 an6 cd6 ct6), sl6⟩)
    (c6 : PySem.W.codeIn K cd6 (PySem.Str.ofString "negate") = true)
    (k6 : PySem.W.keepIn K (.ref f6) = true)
    (a7 : PySem.W.nsIn K mainGlobals (PySem.Str.ofString "subtract") = some (some (.ref f7)))
    (l7 : K.lookup f7 = some ⟨oc7, od7, .func (PySem.W.fnOf (PySem.Str.ofString "subtract") (PySem.Str.ofString "subtract") (defArgs s_subtract) (defBody s_subtract) (defScope s_subtract) .none kV7 dc7 pm7 an7 cd7 ct7), sl7⟩)
    (c7 : PySem.W.codeIn K cd7 (PySem.Str.ofString "subtract") = true)
    (k7 : PySem.W.keepIn K (.ref f7) = true)
    (a8 : PySem.W.nsIn K mainGlobals (PySem.Str.ofString "multiply") = some (some (.ref f8)))
    (l8 : K.lookup f8 = some ⟨oc8, od8, .func (PySem.W.fnOf (PySem.Str.ofString "multiply") (PySem.Str.ofString "multiply") (defArgs s_multiply) (defBody s_multiply) (defScope s_multiply) .none kV8 dc8 pm8 an8 cd8 ct8), sl8⟩)
    (c8 : PySem.W.codeIn K cd8 (PySem.Str.ofString "multiply") = true)
    (k8 : PySem.W.keepIn K (.ref f8) = true)
    (a9 : PySem.W.nsIn K mainGlobals (PySem.Str.ofString "invert") = some (some (.ref f9)))
    (l9 : K.lookup f9 = some ⟨oc9, od9, .func (PySem.W.fnOf (PySem.Str.ofString "invert") (PySem.Str.ofString "invert") (defArgs s_invert) (defBody s_invert) (defScope s_invert) .none kV9 dc9 pm9 an9 cd9 ct9), sl9⟩)
    (c9 : PySem.W.codeIn K cd9 (PySem.Str.ofString "invert") = true)
    (k9 : PySem.W.keepIn K (.ref f9) = true)
    (a10 : PySem.W.nsIn K mainGlobals (PySem.Str.ofString "divide") = some (some (.ref f10)))
    (l10 : K.lookup f10 = some ⟨oc10, od10, .func (PySem.W.fnOf (PySem.Str.ofString "divide") (PySem.Str.ofString "divide") (defArgs s_divide) (defBody s_divide) (defScope s_divide) .none kV10 dc10 pm10 an10 cd10 ct10), sl10⟩)
    (c10 : PySem.W.codeIn K cd10 (PySem.Str.ofString "divide") = true)
    (k10 : PySem.W.keepIn K (.ref f10) = true)
    (a11 : PySem.W.nsIn K mainGlobals (PySem.Str.ofString "ratio_of") = some (some (.ref f11)))
    (l11 : K.lookup f11 = some ⟨oc11, od11, .func (PySem.W.fnOf (PySem.Str.ofString "ratio_of") (PySem.Str.ofString "ratio_of") (defArgs s_ratio_of) (defBody s_ratio_of) (defScope s_ratio_of) .none kV11 dc11 pm11 an11 cd11 ct11), sl11⟩)
    (c11 : PySem.W.codeIn K cd11 (PySem.Str.ofString "ratio_of") = true)
    (k11 : PySem.W.keepIn K (.ref f11) = true)
    (a12 : PySem.W.nsIn K mainGlobals (PySem.Str.ofString "raise_to") = some (some (.ref f12)))
    (l12 : K.lookup f12 = some ⟨oc12, od12, .func (PySem.W.fnOf (PySem.Str.ofString "raise_to") (PySem.Str.ofString "raise_to") (defArgs s_raise_to) (defBody s_raise_to) (defScope s_raise_to) .none kV12 dc12 pm12 an12 cd12 ct12), sl12⟩)
    (c12 : PySem.W.codeIn K cd12 (PySem.Str.ofString "raise_to") = true)
    (k12 : PySem.W.keepIn K (.ref f12) = true)
    (a13 : PySem.W.nsIn K mainGlobals (PySem.Str.ofString "shifted") = some (some (.ref f13)))
    (l13 : K.lookup f13 = some ⟨oc13, od13, .func (PySem.W.fnOf (PySem.Str.ofString "shifted") (PySem.Str.ofString "shifted") (defArgs s_shifted) (defBody s_shifted) (defScope s_shifted) .none kV13 dc13 pm13 an13 cd13 ct13), sl13⟩)
    (c13 : PySem.W.codeIn K cd13 (PySem.Str.ofString "shifted") = true)
    (k13 : PySem.W.keepIn K (.ref f13) = true)
    (a14 : PySem.W.nsIn K mainGlobals (PySem.Str.ofString "dot") = some (some (.ref f14)))
    (l14 : K.lookup f14 = some ⟨oc14, od14, .func (PySem.W.fnOf (PySem.Str.ofString "dot") (PySem.Str.ofString "dot") (defArgs s_dot) (defBody s_dot) (defScope s_dot) .none kV14 dc14 pm14 an14 cd14 ct14), sl14⟩)
    (c14 : PySem.W.codeIn K cd14 (PySem.Str.ofString "dot") = true)
    (k14 : PySem.W.keepIn K (.ref f14) = true)
    (a15 : PySem.W.nsIn K mainGlobals (PySem.Str.ofString "_law_pool") = some (some (.ref f15)))
    (l15 : K.lookup f15 = some ⟨oc15, od15, .func (PySem.W.fnOf (PySem.Str.ofString "_law_pool") (PySem.Str.ofString "_law_pool") (defArgs s__law_pool) (defBody s__law_pool) (defScope s__law_pool) .none kV15 dc15 pm15 an15 cd15 ct15), sl15⟩)
    (c15 : PySem.W.codeIn K cd15 (PySem.Str.ofString "_law_pool") = true)
    (k15 : PySem.W.keepIn K (.ref f15) = true)
    (a16 : PySem.W.nsIn K mainGlobals (PySem.Str.ofString "_law_common") = some (some (.ref f16)))
    (l16 : K.lookup f16 = some ⟨oc16, od16, .func (PySem.W.fnOf (PySem.Str.ofString "_law_common") (PySem.Str.ofString "_law_common") (defArgs s__law_common) (defBody s__law_common) (defScope s__law_common) .none kV16 dc16 pm16 an16 cd16 ct16), sl16⟩)
    (c16 : PySem.W.codeIn K cd16 (PySem.Str.ofString "_law_common") = true)
    (k16 : PySem.W.keepIn K (.ref f16) = true)
    (a17 : PySem.W.nsIn K mainGlobals (PySem.Str.ofString "_law_lowest") = some (some (.ref f17)))
    (l17 : K.lookup f17 = some ⟨oc17, od17, .func (PySem.W.fnOf (PySem.Str.ofString "_law_lowest") (PySem.Str.ofString "_law_lowest") (defArgs s__law_lowest) (defBody s__law_lowest) (defScope s__law_lowest) .none kV17 dc17 pm17 an17 cd17 ct17), sl17⟩)
    (c17 : PySem.W.codeIn K cd17 (PySem.Str.ofString "_law_lowest") = true)
    (k17 : PySem.W.keepIn K (.ref f17) = true)
    (a18 : PySem.W.nsIn K mainGlobals (PySem.Str.ofString "_law_number") = some (some (.ref f18)))
    (l18 : K.lookup f18 = some ⟨oc18, od18, .func (PySem.W.fnOf (PySem.Str.ofString "_law_number") (PySem.Str.ofString "_law_number") (defArgs s__law_number) (defBody s__law_number) (defScope s__law_number) .none kV18 dc18 pm18 an18 cd18 ct18), sl18⟩)
    (c18 : PySem.W.codeIn K cd18 (PySem.Str.ofString "_law_number") = true)
    (k18 : PySem.W.keepIn K (.ref f18) = true)
    (a19 : PySem.W.nsIn K mainGlobals (PySem.Str.ofString "_law_same") = some (some (.ref f19)))
    (l19 : K.lookup f19 = some ⟨oc19, od19, .func (PySem.W.fnOf (PySem.Str.ofString "_law_same") (PySem.Str.ofString "_law_same") (defArgs s__law_same) (defBody s__law_same) (defScope s__law_same) .none kV19 dc19 pm19 an19 cd19 ct19), sl19⟩)
    (c19 : PySem.W.codeIn K cd19 (PySem.Str.ofString "_law_same") = true)
    (k19 : PySem.W.keepIn K (.ref f19) = true)
    (a20 : PySem.W.nsIn K mainGlobals (PySem.Str.ofString "_law_pair") = some (some (.ref f20)))
    (l20 : K.lookup f20 = some ⟨oc20, od20, .func (PySem.W.fnOf (PySem.Str.ofString "_law_pair") (PySem.Str.ofString "_law_pair") (defArgs s__law_pair) (defBody s__law_pair) (defScope s__law_pair) .none kV20 dc20 pm20 an20 cd20 ct20), sl20⟩)
    (c20 : PySem.W.codeIn K cd20 (PySem.Str.ofString "_law_pair") = true)
    (k20 : PySem.W.keepIn K (.ref f20) = true)
    (a21 : PySem.W.nsIn K mainGlobals (PySem.Str.ofString "_law_no_inverse") = some (some (.ref f21)))
    (l21 : K.lookup f21 = some ⟨oc21, od21, .func (PySem.W.fnOf (PySem.Str.ofString "_law_no_inverse") (PySem.Str.ofString "_law_no_inverse") (defArgs s__law_no_inverse) (defBody s__law_no_inverse) (defScope s__law_no_inverse) .none kV21 dc21 pm21 an21 cd21 ct21), sl21⟩)
    (c21 : PySem.W.codeIn K cd21 (PySem.Str.ofString "_law_no_inverse") = true)
    (k21 : PySem.W.keepIn K (.ref f21) = true)
    (a22 : PySem.W.nsIn K mainGlobals (PySem.Str.ofString "_law_rows") = some (some (.ref f22)))
    (l22 : K.lookup f22 = some ⟨oc22, od22, .func (PySem.W.fnOf (PySem.Str.ofString "_law_rows") (PySem.Str.ofString "_law_rows") (defArgs s__law_rows) (defBody s__law_rows) (defScope s__law_rows) .none kV22 dc22 pm22 an22 cd22 ct22), sl22⟩)
    (c22 : PySem.W.codeIn K cd22 (PySem.Str.ofString "_law_rows") = true)
    (k22 : PySem.W.keepIn K (.ref f22) = true)
    (a23 : PySem.W.nsIn K mainGlobals (PySem.Str.ofString "_law_fields") = some (some (.ref f23)))
    (l23 : K.lookup f23 = some ⟨oc23, od23, .func (PySem.W.fnOf (PySem.Str.ofString "_law_fields") (PySem.Str.ofString "_law_fields") (defArgs s__law_fields) (defBody s__law_fields) (defScope s__law_fields) .none kV23 dc23 pm23 an23 cd23 ct23), sl23⟩)
    (c23 : PySem.W.codeIn K cd23 (PySem.Str.ofString "_law_fields") = true)
    (k23 : PySem.W.keepIn K (.ref f23) = true)
    (a24 : PySem.W.nsIn K mainGlobals (PySem.Str.ofString "_law_kinds") = some (some (.ref f24)))
    (l24 : K.lookup f24 = some ⟨oc24, od24, .func (PySem.W.fnOf (PySem.Str.ofString "_law_kinds") (PySem.Str.ofString "_law_kinds") (defArgs s__law_kinds) (defBody s__law_kinds) (defScope s__law_kinds) .none kV24 dc24 pm24 an24 cd24 ct24), sl24⟩)
    (c24 : PySem.W.codeIn K cd24 (PySem.Str.ofString "_law_kinds") = true)
    (k24 : PySem.W.keepIn K (.ref f24) = true)
    (a25 : PySem.W.nsIn K mainGlobals (PySem.Str.ofString "law") = some (some (.ref f25)))
    (l25 : K.lookup f25 = some ⟨oc25, od25, .func (PySem.W.fnOf (PySem.Str.ofString "law") (PySem.Str.ofString "law") (defArgs s_law) (defBody s_law) (defScope s_law) .none kV25 dc25 pm25 an25 cd25 ct25), sl25⟩)
    (c25 : PySem.W.codeIn K cd25 (PySem.Str.ofString "law") = true)
    (k25 : PySem.W.keepIn K (.ref f25) = true)
    (ea0 : PySem.W.nsIn K mainGlobals (PySem.Str.ofString "GridError") = some (some (.ref e0)))
    (ex0 : PySem.W.excIn K e0 [.type "ValueError", .type "Exception", .type "BaseException", .type "object"] "ValueError.__new__" = true)
    (ek0 : PySem.W.keepIn K (.ref e0) = true)
    (eb0 : PySem.W.subIn K (.ref e0) (.type "BaseException") = some true)
    (et0 : PySem.W.typeIn K (.ref e0) = some (.type "type"))
    (eh0 : PySem.W.hasDictIn K e0 = true)
    (eg0 : PySem.W.findIn K (.ref e0) "__getattribute__" = some (some (.builtin "BaseException.__getattribute__")))
    (er0 : PySem.W.findIn K (.ref e0) "__getattr__" = some none)
    (ec0 : PySem.W.findIn K (.ref e0) "__class__" = some (some (.builtin "object.__class__")))
    (em0 : PySem.W.mroIn K e0 (.type "object") = some true)
    (ea1 : PySem.W.nsIn K mainGlobals (PySem.Str.ofString "InvalidField") = some (some (.ref e1)))
    (ex1 : PySem.W.excIn K e1 [.type "ValueError", .type "Exception", .type "BaseException", .type "object"] "ValueError.__new__" = true)
    (ek1 : PySem.W.keepIn K (.ref e1) = true)
    (eb1 : PySem.W.subIn K (.ref e1) (.type "BaseException") = some true)
    (et1 : PySem.W.typeIn K (.ref e1) = some (.type "type"))
    (eh1 : PySem.W.hasDictIn K e1 = true)
    (eg1 : PySem.W.findIn K (.ref e1) "__getattribute__" = some (some (.builtin "BaseException.__getattribute__")))
    (er1 : PySem.W.findIn K (.ref e1) "__getattr__" = some none)
    (ec1 : PySem.W.findIn K (.ref e1) "__class__" = some (some (.builtin "object.__class__")))
    (em1 : PySem.W.mroIn K e1 (.type "object") = some true)
    (ea2 : PySem.W.nsIn K mainGlobals (PySem.Str.ofString "InvalidNumber") = some (some (.ref e2)))
    (ex2 : PySem.W.excIn K e2 [.type "ValueError", .type "Exception", .type "BaseException", .type "object"] "ValueError.__new__" = true)
    (ek2 : PySem.W.keepIn K (.ref e2) = true)
    (eb2 : PySem.W.subIn K (.ref e2) (.type "BaseException") = some true)
    (et2 : PySem.W.typeIn K (.ref e2) = some (.type "type"))
    (eh2 : PySem.W.hasDictIn K e2 = true)
    (eg2 : PySem.W.findIn K (.ref e2) "__getattribute__" = some (some (.builtin "BaseException.__getattribute__")))
    (er2 : PySem.W.findIn K (.ref e2) "__getattr__" = some none)
    (ec2 : PySem.W.findIn K (.ref e2) "__class__" = some (some (.builtin "object.__class__")))
    (em2 : PySem.W.mroIn K e2 (.type "object") = some true)
    (ea3 : PySem.W.nsIn K mainGlobals (PySem.Str.ofString "NoInverse") = some (some (.ref e3)))
    (ex3 : PySem.W.excIn K e3 [.type "ValueError", .type "Exception", .type "BaseException", .type "object"] "ValueError.__new__" = true)
    (ek3 : PySem.W.keepIn K (.ref e3) = true)
    (eb3 : PySem.W.subIn K (.ref e3) (.type "BaseException") = some true)
    (et3 : PySem.W.typeIn K (.ref e3) = some (.type "type"))
    (eh3 : PySem.W.hasDictIn K e3 = true)
    (eg3 : PySem.W.findIn K (.ref e3) "__getattribute__" = some (some (.builtin "BaseException.__getattribute__")))
    (er3 : PySem.W.findIn K (.ref e3) "__getattr__" = some none)
    (ec3 : PySem.W.findIn K (.ref e3) "__class__" = some (some (.builtin "object.__class__")))
    (em3 : PySem.W.mroIn K e3 (.type "object") = some true)
    (esp : PySem.W.specialIn K (.builtin "object.__class__") "__get__" = some (some (.builtin "getset_descriptor.__get__")))
    (etk : PySem.W.takesIn K (.builtin "object.__class__") = some true)
    (xm_InvalidField_InvalidField : PySem.W.exmOne K (.ref e1) (.ref e1) = some true)
    (xm_NoInverse_GridError : PySem.W.exmOne K (.ref e3) (.ref e0) = some true)
    (xm_NoInverse_NoInverse : PySem.W.exmOne K (.ref e3) (.ref e3) = some true)
    (kt_InvalidField_GridError : PySem.W.kitOne K (.ref e1) (.ref e0) = some true)
    (kt_InvalidField_ValueError : PySem.W.kitOne K (.ref e1) (.type "ValueError") = some true)
    (kt_NoInverse_NoInverse : PySem.W.kitOne K (.ref e3) (.ref e3) = some true)
    (kt_NoInverse_ValueError : PySem.W.kitOne K (.ref e3) (.type "ValueError") = some true)
    (ka_InvalidField_NoInverse_InvalidNumber : PySem.W.kitAny K (.ref e1) [(.ref e3), (.ref e2)] = some false)
    (ka_NoInverse_InvalidField_InvalidNumber : PySem.W.kitAny K (.ref e3) [(.ref e1), (.ref e2)] = some false)
    (z0 : PySem.W.nsIn K mainGlobals (PySem.Str.ofString "ValueError") = some none)
    (z1 : PySem.W.nsIn K mainGlobals (PySem.Str.ofString "abs") = some none)
    (z2 : PySem.W.nsIn K mainGlobals (PySem.Str.ofString "bool") = some none)
    (z3 : PySem.W.nsIn K mainGlobals (PySem.Str.ofString "int") = some none)
    (z4 : PySem.W.nsIn K mainGlobals (PySem.Str.ofString "isinstance") = some none)
    (z5 : PySem.W.nsIn K mainGlobals (PySem.Str.ofString "len") = some none)
    (z6 : PySem.W.nsIn K mainGlobals (PySem.Str.ofString "list") = some none)
    (z7 : PySem.W.nsIn K mainGlobals (PySem.Str.ofString "range") = some none)
    (z8 : PySem.W.nsIn K mainGlobals (PySem.Str.ofString "sum") = some none)
    (z9 : PySem.W.nsIn K mainGlobals (PySem.Str.ofString "tuple") = some none)
    (z10 : PySem.W.nsIn K mainGlobals (PySem.Str.ofString "zip") = some none)
    (g_gcd : PySem.W.nsIn K mainGlobals (PySem.Str.ofString "gcd") = some (some (.builtin "math.gcd")))
    (qa0 : PySem.W.nsIn K mainGlobals (PySem.Str.ofString "PRIMES") = some (some (.ref q0)))
    (ql0 : K.lookup q0 = some ⟨.type "tuple", qd0, .seq qs0 qn0, qo0⟩)
    (qv0 : qs0.toList = [.int 2 qt0_0, .int 3 qt0_1, .int 5 qt0_2, .int 7 qt0_3, .int 11 qt0_4])
    : ∃ fd : FuncData, (∀ (s : Shared) (v : Value), BindsTo s fd ⟨[v], []⟩ [("script", v)]) ∧ ∀ base : Heap, K.In base → base.Ns mainGlobals mg → FnOk l.prog w K mg base (L2.CX l.prog w) 6 fa fd ["script"] (spLaw K) := by
  have e := hfa.symm.trans (PySem.W.mg_of X G a25)
  cases e
  have F0 := fun_mk (st := s_check_field) l0 c0 k0
  have F1 := fun_mk (st := s_lowest) l1 c1 k1
  have F2 := fun_mk (st := s_is_integer) l2 c2 k2
  have F3 := fun_mk (st := s_is_number) l3 c3 k3
  have F4 := fun_mk (st := s_number_of) l4 c4 k4
  have F5 := fun_mk (st := s_add) l5 c5 k5
  have F6 := fun_mk (st := s_negate) l6 c6 k6
  have F7 := fun_mk (st := s_subtract) l7 c7 k7
  have F8 := fun_mk (st := s_multiply) l8 c8 k8
  have F9 := fun_mk (st := s_invert) l9 c9 k9
  have F10 := fun_mk (st := s_divide) l10 c10 k10
  have F11 := fun_mk (st := s_ratio_of) l11 c11 k11
  have F12 := fun_mk (st := s_raise_to) l12 c12 k12
  have F13 := fun_mk (st := s_shifted) l13 c13 k13
  have F14 := fun_mk (st := s_dot) l14 c14 k14
  have F15 := fun_mk (st := s__law_pool) l15 c15 k15
  have F16 := fun_mk (st := s__law_common) l16 c16 k16
  have F17 := fun_mk (st := s__law_lowest) l17 c17 k17
  have F18 := fun_mk (st := s__law_number) l18 c18 k18
  have F19 := fun_mk (st := s__law_same) l19 c19 k19
  have F20 := fun_mk (st := s__law_pair) l20 c20 k20
  have F21 := fun_mk (st := s__law_no_inverse) l21 c21 k21
  have F22 := fun_mk (st := s__law_rows) l22 c22 k22
  have F23 := fun_mk (st := s__law_fields) l23 c23 k23
  have F24 := fun_mk (st := s__law_kinds) l24 c24 k24
  have F25 := fun_mk (st := s_law) l25 c25 k25
  have b0 := F0.binds (ps := ["prime"]) fun _ _ _ _ _ _ us hl => match us, hl with | [_], _ => rfl
  have b1 := F1.binds (ps := ["n", "d"]) fun _ _ _ _ _ _ us hl => match us, hl with | [_, _], _ => rfl
  have b2 := F2.binds (ps := ["value"]) fun _ _ _ _ _ _ us hl => match us, hl with | [_], _ => rfl
  have b3 := F3.binds (ps := ["prime", "value"]) fun _ _ _ _ _ _ us hl => match us, hl with | [_, _], _ => rfl
  have b4 := F4.binds (ps := ["prime", "n"]) fun _ _ _ _ _ _ us hl => match us, hl with | [_, _], _ => rfl
  have b5 := F5.binds (ps := ["prime", "a", "b"]) fun _ _ _ _ _ _ us hl => match us, hl with | [_, _, _], _ => rfl
  have b6 := F6.binds (ps := ["prime", "a"]) fun _ _ _ _ _ _ us hl => match us, hl with | [_, _], _ => rfl
  have b7 := F7.binds (ps := ["prime", "a", "b"]) fun _ _ _ _ _ _ us hl => match us, hl with | [_, _, _], _ => rfl
  have b8 := F8.binds (ps := ["prime", "a", "b"]) fun _ _ _ _ _ _ us hl => match us, hl with | [_, _, _], _ => rfl
  have b9 := F9.binds (ps := ["prime", "a"]) fun _ _ _ _ _ _ us hl => match us, hl with | [_, _], _ => rfl
  have b10 := F10.binds (ps := ["prime", "a", "b"]) fun _ _ _ _ _ _ us hl => match us, hl with | [_, _, _], _ => rfl
  have b11 := F11.binds (ps := ["prime", "n", "d"]) fun _ _ _ _ _ _ us hl => match us, hl with | [_, _, _], _ => rfl
  have b12 := F12.binds (ps := ["prime", "a", "power"]) fun _ _ _ _ _ _ us hl => match us, hl with | [_, _, _], _ => rfl
  have b13 := F13.binds (ps := ["prime", "row", "factor", "other"]) fun _ _ _ _ _ _ us hl => match us, hl with | [_, _, _, _], _ => rfl
  have b14 := F14.binds (ps := ["prime", "row", "other"]) fun _ _ _ _ _ _ us hl => match us, hl with | [_, _, _], _ => rfl
  have b15 := F15.binds (ps := ["script", "count"]) fun _ _ _ _ _ _ us hl => match us, hl with | [_, _], _ => rfl
  have b16 := F16.binds (ps := ["a", "b"]) fun _ _ _ _ _ _ us hl => match us, hl with | [_, _], _ => rfl
  have b17 := F17.binds (ps := ["n", "d"]) fun _ _ _ _ _ _ us hl => match us, hl with | [_, _], _ => rfl
  have b18 := F18.binds (ps := ["prime", "n", "d"]) fun _ _ _ _ _ _ us hl => match us, hl with | [_, _, _], _ => rfl
  have b19 := F19.binds (ps := ["prime", "actual", "due"]) fun _ _ _ _ _ _ us hl => match us, hl with | [_, _, _], _ => rfl
  have b20 := F20.binds (ps := ["pool", "at", "prime", "wide"]) fun _ _ _ _ _ _ us hl => match us, hl with | [_, _, _, _], _ => rfl
  have b21 := F21.binds (ps := ["prime", "zero", "number"]) fun _ _ _ _ _ _ us hl => match us, hl with | [_, _, _], _ => rfl
  have b22 := F22.binds (ps := ["prime", "firsts", "seconds", "factor"]) fun _ _ _ _ _ _ us hl => match us, hl with | [_, _, _, _], _ => rfl
  have b23 := F23.binds (ps := ["n"]) fun _ _ _ _ _ _ us hl => match us, hl with | [_], _ => rfl
  have b24 := F24.binds (ps := ["prime", "number", "n"]) fun _ _ _ _ _ _ us hl => match us, hl with | [_, _, _], _ => rfl
  refine ⟨PySem.W.fnOf (PySem.Str.ofString "law") (PySem.Str.ofString "law") (defArgs s_law) (defBody s_law) (defScope s_law) .none kV25 dc25 pm25 an25 cd25 ct25, fun s v => .of_eq rfl, fun base _ _ => ?_⟩
  let GG : Cfg := { P := l.prog, w := w, K := K, mg := mg, base := base, cv := fun c => if c = "GridError" then .ref e0 else if c = "InvalidField" then .ref e1 else if c = "InvalidNumber" then .ref e2 else if c = "NoInverse" then .ref e3 else .none, xi := fun _ => True }
  have hc_GridError : GG.cv "GridError" = .ref e0 := by simp [GG]
  have ha_GridError : ca GG "GridError" = e0 := by unfold ca; rw [hc_GridError]
  have hc_InvalidField : GG.cv "InvalidField" = .ref e1 := by simp [GG]
  have ha_InvalidField : ca GG "InvalidField" = e1 := by unfold ca; rw [hc_InvalidField]
  have hc_InvalidNumber : GG.cv "InvalidNumber" = .ref e2 := by simp [GG]
  have ha_InvalidNumber : ca GG "InvalidNumber" = e2 := by unfold ca; rw [hc_InvalidNumber]
  have hc_NoInverse : GG.cv "NoInverse" = .ref e3 := by simp [GG]
  have ha_NoInverse : ca GG "NoInverse" = e3 := by unfold ca; rw [hc_NoInverse]
  have hm_PRIMES : mg (PySem.Str.ofString "PRIMES") = some (.ref q0) := PySem.W.mg_of X G qa0
  have hk_PRIMES : ka GG (PySem.Str.ofString "PRIMES") = q0 := by unfold ka; rw [show GG.mg (PySem.Str.ofString "PRIMES") = some (.ref q0) from hm_PRIMES]
  have T : Tp GG := {
    xi := fun _ => trivial
    b_ValueError := PySem.W.mg_none_of X G z0
    b_abs := PySem.W.mg_none_of X G z1
    b_bool := PySem.W.mg_none_of X G z2
    b_int := PySem.W.mg_none_of X G z3
    b_isinstance := PySem.W.mg_none_of X G z4
    b_len := PySem.W.mg_none_of X G z5
    b_list := PySem.W.mg_none_of X G z6
    b_range := PySem.W.mg_none_of X G z7
    b_sum := PySem.W.mg_none_of X G z8
    b_tuple := PySem.W.mg_none_of X G z9
    b_zip := PySem.W.mg_none_of X G z10
    g_gcd := PySem.W.mg_of X G g_gcd
    km_PRIMES := by rw [hk_PRIMES]; exact hm_PRIMES
    kr_PRIMES := by rw [hk_PRIMES]; exact rep_ktup (ns := [2, 3, 5, 7, 11]) ql0 rfl rfl (by have e := congrArg List.length qv0; rw [Array.length_toList] at e; rw [e]; exact (by decide : 5 ≤ sizeLine)) (by rw [qv0]; exact vals_ints (by repeat constructor))
    e_GridError := by rw [ha_GridError]; exact ⟨PySem.W.mg_of X G ea0, hc_GridError, ex0, ek0, eb0, et0, eh0, exI eg0 er0 eb0 eh0 ec0 esp etk em0⟩
    e_InvalidField := by rw [ha_InvalidField]; exact ⟨PySem.W.mg_of X G ea1, hc_InvalidField, ex1, ek1, eb1, et1, eh1, exI eg1 er1 eb1 eh1 ec1 esp etk em1⟩
    e_InvalidNumber := by rw [ha_InvalidNumber]; exact ⟨PySem.W.mg_of X G ea2, hc_InvalidNumber, ex2, ek2, eb2, et2, eh2, exI eg2 er2 eb2 eh2 ec2 esp etk em2⟩
    e_NoInverse := by rw [ha_NoInverse]; exact ⟨PySem.W.mg_of X G ea3, hc_NoInverse, ex3, ek3, eb3, et3, eh3, exI eg3 er3 eb3 eh3 ec3 esp etk em3⟩
    x_InvalidField_InvalidField := by rw [ha_InvalidField]; exact xm_InvalidField_InvalidField
    x_NoInverse_GridError := by rw [ha_GridError, ha_NoInverse]; exact xm_NoInverse_GridError
    x_NoInverse_NoInverse := by rw [ha_NoInverse]; exact xm_NoInverse_NoInverse
    k1_InvalidField_GridError := by rw [hc_InvalidField, ha_GridError]; exact kt_InvalidField_GridError
    k1_InvalidField_ValueError := by rw [hc_InvalidField]; exact kt_InvalidField_ValueError
    k1_NoInverse_NoInverse := by rw [hc_NoInverse, ha_NoInverse]; exact kt_NoInverse_NoInverse
    k1_NoInverse_ValueError := by rw [hc_NoInverse]; exact kt_NoInverse_ValueError
    k2_InvalidField_NoInverse_InvalidNumber := by rw [hc_InvalidField, ha_NoInverse, ha_InvalidNumber]; exact ka_InvalidField_NoInverse_InvalidNumber
    k2_NoInverse_InvalidField_InvalidNumber := by rw [hc_NoInverse, ha_InvalidField, ha_InvalidNumber]; exact ka_NoInverse_InvalidField_InvalidNumber
  }
  have D0 : FnD GG 1 (PySem.Str.ofString "check_field") 1 false den_check_field := fnd_mk (G := GG) F0 (PySem.W.mg_of X G a0) b0 (ok_check_field (G := GG) T  F0)
  have D1 : FnD GG 1 (PySem.Str.ofString "lowest") 2 false den_lowest := fnd_mk (G := GG) F1 (PySem.W.mg_of X G a1) b1 (ok_lowest (G := GG) T  F1)
  have D2 : FnD GG 1 (PySem.Str.ofString "is_integer") 1 false den_is_integer := fnd_mk (G := GG) F2 (PySem.W.mg_of X G a2) b2 (ok_is_integer (G := GG) T  F2)
  have D3 : FnD GG 2 (PySem.Str.ofString "is_number") 2 false den_is_number := fnd_mk (G := GG) F3 (PySem.W.mg_of X G a3) b3 (ok_is_number (G := GG) T D2 F3)
  have D4 : FnD GG 1 (PySem.Str.ofString "number_of") 2 false den_number_of := fnd_mk (G := GG) F4 (PySem.W.mg_of X G a4) b4 (ok_number_of (G := GG) T  F4)
  have D5 : FnD GG 2 (PySem.Str.ofString "add") 3 false den_add := fnd_mk (G := GG) F5 (PySem.W.mg_of X G a5) b5 (ok_add (G := GG) T D1 F5)
  have D6 : FnD GG 1 (PySem.Str.ofString "negate") 2 false den_negate := fnd_mk (G := GG) F6 (PySem.W.mg_of X G a6) b6 (ok_negate (G := GG) T  F6)
  have D7 : FnD GG 3 (PySem.Str.ofString "subtract") 3 false den_subtract := fnd_mk (G := GG) F7 (PySem.W.mg_of X G a7) b7 (ok_subtract (G := GG) T D5 D6 F7)
  have D8 : FnD GG 2 (PySem.Str.ofString "multiply") 3 false den_multiply := fnd_mk (G := GG) F8 (PySem.W.mg_of X G a8) b8 (ok_multiply (G := GG) T D1 F8)
  have D9 : FnD GG 2 (PySem.Str.ofString "invert") 2 false den_invert := fnd_mk (G := GG) F9 (PySem.W.mg_of X G a9) b9 (ok_invert (G := GG) T D1 D4 F9)
  have D10 : FnD GG 3 (PySem.Str.ofString "divide") 3 false den_divide := fnd_mk (G := GG) F10 (PySem.W.mg_of X G a10) b10 (ok_divide (G := GG) T D8 D9 F10)
  have D11 : FnD GG 4 (PySem.Str.ofString "ratio_of") 3 false den_ratio_of := fnd_mk (G := GG) F11 (PySem.W.mg_of X G a11) b11 (ok_ratio_of (G := GG) T D4 D10 F11)
  have D12 : FnD GG 3 (PySem.Str.ofString "raise_to") 3 false den_raise_to := fnd_mk (G := GG) F12 (PySem.W.mg_of X G a12) b12 (ok_raise_to (G := GG) T D4 D8 F12)
  have D13 : FnD GG 3 (PySem.Str.ofString "shifted") 4 false den_shifted := fnd_mk (G := GG) F13 (PySem.W.mg_of X G a13) b13 (ok_shifted (G := GG) T D5 D8 F13)
  have D14 : FnD GG 3 (PySem.Str.ofString "dot") 3 false den_dot := fnd_mk (G := GG) F14 (PySem.W.mg_of X G a14) b14 (ok_dot (G := GG) T D4 D5 D8 F14)
  have D15 : FnD GG 1 (PySem.Str.ofString "_law_pool") 2 false den__law_pool := fnd_mk (G := GG) F15 (PySem.W.mg_of X G a15) b15 (ok__law_pool (G := GG) T  F15)
  have D16 : FnD GG 1 (PySem.Str.ofString "_law_common") 2 false den__law_common := fnd_mk (G := GG) F16 (PySem.W.mg_of X G a16) b16 (ok__law_common (G := GG) T  F16)
  have D17 : FnD GG 2 (PySem.Str.ofString "_law_lowest") 2 false den__law_lowest := fnd_mk (G := GG) F17 (PySem.W.mg_of X G a17) b17 (ok__law_lowest (G := GG) T D16 F17)
  have D18 : FnD GG 3 (PySem.Str.ofString "_law_number") 3 false den__law_number := fnd_mk (G := GG) F18 (PySem.W.mg_of X G a18) b18 (ok__law_number (G := GG) T D17 F18)
  have D19 : FnD GG 1 (PySem.Str.ofString "_law_same") 3 false den__law_same := fnd_mk (G := GG) F19 (PySem.W.mg_of X G a19) b19 (ok__law_same (G := GG) T  F19)
  have D20 : FnD GG 1 (PySem.Str.ofString "_law_pair") 4 false den__law_pair := fnd_mk (G := GG) F20 (PySem.W.mg_of X G a20) b20 (ok__law_pair (G := GG) T  F20)
  have D21 : FnD GG 5 (PySem.Str.ofString "_law_no_inverse") 3 false den__law_no_inverse := fnd_mk (G := GG) F21 (PySem.W.mg_of X G a21) b21 (ok__law_no_inverse (G := GG) T D9 D10 D11 F21)
  have D22 : FnD GG 4 (PySem.Str.ofString "_law_rows") 4 false den__law_rows := fnd_mk (G := GG) F22 (PySem.W.mg_of X G a22) b22 (ok__law_rows (G := GG) T D13 D14 D18 D19 F22)
  have D23 : FnD GG 2 (PySem.Str.ofString "_law_fields") 1 false den__law_fields := fnd_mk (G := GG) F23 (PySem.W.mg_of X G a23) b23 (ok__law_fields (G := GG) T D0 F23)
  have D24 : FnD GG 3 (PySem.Str.ofString "_law_kinds") 3 false den__law_kinds := fnd_mk (G := GG) F24 (PySem.W.mg_of X G a24) b24 (ok__law_kinds (G := GG) T D3 F24)
  refine (ok_law (G := GG) T D0 D4 D5 D6 D7 D8 D9 D10 D11 D12 D15 D18 D19 D20 D21 D22 D23 D24 F25).imp fun vs H Q E q => ?_
  obtain ⟨a, ns, rfl, hS, hl, q⟩ := q
  obtain ⟨Z, ds, h1, h2, h3, h4, h5, h6⟩ := law_sp (G := GG) hS (hden ns hl)
  exact ⟨Z, ds, h1, h2, h3, fun d v H' x y z => by
    have e := h4 d v H' x y z
    subst e
    exact q H', fun x H' y z => (h5 x H' y z).elim, h6⟩
end DL

set_option maxRecDepth 100001
namespace DL
end DL
open PySem PySem.W PyProof.Rows

set_option maxHeartbeats 0 in
theorem PySem.Challenge.cw_weighedgrids_k00_numbers_of_a_field_holds : PySem.Challenge.rw_weighedgrids_k00_numbers_of_a_field.Holds := by
  w_on; o_law; k_head; (case hw => w_witness2)
  k_fill
  refine L2.walk_of (l := PySem.Challenge.rw_weighedgrids_k00_numbers_of_a_field) (n := 63) (k := 6) (x := "script") (CX := fun w => L2.CX PySem.Challenge.rw_weighedgrids_k00_numbers_of_a_field.prog w) (sp := fun w => DL.spLaw _) rfl (by decide) rfl ⟨rfl, by decide, by decide⟩ (fun w h Y => PySem.W.kIn_of Y) ?F (fun _ _ a ns hl _ hS => ⟨a, ns, rfl, hS, hl, fun _ => rfl⟩) ?X
  case F =>
    intro w mg fa h KX G hmg
    refine' DL.all_mk DL.den_law_true KX G hmg ?a0 ?l0 ?c0 ?k0 ?a1 ?l1 ?c1 ?k1 ?a2 ?l2 ?c2 ?k2 ?a3 ?l3 ?c3 ?k3 ?a4 ?l4 ?c4 ?k4 ?a5 ?l5 ?c5 ?k5 ?a6 ?l6 ?c6 ?k6 ?a7 ?l7 ?c7 ?k7 ?a8 ?l8 ?c8 ?k8 ?a9 ?l9 ?c9 ?k9 ?a10 ?l10 ?c10 ?k10 ?a11 ?l11 ?c11 ?k11 ?a12 ?l12 ?c12 ?k12 ?a13 ?l13 ?c13 ?k13 ?a14 ?l14 ?c14 ?k14 ?a15 ?l15 ?c15 ?k15 ?a16 ?l16 ?c16 ?k16 ?a17 ?l17 ?c17 ?k17 ?a18 ?l18 ?c18 ?k18 ?a19 ?l19 ?c19 ?k19 ?a20 ?l20 ?c20 ?k20 ?a21 ?l21 ?c21 ?k21 ?a22 ?l22 ?c22 ?k22 ?a23 ?l23 ?c23 ?k23 ?a24 ?l24 ?c24 ?k24 ?a25 ?l25 ?c25 ?k25 ?ea0 ?ex0 ?ek0 ?eb0 ?et0 ?eh0 ?eg0 ?er0 ?ec0 ?em0 ?ea1 ?ex1 ?ek1 ?eb1 ?et1 ?eh1 ?eg1 ?er1 ?ec1 ?em1 ?ea2 ?ex2 ?ek2 ?eb2 ?et2 ?eh2 ?eg2 ?er2 ?ec2 ?em2 ?ea3 ?ex3 ?ek3 ?eb3 ?et3 ?eh3 ?eg3 ?er3 ?ec3 ?em3 ?esp ?etk ?xm_InvalidField_InvalidField ?xm_NoInverse_GridError ?xm_NoInverse_NoInverse ?kt_InvalidField_GridError ?kt_InvalidField_ValueError ?kt_NoInverse_NoInverse ?kt_NoInverse_ValueError ?ka_InvalidField_NoInverse_InvalidNumber ?ka_NoInverse_InvalidField_InvalidNumber ?z0 ?z1 ?z2 ?z3 ?z4 ?z5 ?z6 ?z7 ?z8 ?z9 ?z10 ?g_gcd ?qa0 ?ql0 ?qv0
    (case a0 => first | k_is | rfl | decide +kernel)
    (case l0 => first | k_is | rfl | decide +kernel)
    (case c0 => first | k_is | rfl | decide +kernel)
    (case k0 => first | k_is | rfl | decide +kernel)
    (case a1 => first | k_is | rfl | decide +kernel)
    (case l1 => first | k_is | rfl | decide +kernel)
    (case c1 => first | k_is | rfl | decide +kernel)
    (case k1 => first | k_is | rfl | decide +kernel)
    (case a2 => first | k_is | rfl | decide +kernel)
    (case l2 => first | k_is | rfl | decide +kernel)
    (case c2 => first | k_is | rfl | decide +kernel)
    (case k2 => first | k_is | rfl | decide +kernel)
    (case a3 => first | k_is | rfl | decide +kernel)
    (case l3 => first | k_is | rfl | decide +kernel)
    (case c3 => first | k_is | rfl | decide +kernel)
    (case k3 => first | k_is | rfl | decide +kernel)
    (case a4 => first | k_is | rfl | decide +kernel)
    (case l4 => first | k_is | rfl | decide +kernel)
    (case c4 => first | k_is | rfl | decide +kernel)
    (case k4 => first | k_is | rfl | decide +kernel)
    (case a5 => first | k_is | rfl | decide +kernel)
    (case l5 => first | k_is | rfl | decide +kernel)
    (case c5 => first | k_is | rfl | decide +kernel)
    (case k5 => first | k_is | rfl | decide +kernel)
    (case a6 => first | k_is | rfl | decide +kernel)
    (case l6 => first | k_is | rfl | decide +kernel)
    (case c6 => first | k_is | rfl | decide +kernel)
    (case k6 => first | k_is | rfl | decide +kernel)
    (case a7 => first | k_is | rfl | decide +kernel)
    (case l7 => first | k_is | rfl | decide +kernel)
    (case c7 => first | k_is | rfl | decide +kernel)
    (case k7 => first | k_is | rfl | decide +kernel)
    (case a8 => first | k_is | rfl | decide +kernel)
    (case l8 => first | k_is | rfl | decide +kernel)
    (case c8 => first | k_is | rfl | decide +kernel)
    (case k8 => first | k_is | rfl | decide +kernel)
    (case a9 => first | k_is | rfl | decide +kernel)
    (case l9 => first | k_is | rfl | decide +kernel)
    (case c9 => first | k_is | rfl | decide +kernel)
    (case k9 => first | k_is | rfl | decide +kernel)
    (case a10 => first | k_is | rfl | decide +kernel)
    (case l10 => first | k_is | rfl | decide +kernel)
    (case c10 => first | k_is | rfl | decide +kernel)
    (case k10 => first | k_is | rfl | decide +kernel)
    (case a11 => first | k_is | rfl | decide +kernel)
    (case l11 => first | k_is | rfl | decide +kernel)
    (case c11 => first | k_is | rfl | decide +kernel)
    (case k11 => first | k_is | rfl | decide +kernel)
    (case a12 => first | k_is | rfl | decide +kernel)
    (case l12 => first | k_is | rfl | decide +kernel)
    (case c12 => first | k_is | rfl | decide +kernel)
    (case k12 => first | k_is | rfl | decide +kernel)
    (case a13 => first | k_is | rfl | decide +kernel)
    (case l13 => first | k_is | rfl | decide +kernel)
    (case c13 => first | k_is | rfl | decide +kernel)
    (case k13 => first | k_is | rfl | decide +kernel)
    (case a14 => first | k_is | rfl | decide +kernel)
    (case l14 => first | k_is | rfl | decide +kernel)
    (case c14 => first | k_is | rfl | decide +kernel)
    (case k14 => first | k_is | rfl | decide +kernel)
    (case a15 => first | k_is | rfl | decide +kernel)
    (case l15 => first | k_is | rfl | decide +kernel)
    (case c15 => first | k_is | rfl | decide +kernel)
    (case k15 => first | k_is | rfl | decide +kernel)
    (case a16 => first | k_is | rfl | decide +kernel)
    (case l16 => first | k_is | rfl | decide +kernel)
    (case c16 => first | k_is | rfl | decide +kernel)
    (case k16 => first | k_is | rfl | decide +kernel)
    (case a17 => first | k_is | rfl | decide +kernel)
    (case l17 => first | k_is | rfl | decide +kernel)
    (case c17 => first | k_is | rfl | decide +kernel)
    (case k17 => first | k_is | rfl | decide +kernel)
    (case a18 => first | k_is | rfl | decide +kernel)
    (case l18 => first | k_is | rfl | decide +kernel)
    (case c18 => first | k_is | rfl | decide +kernel)
    (case k18 => first | k_is | rfl | decide +kernel)
    (case a19 => first | k_is | rfl | decide +kernel)
    (case l19 => first | k_is | rfl | decide +kernel)
    (case c19 => first | k_is | rfl | decide +kernel)
    (case k19 => first | k_is | rfl | decide +kernel)
    (case a20 => first | k_is | rfl | decide +kernel)
    (case l20 => first | k_is | rfl | decide +kernel)
    (case c20 => first | k_is | rfl | decide +kernel)
    (case k20 => first | k_is | rfl | decide +kernel)
    (case a21 => first | k_is | rfl | decide +kernel)
    (case l21 => first | k_is | rfl | decide +kernel)
    (case c21 => first | k_is | rfl | decide +kernel)
    (case k21 => first | k_is | rfl | decide +kernel)
    (case a22 => first | k_is | rfl | decide +kernel)
    (case l22 => first | k_is | rfl | decide +kernel)
    (case c22 => first | k_is | rfl | decide +kernel)
    (case k22 => first | k_is | rfl | decide +kernel)
    (case a23 => first | k_is | rfl | decide +kernel)
    (case l23 => first | k_is | rfl | decide +kernel)
    (case c23 => first | k_is | rfl | decide +kernel)
    (case k23 => first | k_is | rfl | decide +kernel)
    (case a24 => first | k_is | rfl | decide +kernel)
    (case l24 => first | k_is | rfl | decide +kernel)
    (case c24 => first | k_is | rfl | decide +kernel)
    (case k24 => first | k_is | rfl | decide +kernel)
    (case a25 => first | k_is | rfl | decide +kernel)
    (case l25 => first | k_is | rfl | decide +kernel)
    (case c25 => first | k_is | rfl | decide +kernel)
    (case k25 => first | k_is | rfl | decide +kernel)
    (case ea0 => first | k_is | rfl | decide +kernel)
    (case ex0 => k_exc)
    (case ek0 => first | k_is | rfl | decide +kernel)
    (case eb0 => first | k_is | rfl | decide +kernel)
    (case et0 => first | k_is | rfl | decide +kernel)
    (case eh0 => first | k_is | rfl | decide +kernel)
    (case eg0 => first | k_is | rfl | decide +kernel)
    (case er0 => first | k_is | rfl | decide +kernel)
    (case ec0 => first | k_is | rfl | decide +kernel)
    (case em0 => first | k_is | rfl | decide +kernel)
    (case ea1 => first | k_is | rfl | decide +kernel)
    (case ex1 => k_exc)
    (case ek1 => first | k_is | rfl | decide +kernel)
    (case eb1 => first | k_is | rfl | decide +kernel)
    (case et1 => first | k_is | rfl | decide +kernel)
    (case eh1 => first | k_is | rfl | decide +kernel)
    (case eg1 => first | k_is | rfl | decide +kernel)
    (case er1 => first | k_is | rfl | decide +kernel)
    (case ec1 => first | k_is | rfl | decide +kernel)
    (case em1 => first | k_is | rfl | decide +kernel)
    (case ea2 => first | k_is | rfl | decide +kernel)
    (case ex2 => k_exc)
    (case ek2 => first | k_is | rfl | decide +kernel)
    (case eb2 => first | k_is | rfl | decide +kernel)
    (case et2 => first | k_is | rfl | decide +kernel)
    (case eh2 => first | k_is | rfl | decide +kernel)
    (case eg2 => first | k_is | rfl | decide +kernel)
    (case er2 => first | k_is | rfl | decide +kernel)
    (case ec2 => first | k_is | rfl | decide +kernel)
    (case em2 => first | k_is | rfl | decide +kernel)
    (case ea3 => first | k_is | rfl | decide +kernel)
    (case ex3 => k_exc)
    (case ek3 => first | k_is | rfl | decide +kernel)
    (case eb3 => first | k_is | rfl | decide +kernel)
    (case et3 => first | k_is | rfl | decide +kernel)
    (case eh3 => first | k_is | rfl | decide +kernel)
    (case eg3 => first | k_is | rfl | decide +kernel)
    (case er3 => first | k_is | rfl | decide +kernel)
    (case ec3 => first | k_is | rfl | decide +kernel)
    (case em3 => first | k_is | rfl | decide +kernel)
    (case esp => first | k_is | rfl | decide +kernel)
    (case etk => first | k_is | rfl | decide +kernel)
    (case xm_InvalidField_InvalidField => first | k_is | rfl | decide +kernel)
    (case xm_NoInverse_GridError => first | k_is | rfl | decide +kernel)
    (case xm_NoInverse_NoInverse => first | k_is | rfl | decide +kernel)
    (case kt_InvalidField_GridError => first | k_is | rfl | decide +kernel)
    (case kt_InvalidField_ValueError => first | k_is | rfl | decide +kernel)
    (case kt_NoInverse_NoInverse => first | k_is | rfl | decide +kernel)
    (case kt_NoInverse_ValueError => first | k_is | rfl | decide +kernel)
    (case ka_InvalidField_NoInverse_InvalidNumber => first | k_is | rfl | decide +kernel)
    (case ka_NoInverse_InvalidField_InvalidNumber => first | k_is | rfl | decide +kernel)
    (case z0 => first | k_is | rfl | decide +kernel)
    (case z1 => first | k_is | rfl | decide +kernel)
    (case z2 => first | k_is | rfl | decide +kernel)
    (case z3 => first | k_is | rfl | decide +kernel)
    (case z4 => first | k_is | rfl | decide +kernel)
    (case z5 => first | k_is | rfl | decide +kernel)
    (case z6 => first | k_is | rfl | decide +kernel)
    (case z7 => first | k_is | rfl | decide +kernel)
    (case z8 => first | k_is | rfl | decide +kernel)
    (case z9 => first | k_is | rfl | decide +kernel)
    (case z10 => first | k_is | rfl | decide +kernel)
    (case g_gcd => first | k_is | rfl | decide +kernel)
    (case qa0 => first | k_is | rfl | decide +kernel)
    (case ql0 => first | k_is | rfl | decide +kernel)
    (case qv0 => first | k_is | rfl | decide +kernel)
  case X =>
    intro w H s e s' h
    obtain ⟨_, _, _, _, _, _, _, _, _, _, _, _, z⟩ := h
    exact z

