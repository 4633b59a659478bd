import PyProof.Rows.All
import HandS.ForMost
import HandS.Walk
import HandS.Gcd
import HandS.IsInst
import HandS.Wide
import HandS.Deep
import HandS.Zip
import HandS.ForExc
import HandS.TryOnly
import HandS.TryMany
import HandS.ExcIs
import HandS.CallSlots
import HandS.TupAny
import HandS.Style
import HandS.TupLe
import HandS.Flow
import HandS.Text
import HandS.StrMore
import HandS.FStr
import HandS.Codes
import PySem.Challenge.RW_weighedgrids_k04_numbers_written_and_rea
import Wide.All
import OpenK.AllK
import Wide.FinOn
import PyProof.EqAt
import PyProof.EqKinds
import PyProof.TupleCall
import Open.SpecLaws
import KE.OsGo
set_option Elab.async false
set_option autoImplicit false
set_option linter.all false
set_option maxRecDepth 100001
set_option maxHeartbeats 1000001
namespace DL
open PySem PySem.Spec PyProof.Rows L2

/-! ### data -/
/-- nst, ndc: a list, a dict whose parts may be owned with it -/
inductive D where
  | non | bl (b : Bool) | int (i : Int) | str (x : PySem.Str) | tup (ds : List D) | lst (ds : List D) | scr (ds : List D) | nst (ds : List D)
  | dic (ks : List D) (ds : List D) | ndc (ks : List D) (ds : List D) | obj (C : Addr) (ns : List PySem.Str) (ds : List D)

mutual
def toPy : D → PyData
  | .non => .none
  | .bl b => .bool b
  | .int i => .int i
  | .str x => .str x
  | .tup ds => .tuple (toPyL ds)
  | .lst ds => .list (toPyL ds)
  | .scr ds => .list (toPyL ds)
  | .nst ds => .list (toPyL ds)
  | .dic _ _ => .none
  | .ndc _ _ => .none
  | .obj _ _ _ => .none
def toPyL : List D → List PyData
  | [] => []
  | d :: ds => toPy d :: toPyL ds
end
mutual
/-- nothing but data: no dict, no instance -/
def plain : D → Bool
  | .tup ds => plainL ds
  | .lst ds => plainL ds
  | .scr ds => plainL ds
  | .nst ds => plainL ds
  | .dic _ _ => false
  | .ndc _ _ => false
  | .obj _ _ _ => false
  | .non => true
  | .bl _ => true
  | .int _ => true
  | .str _ => true
def plainL : List D → Bool
  | [] => true
  | d :: ds => plain d && plainL ds
end
mutual
def imm : D → Bool
  | .tup ds => immL ds
  | .lst _ => false
  | .scr _ => false
  | .nst _ => false
  | .dic _ _ => false
  | .ndc _ _ => false
  | .obj _ _ _ => false
  | .non => true
  | .bl _ => true
  | .int _ => true
  | .str _ => true
def immL : List D → Bool
  | [] => true
  | d :: ds => imm d && immL ds
end
/-- a key of a dict -/
def keyD : Key → D
  | .inl i => .int i
  | .inr x => .str x
def tkeyD (l : List Key) : D := .tup (l.map keyD)
/-- a heap object is a dict of these keys and values -/
def DicO (o : HO) (ks : List D) (vs : List V) : Prop := (∃ kk : List Key, kk.length = vs.length ∧ ks = kk.map keyD ∧ o = .dK (kk.zip vs)) ∨ ∃ kk : List (List Key), kk.length = vs.length ∧ ks = kk.map tkeyD ∧ o = .dT (kk.zip vs)
theorem DicO.mut {o : HO} {ks : List D} {vs : List V} (h : DicO o ks vs) : Mut (some o) := by
  rcases h with ⟨_, _, _, rfl⟩ | ⟨_, _, _, rfl⟩ <;> exact True.intro
theorem DicO.len {o : HO} {ks : List D} {vs : List V} (h : DicO o ks vs) : ks.length = vs.length := by
  rcases h with ⟨_, h, rfl, _⟩ | ⟨_, h, rfl, _⟩ <;> simp [h]

/-! ### results -/
structure Exn where
  cls : String
inductive R (α : Type) where
  | ok (a : α) | err (x : Exn) | stk
def R.bind {α β : Type} : R α → (α → R β) → R β
  | .ok a, f => f a
  | .err x, _ => .err x
  | .stk, _ => .stk
instance : Monad R where
  pure := R.ok
  bind := R.bind
@[simp] theorem R.bind_ok {α β : Type} (a : α) (f : α → R β) : R.bind (.ok a) f = f a := rfl
@[simp] theorem R.bind_err {α β : Type} (x : Exn) (f : α → R β) : R.bind (.err x) f = .err x := rfl
@[simp] theorem R.bind_stk {α β : Type} (f : α → R β) : R.bind (.stk) f = .stk := rfl

/-! ### what stands in the heap -/
section
variable (K : PySem.W.Frag)
def KTup (a : Addr) (xs : List V) : Prop := ∃ (o : Obj) (its : Array Value) (n : Nat), K.lookup a = some o ∧ o.cls = .type "tuple" ∧ o.data = .seq its n ∧ its.size ≤ sizeLine ∧ Vals xs its.toList
def TupAt (H : Hp) (Z : Addr → Prop) (a : Addr) (xs : List V) : Prop := (Rd H a (.tup xs) ∧ ¬ Z a) ∨ KTup K a xs
def KLst (a : Addr) (xs : List V) : Prop := ∃ (o : Obj) (its : Array Value) (n : Nat), K.lookup a = some o ∧ o.cls = .type "list" ∧ o.dict = none ∧ o.data = .seq its n ∧ its.size ≤ sizeLine ∧ Vals xs its.toList
def LstAt (H : Hp) (Z : Addr → Prop) (a : Addr) (xs : List V) : Prop := (Rd H a (.lst xs) ∧ ¬ Z a) ∨ KLst K a xs
mutual
def Rep (H : Hp) (Z : Addr → Prop) : D → V → Prop
  | .non, v => v = .non
  | .bl b, v => v = .bl b
  | .int i, v => v = .int i
  | .str x, v => v = .str x
  | .tup ds, v => ∃ a vs, v = .ref a ∧ TupAt K H Z a vs ∧ RepL H Z ds vs
  | .lst ds, v => ∃ a vs, v = .ref a ∧ H a = some (.lst vs) ∧ ¬ Z a ∧ RepL H Z ds vs
  | .scr ds, v => ∃ a vs, v = .ref a ∧ LstAt K H Z a vs ∧ RepL H Z ds vs
  | .nst ds, v => ∃ a vs, v = .ref a ∧ H a = some (.lst vs) ∧ ¬ Z a ∧ RepL H Z ds vs
  | .dic ks ds, v => ∃ a vs o, v = .ref a ∧ Rd H a o ∧ DicO o ks vs ∧ ¬ Z a ∧ RepL H Z ds vs
  | .ndc ks ds, v => ∃ a vs o, v = .ref a ∧ Rd H a o ∧ DicO o ks vs ∧ ¬ Z a ∧ RepL H Z ds vs
  | .obj C ns ds, v => ∃ a dx vs, v = .ref a ∧ H a = some (.ins C dx (ns.zip vs)) ∧ ¬ Z a ∧ ns.length = ds.length ∧ RepL H Z ds vs
def RepL (H : Hp) (Z : Addr → Prop) : List D → List V → Prop
  | [], vs => vs = []
  | d :: ds, vs => ∃ v r, vs = v :: r ∧ Rep H Z d v ∧ RepL H Z ds r
end
mutual
/-- a part of an owned object, with the addresses that are owned with it; its other parts avoid Z -/
def Own (H : Hp) (Z : Addr → Prop) : D → V → List Addr → Prop
  | .nst ds, v, φ => ∃ a vs ψ, v = .ref a ∧ φ = a :: ψ ∧ H a = some (.lst vs) ∧ OwnL H Z ds vs ψ
  | .tup ds, v, φ => ∃ a vs, v = .ref a ∧ TupAt K H Z a vs ∧ OwnL H Z ds vs φ
  | .ndc ks ds, v, φ => ∃ a vs o ψ, v = .ref a ∧ φ = a :: ψ ∧ H a = some o ∧ DicO o ks vs ∧ OwnL H Z ds vs ψ
  | .non, v, φ => φ = [] ∧ v = .non
  | .bl b, v, φ => φ = [] ∧ v = .bl b
  | .int i, v, φ => φ = [] ∧ v = .int i
  | .str x, v, φ => φ = [] ∧ v = .str x
  | .lst ds, v, φ => φ = [] ∧ Rep K H Z (.lst ds) v
  | .scr ds, v, φ => φ = [] ∧ Rep K H Z (.scr ds) v
  | .dic ks ds, v, φ => φ = [] ∧ Rep K H Z (.dic ks ds) v
  | .obj C ns ds, v, φ => φ = [] ∧ Rep K H Z (.obj C ns ds) v
def OwnL (H : Hp) (Z : Addr → Prop) : List D → List V → List Addr → Prop
  | [], vs, φ => vs = [] ∧ φ = []
  | d :: ds, vs, φ => ∃ v r ψ χ, vs = v :: r ∧ φ = ψ ++ χ ∧ Own H Z d v ψ ∧ OwnL H Z ds r χ
end
/-- an owned object: its other parts avoid Z, what is owned may be in it -/
def Top (H : Hp) (Z : Addr → Prop) : D → V → List Addr → Prop
  | .lst ds, v, φ => ∃ a vs, v = .ref a ∧ φ = [a] ∧ H a = some (.lst vs) ∧ RepL K H Z ds vs
  | .dic ks ds, v, φ => ∃ a vs o, v = .ref a ∧ φ = [a] ∧ H a = some o ∧ DicO o ks vs ∧ RepL K H Z ds vs
  | .obj C ns ds, v, φ => ∃ a dx vs, v = .ref a ∧ φ = [a] ∧ H a = some (.ins C dx (ns.zip vs)) ∧ ns.length = ds.length ∧ RepL K H Z ds vs
  | .nst ds, v, φ => Own K H Z (.nst ds) v φ
  | .ndc ks ds, v, φ => Own K H Z (.ndc ks ds) v φ
  | .non, v, φ => φ = [] ∧ v = .non
  | .bl b, v, φ => φ = [] ∧ v = .bl b
  | .int i, v, φ => φ = [] ∧ v = .int i
  | .str x, v, φ => φ = [] ∧ v = .str x
  | _, _, _ => False
/-- .. or a tuple with owned parts -/
def TopT (H : Hp) (Z : Addr → Prop) : D → V → List Addr → Prop
  | .tup ds, v, φ => Own K H Z (.tup ds) v φ
  | d, v, φ => Top K H Z d v φ
end

/-- all that stands outside Z stays -/
def Keeps (Z : Addr → Prop) (H H' : Hp) : Prop := ∀ a o, ¬ Z a → H a = some o → H' a = some o
abbrev Ext (H H' : Hp) : Prop := Same H H'
def ZOk (H : Hp) (Z : Addr → Prop) : Prop := ∀ a, Z a → ∃ o, H a = some o ∧ Mut (some o)
theorem Keeps.of {Z : Addr → Prop} {H H' : Hp} (e : Ext H H') : Keeps Z H H' := fun a o _ h => e a o h
theorem Keeps.refl {Z : Addr → Prop} {H : Hp} : Keeps Z H H := fun _ _ _ h => h
theorem Keeps.trans {Z : Addr → Prop} {H H1 H2 : Hp} (x : Keeps Z H H1) (y : Keeps Z H1 H2) : Keeps Z H H2 := fun a o n h => y a o n (x a o n h)
theorem Keeps.mono {Z Z' : Addr → Prop} {H H' : Hp} (k : Keeps Z H H') (h : ∀ a, Z a → Z' a) : Keeps Z' H H' := fun a o n e => k a o (fun z => n (h a z)) e
theorem ext_upd {H : Hp} {p : Addr} {o : HO} (h : H p = none) : Ext H (upd H p o) := fun b x e => by
  rw [upd_ne (ne_of_none e h)]
  exact e
theorem ZOk.ext {H H' : Hp} {Z : Addr → Prop} (z : ZOk H Z) (e : Ext H H') : ZOk H' Z := fun a h => by
  obtain ⟨o, h1, h2⟩ := z a h
  exact ⟨o, e a o h1, h2⟩
theorem ZOk.new {H : Hp} {Z : Addr → Prop} (z : ZOk H Z) {p : Addr} (h : H p = none) : ¬ Z p := fun q => by
  obtain ⟨o, h1, _⟩ := z p q
  rw [h] at h1; cases h1
theorem ZOk.nofrz {H : Hp} {Z : Addr → Prop} (z : ZOk H Z) : ∀ a o u, Z a → H a ≠ some (.frz o u) := fun a o u h e => by
  obtain ⟨x, h1, h2⟩ := z a h
  rw [e] at h1; cases h1; exact h2

section
variable {K : PySem.W.Frag} {H H' : Hp} {Z Z' : Addr → Prop}
/-- what stood outside Z stands outside Z' -/
def Mv (H H' : Hp) (Z Z' : Addr → Prop) : Prop := ∀ a o, H a = some o → ¬ Z a → H' a = some o ∧ ¬ Z' a
theorem Mv.of (k : Keeps Z H H') (z : ∀ b, Z' b → Z b) : Mv H H' Z Z' := fun a o h n => ⟨k a o n h, fun q => n (z a q)⟩
/-- .. clear of what was not there, too -/
theorem Mv.step (hz : ∀ a, Z' a → Z a ∨ H a = none) (k : Keeps Z H H') : Mv H H' Z Z' := fun a o h n => ⟨k a o n h, fun q => by
  rcases hz a q with q | q
  · exact n q
  · rw [q] at h; cases h⟩
theorem TupAt.map {a : Addr} {xs : List V} (m : Mv H H' Z Z') (t : TupAt K H Z a xs) : TupAt K H' Z' a xs := by
  rcases t with ⟨h | ⟨o, h⟩, n⟩ | t
  · exact .inl ⟨.inl (m _ _ h n).1, (m _ _ h n).2⟩
  · exact .inl ⟨.inr ⟨o, (m _ _ h n).1⟩, (m _ _ h n).2⟩
  · exact .inr t
theorem LstAt.map {a : Addr} {xs : List V} (m : Mv H H' Z Z') (t : LstAt K H Z a xs) : LstAt K H' Z' a xs := by
  rcases t with ⟨h | ⟨o, h⟩, n⟩ | t
  · exact .inl ⟨.inl (m _ _ h n).1, (m _ _ h n).2⟩
  · exact .inl ⟨.inr ⟨o, (m _ _ h n).1⟩, (m _ _ h n).2⟩
  · exact .inr t
theorem LstAt.sqL {a : Addr} {xs : List V} (t : LstAt K H Z a xs) : SqL K H a xs := by
  rcases t with ⟨h, _⟩ | t
  · exact .inl h
  · exact .inr t
theorem TupAt.sqT {a : Addr} {xs : List V} (t : TupAt K H Z a xs) : SqT K H a xs := by
  rcases t with ⟨h, _⟩ | t
  · exact .inl h
  · exact .inr t
theorem Rd.map {a : Addr} {o : HO} (m : Mv H H' Z Z') (h : Rd H a o) (n : ¬ Z a) : Rd H' a o ∧ ¬ Z' a := by
  rcases h with h | ⟨ob, h⟩
  · exact ⟨.inl (m _ _ h n).1, (m _ _ h n).2⟩
  · exact ⟨.inr ⟨ob, (m _ _ h n).1⟩, (m _ _ h n).2⟩
mutual
theorem Rep.map (m : Mv H H' Z Z') : ∀ (d : D) (v : V), Rep K H Z d v → Rep K H' Z' d v
  | .non, _, h => h
  | .bl _, _, h => h
  | .int _, _, h => h
  | .str _, _, h => h
  | .tup ds, _, ⟨a, vs, e, t, r⟩ => ⟨a, vs, e, t.map m, RepL.map m ds vs r⟩
  | .lst ds, _, ⟨a, vs, e, t, n, r⟩ => ⟨a, vs, e, (m _ _ t n).1, (m _ _ t n).2, RepL.map m ds vs r⟩
  | .nst ds, _, ⟨a, vs, e, t, n, r⟩ => ⟨a, vs, e, (m _ _ t n).1, (m _ _ t n).2, RepL.map m ds vs r⟩
  | .scr ds, _, ⟨a, vs, e, t, r⟩ => ⟨a, vs, e, t.map m, RepL.map m ds vs r⟩
  | .dic ks ds, _, ⟨a, vs, o, e, t, k, n, r⟩ => ⟨a, vs, o, e, (Rd.map m t n).1, k, (Rd.map m t n).2, RepL.map m ds vs r⟩
  | .ndc ks ds, _, ⟨a, vs, o, e, t, k, n, r⟩ => ⟨a, vs, o, e, (Rd.map m t n).1, k, (Rd.map m t n).2, RepL.map m ds vs r⟩
  | .obj C ns ds, _, ⟨a, dx, vs, e, t, n, l, r⟩ => ⟨a, dx, vs, e, (m _ _ t n).1, (m _ _ t n).2, l, RepL.map m ds vs r⟩
theorem RepL.map (m : Mv H H' Z Z') : ∀ (ds : List D) (vs : List V), RepL K H Z ds vs → RepL K H' Z' ds vs
  | [], _, h => h
  | d :: ds, _, ⟨v, r, e, h1, h2⟩ => ⟨v, r, e, Rep.map m d v h1, RepL.map m ds r h2⟩
end
/-- what is owned stays -/
def Hold (H H' : Hp) (φ : List Addr) : Prop := ∀ a ∈ φ, ∀ o, H a = some o → H' a = some o
theorem Hold.sub {φ ψ : List Addr} (h : Hold H H' φ) (s : ∀ a ∈ ψ, a ∈ φ) : Hold H H' ψ := fun a q => h a (s a q)
mutual
theorem Own.map (m : Mv H H' Z Z') : ∀ (d : D) (v : V) (φ : List Addr), Hold H H' φ → Own K H Z d v φ → Own K H' Z' d v φ
  | .nst ds, _, _, q, ⟨a, vs, ψ, e, p, t, r⟩ => ⟨a, vs, ψ, e, p, q a (by rw [p]; exact List.mem_cons_self) _ t, OwnL.map m ds vs ψ (q.sub fun b hb => by rw [p]; exact List.mem_cons_of_mem _ hb) r⟩
  | .tup ds, _, φ, q, ⟨a, vs, e, t, r⟩ => ⟨a, vs, e, t.map m, OwnL.map m ds vs φ q r⟩
  | .ndc ks ds, _, _, q, ⟨a, vs, o, ψ, e, p, t, k, r⟩ => ⟨a, vs, o, ψ, e, p, q a (by rw [p]; exact List.mem_cons_self) _ t, k, OwnL.map m ds vs ψ (q.sub fun b hb => by rw [p]; exact List.mem_cons_of_mem _ hb) r⟩
  | .non, _, _, _, h => h
  | .bl _, _, _, _, h => h
  | .int _, _, _, _, h => h
  | .str _, _, _, _, h => h
  | .lst ds, _, _, _, h => ⟨h.1, Rep.map m _ _ h.2⟩
  | .scr ds, _, _, _, h => ⟨h.1, Rep.map m _ _ h.2⟩
  | .dic ks ds, _, _, _, h => ⟨h.1, Rep.map m _ _ h.2⟩
  | .obj C ns ds, _, _, _, h => ⟨h.1, Rep.map m _ _ h.2⟩
theorem OwnL.map (m : Mv H H' Z Z') : ∀ (ds : List D) (vs : List V) (φ : List Addr), Hold H H' φ → OwnL K H Z ds vs φ → OwnL K H' Z' ds vs φ
  | [], _, _, _, h => h
  | d :: ds, _, _, q, ⟨v, r, ψ, χ, e, p, h1, h2⟩ => ⟨v, r, ψ, χ, e, p, Own.map m d v ψ (q.sub fun b hb => by rw [p]; exact List.mem_append_left _ hb) h1, OwnL.map m ds r χ (q.sub fun b hb => by rw [p]; exact List.mem_append_right _ hb) h2⟩
end
theorem Top.map (m : Mv H H' Z Z') {d : D} {v : V} {φ : List Addr} (q : Hold H H' φ) (t : Top K H Z d v φ) : Top K H' Z' d v φ := by
  cases d with
  | lst ds => obtain ⟨a, vs, e, rfl, t, r⟩ := t; exact ⟨a, vs, e, rfl, q a List.mem_cons_self _ t, RepL.map m _ _ r⟩
  | dic ks ds => obtain ⟨a, vs, o, e, rfl, t, k, r⟩ := t; exact ⟨a, vs, o, e, rfl, q a List.mem_cons_self _ t, k, RepL.map m _ _ r⟩
  | obj C ns ds => obtain ⟨a, dx, vs, e, rfl, t, l, r⟩ := t; exact ⟨a, dx, vs, e, rfl, q a List.mem_cons_self _ t, l, RepL.map m _ _ r⟩
  | nst ds => exact Own.map m _ _ _ q t
  | ndc ks ds => exact Own.map m _ _ _ q t
  | non => exact t
  | bl _ => exact t
  | int _ => exact t
  | str _ => exact t
  | _ => exact False.elim t
mutual
/-- what is owned may be changed -/
theorem Own.mut : ∀ (d : D) (v : V) (φ : List Addr), Own K H Z d v φ → ∀ a ∈ φ, ∃ o, H a = some o ∧ Mut (some o)
  | .nst ds, _, _, ⟨a, vs, ψ, e, p, t, r⟩, b, hb => by
    rw [p] at hb
    rcases List.mem_cons.mp hb with rfl | hb
    · exact ⟨_, t, True.intro⟩
    · exact OwnL.mut ds vs ψ r b hb
  | .tup ds, _, φ, ⟨a, vs, e, t, r⟩, b, hb => OwnL.mut ds vs φ r b hb
  | .ndc ks ds, _, _, ⟨a, vs, o, ψ, e, p, t, k, r⟩, b, hb => by
    rw [p] at hb
    rcases List.mem_cons.mp hb with rfl | hb
    · exact ⟨_, t, k.mut⟩
    · exact OwnL.mut ds vs ψ r b hb
  | .non, _, _, h, _, hb => by rw [h.1] at hb; exact nomatch hb
  | .bl _, _, _, h, _, hb => by rw [h.1] at hb; exact nomatch hb
  | .int _, _, _, h, _, hb => by rw [h.1] at hb; exact nomatch hb
  | .str _, _, _, h, _, hb => by rw [h.1] at hb; exact nomatch hb
  | .lst _, _, _, h, _, hb => by rw [h.1] at hb; exact nomatch hb
  | .scr _, _, _, h, _, hb => by rw [h.1] at hb; exact nomatch hb
  | .dic _ _, _, _, h, _, hb => by rw [h.1] at hb; exact nomatch hb
  | .obj _ _ _, _, _, h, _, hb => by rw [h.1] at hb; exact nomatch hb
theorem OwnL.mut : ∀ (ds : List D) (vs : List V) (φ : List Addr), OwnL K H Z ds vs φ → ∀ a ∈ φ, ∃ o, H a = some o ∧ Mut (some o)
  | [], _, _, h, _, hb => by rw [h.2] at hb; exact nomatch hb
  | d :: ds, _, _, ⟨v, r, ψ, χ, e, p, h1, h2⟩, b, hb => by
    rw [p] at hb
    rcases List.mem_append.mp hb with hb | hb
    · exact Own.mut d v ψ h1 b hb
    · exact OwnL.mut ds r χ h2 b hb
end
theorem Top.mut {d : D} {v : V} {φ : List Addr} (t : Top K H Z d v φ) : ∀ a ∈ φ, ∃ o, H a = some o ∧ Mut (some o) := by
  intro b hb
  cases d with
  | lst ds => obtain ⟨a, vs, e, rfl, t, r⟩ := t; rcases List.mem_cons.mp hb with rfl | hb; exact ⟨_, t, True.intro⟩; exact nomatch hb
  | dic ks ds => obtain ⟨a, vs, o, e, rfl, t, k, r⟩ := t; rcases List.mem_cons.mp hb with rfl | hb; exact ⟨_, t, k.mut⟩; exact nomatch hb
  | obj C ns ds => obtain ⟨a, dx, vs, e, rfl, t, l, r⟩ := t; rcases List.mem_cons.mp hb with rfl | hb; exact ⟨_, t, True.intro⟩; exact nomatch hb
  | nst ds => exact Own.mut _ _ _ t b hb
  | ndc ks ds => exact Own.mut _ _ _ t b hb
  | non => rw [t.1] at hb; exact nomatch hb
  | bl _ => rw [t.1] at hb; exact nomatch hb
  | int _ => rw [t.1] at hb; exact nomatch hb
  | str _ => rw [t.1] at hb; exact nomatch hb
  | _ => exact False.elim t
mutual
/-- an owned thing, seen without its ownership -/
theorem Own.rep (z : ∀ b, Z' b → Z b) : ∀ (d : D) (v : V) (φ : List Addr), (∀ a ∈ φ, ¬ Z' a) → Own K H Z d v φ → Rep K H Z' d v
  | .nst ds, _, _, q, ⟨a, vs, ψ, e, p, t, r⟩ => ⟨a, vs, e, t, q a (by rw [p]; exact List.mem_cons_self), OwnL.rep z ds vs ψ (fun b hb => q b (by rw [p]; exact List.mem_cons_of_mem _ hb)) r⟩
  | .tup ds, _, φ, q, ⟨a, vs, e, t, r⟩ => ⟨a, vs, e, t.map (.of .refl z), OwnL.rep z ds vs φ q r⟩
  | .ndc ks ds, _, _, q, ⟨a, vs, o, ψ, e, p, t, k, r⟩ => ⟨a, vs, o, e, .inl t, k, q a (by rw [p]; exact List.mem_cons_self), OwnL.rep z ds vs ψ (fun b hb => q b (by rw [p]; exact List.mem_cons_of_mem _ hb)) r⟩
  | .non, _, _, _, h => h.2
  | .bl _, _, _, _, h => h.2
  | .int _, _, _, _, h => h.2
  | .str _, _, _, _, h => h.2
  | .lst ds, _, _, _, h => Rep.map (.of .refl z) _ _ h.2
  | .scr ds, _, _, _, h => Rep.map (.of .refl z) _ _ h.2
  | .dic ks ds, _, _, _, h => Rep.map (.of .refl z) _ _ h.2
  | .obj C ns ds, _, _, _, h => Rep.map (.of .refl z) _ _ h.2
theorem OwnL.rep (z : ∀ b, Z' b → Z b) : ∀ (ds : List D) (vs : List V) (φ : List Addr), (∀ a ∈ φ, ¬ Z' a) → OwnL K H Z ds vs φ → RepL K H Z' ds vs
  | [], _, _, _, h => h.1
  | d :: ds, _, _, q, ⟨v, r, ψ, χ, e, p, h1, h2⟩ => ⟨v, r, e, Own.rep z d v ψ (fun b hb => q b (by rw [p]; exact List.mem_append_left _ hb)) h1, OwnL.rep z ds r χ (fun b hb => q b (by rw [p]; exact List.mem_append_right _ hb)) h2⟩
end
theorem Top.rep {d : D} {v : V} {φ : List Addr} (t : Top K H Z d v φ) (z : ∀ b, Z' b → Z b) (n : ∀ a ∈ φ, ¬ Z' a) : Rep K H Z' d v := by
  cases d with
  | lst ds => obtain ⟨a, vs, e, rfl, t, r⟩ := t; exact ⟨a, vs, e, t, n a List.mem_cons_self, RepL.map (.of .refl z) _ _ r⟩
  | dic ks ds => obtain ⟨a, vs, o, e, rfl, t, k, r⟩ := t; exact ⟨a, vs, o, e, .inl t, k, n a List.mem_cons_self, RepL.map (.of .refl z) _ _ r⟩
  | obj C ns ds => obtain ⟨a, dx, vs, e, rfl, t, l, r⟩ := t; exact ⟨a, dx, vs, e, t, n a List.mem_cons_self, l, RepL.map (.of .refl z) _ _ r⟩
  | nst ds => exact Own.rep z _ _ _ n t
  | ndc ks ds => exact Own.rep z _ _ _ n t
  | non => exact t.2
  | bl _ => exact t.2
  | int _ => exact t.2
  | str _ => exact t.2
  | _ => exact False.elim t
theorem TopT.map (m : Mv H H' Z Z') {d : D} {v : V} {φ : List Addr} (q : Hold H H' φ) (t : TopT K H Z d v φ) : TopT K H' Z' d v φ := by
  cases d with
  | tup ds => exact Own.map m _ _ _ q t
  | non => exact Top.map (K := K) (Z := Z) (v := v) (d := .non) m q t
  | bl _ => exact Top.map (K := K) (Z := Z) (v := v) (d := .bl _) m q t
  | int _ => exact Top.map (K := K) (Z := Z) (v := v) (d := .int _) m q t
  | str _ => exact Top.map (K := K) (Z := Z) (v := v) (d := .str _) m q t
  | lst _ => exact Top.map (K := K) (Z := Z) (v := v) (d := .lst _) m q t
  | scr _ => exact False.elim t
  | nst _ => exact Top.map (K := K) (Z := Z) (v := v) (d := .nst _) m q t
  | dic _ _ => exact Top.map (K := K) (Z := Z) (v := v) (d := .dic _ _) m q t
  | ndc _ _ => exact Top.map (K := K) (Z := Z) (v := v) (d := .ndc _ _) m q t
  | obj _ _ _ => exact Top.map (K := K) (Z := Z) (v := v) (d := .obj _ _ _) m q t
theorem TopT.mut {d : D} {v : V} {φ : List Addr} (t : TopT K H Z d v φ) : ∀ a ∈ φ, ∃ o, H a = some o ∧ Mut (some o) := by
  cases d with
  | tup ds => exact Own.mut _ _ _ t
  | non => exact Top.mut (K := K) (Z := Z) (v := v) (d := .non) t
  | bl _ => exact Top.mut (K := K) (Z := Z) (v := v) (d := .bl _) t
  | int _ => exact Top.mut (K := K) (Z := Z) (v := v) (d := .int _) t
  | str _ => exact Top.mut (K := K) (Z := Z) (v := v) (d := .str _) t
  | lst _ => exact Top.mut (K := K) (Z := Z) (v := v) (d := .lst _) t
  | scr _ => exact False.elim t
  | nst _ => exact Top.mut (K := K) (Z := Z) (v := v) (d := .nst _) t
  | dic _ _ => exact Top.mut (K := K) (Z := Z) (v := v) (d := .dic _ _) t
  | ndc _ _ => exact Top.mut (K := K) (Z := Z) (v := v) (d := .ndc _ _) t
  | obj _ _ _ => exact Top.mut (K := K) (Z := Z) (v := v) (d := .obj _ _ _) t
theorem TopT.rep {d : D} {v : V} {φ : List Addr} (t : TopT K H Z d v φ) (z : ∀ b, Z' b → Z b) (n : ∀ a ∈ φ, ¬ Z' a) : Rep K H Z' d v := by
  cases d with
  | tup ds => exact Own.rep z _ _ _ n t
  | non => exact Top.rep (K := K) (Z := Z) (v := v) (d := .non) t z n
  | bl _ => exact Top.rep (K := K) (Z := Z) (v := v) (d := .bl _) t z n
  | int _ => exact Top.rep (K := K) (Z := Z) (v := v) (d := .int _) t z n
  | str _ => exact Top.rep (K := K) (Z := Z) (v := v) (d := .str _) t z n
  | lst _ => exact Top.rep (K := K) (Z := Z) (v := v) (d := .lst _) t z n
  | scr _ => exact False.elim t
  | nst _ => exact Top.rep (K := K) (Z := Z) (v := v) (d := .nst _) t z n
  | dic _ _ => exact Top.rep (K := K) (Z := Z) (v := v) (d := .dic _ _) t z n
  | ndc _ _ => exact Top.rep (K := K) (Z := Z) (v := v) (d := .ndc _ _) t z n
  | obj _ _ _ => exact Top.rep (K := K) (Z := Z) (v := v) (d := .obj _ _ _) t z n
theorem TopT.of {d : D} {v : V} {φ : List Addr} (t : Top K H Z d v φ) : TopT K H Z d v φ := by
  cases d with
  | tup ds => exact False.elim t
  | _ => exact t
theorem Rep.mono1 (k : Keeps Z H H') (z : ∀ b, Z' b → Z b) (d : D) (v : V) (h : Rep K H Z d v) : Rep K H' Z' d v := Rep.map (.of k z) d v h
theorem RepL.mono1 (k : Keeps Z H H') (z : ∀ b, Z' b → Z b) (ds : List D) (vs : List V) (h : RepL K H Z ds vs) : RepL K H' Z' ds vs := RepL.map (.of k z) ds vs h
theorem Rep.ex (e : Ext H H') {d : D} {v : V} (h : Rep K H Z d v) : Rep K H' Z d v := Rep.map (.of (.of e) fun _ q => q) d v h
theorem RepL.ex (e : Ext H H') {d : List D} {v : List V} (h : RepL K H Z d v) : RepL K H' Z d v := RepL.map (.of (.of e) fun _ q => q) d v h
theorem Rep.ls (z : ∀ b, Z' b → Z b) {d : D} {v : V} (h : Rep K H Z d v) : Rep K H Z' d v := Rep.map (.of .refl z) d v h
theorem RepL.ls (z : ∀ b, Z' b → Z b) {d : List D} {v : List V} (h : RepL K H Z d v) : RepL K H Z' d v := RepL.map (.of .refl z) d v h
/-- clear of what is not there -/
theorem Rep.avoid {φ : List Addr} (hn : ∀ a ∈ φ, H a = none) {d : D} {v : V} (h : Rep K H Z d v) : Rep K H (fun b => Z b ∨ b ∈ φ) d v := Rep.map (.step (fun a q => q.imp id (hn a)) .refl) d v h
theorem RepL.avoid {φ : List Addr} (hn : ∀ a ∈ φ, H a = none) {d : List D} {v : List V} (h : RepL K H Z d v) : RepL K H (fun b => Z b ∨ b ∈ φ) d v := RepL.map (.step (fun a q => q.imp id (hn a)) .refl) d v h
theorem Top.ext {d : D} {v : V} {φ : List Addr} (t : Top K H Z d v φ) (e : Ext H H') : Top K H' Z d v φ := t.map (.of (.of e) fun _ q => q) fun a _ o h => e a o h
theorem TopT.less {d : D} {v : V} {φ : List Addr} (t : TopT K H Z d v φ) (e : ∀ b, Z' b → Z b) : TopT K H Z' d v φ := t.map (.of .refl e) fun a _ o h => h
theorem TopT.ext {d : D} {v : V} {φ : List Addr} (t : TopT K H Z d v φ) (e : Ext H H') : TopT K H' Z d v φ := t.map (.of (.of e) fun _ q => q) fun a _ o h => e a o h
theorem Top.less {d : D} {v : V} {φ : List Addr} (t : Top K H Z d v φ) (e : ∀ b, Z' b → Z b) : Top K H Z' d v φ := t.map (.of .refl e) fun a _ o h => h
theorem Top.avoid {d : D} {v : V} {φ ψ : List Addr} (hn : ∀ a ∈ ψ, H a = none) (t : Top K H Z d v φ) : Top K H (fun b => Z b ∨ b ∈ ψ) d v φ := t.map (.step (fun a q => q.imp id (hn a)) .refl) fun a _ o h => h
mutual
/-- what cannot be changed avoids whatever may be -/
theorem Rep.imm (z : ZOk H Z') : ∀ (d : D) (v : V), imm d = true → Rep K H Z d v → Rep K H Z' d v
  | .non, _, _, h => h
  | .bl _, _, _, h => h
  | .int _, _, _, h => h
  | .str _, _, _, h => h
  | .tup ds, _, i, h => by
    obtain ⟨a, vs, e, t, r⟩ := h
    refine ⟨a, vs, e, ?_, RepL.imm z ds vs i r⟩
    rcases t with ⟨h, n⟩ | t
    · refine .inl ⟨h, fun q => ?_⟩
      obtain ⟨o, h1, h2⟩ := z a q
      rcases h with h | ⟨ob, h⟩
      · rw [h] at h1; cases h1; exact h2
      · rw [h] at h1; cases h1; exact h2
    · exact .inr t
  | .lst _, _, i, _ => nomatch i
  | .scr _, _, i, _ => nomatch i
  | .nst _, _, i, _ => nomatch i
  | .dic _ _, _, i, _ => nomatch i
  | .ndc _ _, _, i, _ => nomatch i
  | .obj _ _ _, _, i, _ => nomatch i
theorem RepL.imm (z : ZOk H Z') : ∀ (ds : List D) (vs : List V), immL ds = true → RepL K H Z ds vs → RepL K H Z' ds vs
  | [], _, _, h => h
  | d :: ds, _, i, h => by
    obtain ⟨v, r, e, h1, h2⟩ := h
    have i' : (DL.imm d && immL ds) = true := i
    rw [Bool.and_eq_true] at i'
    exact ⟨v, r, e, Rep.imm z d v i'.1 h1, RepL.imm z ds r i'.2 h2⟩
end
theorem RepL.len : ∀ {ds : List D} {vs : List V}, RepL K H Z ds vs → vs.length = ds.length
  | [], _, h => by cases (show _ = [] from h); rfl
  | d :: ds, _, h => by
    obtain ⟨v, r, rfl, _, h2⟩ := h
    simp [RepL.len h2]
theorem RepL.get : ∀ {ds : List D} {vs : List V} {i : Nat} {d : D}, RepL K H Z ds vs → ds[i]? = some d → ∃ v, vs[i]? = some v ∧ Rep K H Z d v
  | [], _, _, _, _, h => by simp at h
  | d :: ds, _, 0, _, h, e => by
    obtain ⟨v, r, rfl, h1, _⟩ := h
    simp at e; subst e
    exact ⟨v, rfl, h1⟩
  | d :: ds, _, i + 1, _, h, e => by
    obtain ⟨v, r, rfl, _, h2⟩ := h
    obtain ⟨v', e', h'⟩ := RepL.get (i := i) h2 (by simpa using e)
    exact ⟨v', by simpa using e', h'⟩
theorem RepL.at : ∀ {ds : List D} {vs : List V} {i : Nat} {v : V}, RepL K H Z ds vs → vs[i]? = some v → ∃ d, ds[i]? = some d ∧ Rep K H Z d v
  | [], _, _, _, h, e => by cases (show _ = [] from h); simp at e
  | d :: ds, _, 0, _, h, e => by
    obtain ⟨v, r, rfl, h1, _⟩ := h
    simp at e; subst e
    exact ⟨d, rfl, h1⟩
  | d :: ds, _, i + 1, _, h, e => by
    obtain ⟨v, r, rfl, _, h2⟩ := h
    obtain ⟨v', e', h'⟩ := RepL.at (i := i) h2 (by simpa using e)
    exact ⟨v', by simpa using e', h'⟩
theorem RepL.app : ∀ {ds es : List D} {vs us : List V}, RepL K H Z ds vs → RepL K H Z es us → RepL K H Z (ds ++ es) (vs ++ us)
  | [], _, _, _, h, g => by cases (show _ = [] from h); exact g
  | d :: ds, _, _, _, h, g => by
    obtain ⟨v, r, rfl, h1, h2⟩ := h
    exact ⟨v, r ++ _, rfl, h1, RepL.app h2 g⟩
theorem RepL.take : ∀ {ds : List D} {vs : List V} (n : Nat), RepL K H Z ds vs → RepL K H Z (ds.take n) (vs.take n)
  | [], _, n, h => by cases (show _ = [] from h); simp [RepL]
  | d :: ds, _, 0, _ => rfl
  | d :: ds, _, n + 1, h => by
    obtain ⟨v, r, rfl, h1, h2⟩ := h
    exact ⟨v, r.take n, rfl, h1, RepL.take n h2⟩
theorem RepL.drop : ∀ {ds : List D} {vs : List V} (n : Nat), RepL K H Z ds vs → RepL K H Z (ds.drop n) (vs.drop n)
  | [], _, n, h => by cases (show _ = [] from h); simp [RepL]
  | d :: ds, _, 0, h => h
  | d :: ds, _, n + 1, h => by
    obtain ⟨v, r, rfl, h1, h2⟩ := h
    exact RepL.drop n h2
theorem RepL.set : ∀ {ds : List D} {vs : List V} {d : D} {v : V} (n : Nat), RepL K H Z ds vs → Rep K H Z d v → RepL K H Z (ds.set n d) (vs.set n v)
  | [], _, _, _, n, h, _ => by cases (show _ = [] from h); simp [RepL]
  | d :: ds, _, _, _, 0, h, g => by
    obtain ⟨v, r, rfl, h1, h2⟩ := h
    exact ⟨_, r, rfl, g, h2⟩
  | d :: ds, _, _, _, n + 1, h, g => by
    obtain ⟨v, r, rfl, h1, h2⟩ := h
    exact ⟨v, r.set n _, rfl, h1, RepL.set n h2 g⟩
mutual
theorem Rep.dp : ∀ (d : D) (v : V), plain d = true → Rep K H Z d v → Dp K H v (toPy d)
  | .non, _, _, h => by cases (show _ = V.non from h); exact .non
  | .bl _, _, _, h => by cases (show _ = V.bl _ from h); exact .bl _
  | .int _, _, _, h => by cases (show _ = V.int _ from h); exact .int _
  | .str _, _, _, h => by cases (show _ = V.str _ from h); exact .str _
  | .tup ds, _, p, h => by
    obtain ⟨a, vs, rfl, t, r⟩ := h
    exact .tup t.sqT (RepL.dp ds vs p r)
  | .lst ds, _, p, h => by
    obtain ⟨a, vs, rfl, t, n, r⟩ := h
    exact .lst (SqL.of t) (RepL.dp ds vs p r)
  | .nst ds, _, p, h => by
    obtain ⟨a, vs, rfl, t, n, r⟩ := h
    exact .lst (SqL.of t) (RepL.dp ds vs p r)
  | .scr ds, _, p, h => by
    obtain ⟨a, vs, rfl, t, r⟩ := h
    exact .lst t.sqL (RepL.dp ds vs p r)
  | .dic _ _, _, p, _ => nomatch p
  | .ndc _ _, _, p, _ => nomatch p
  | .obj _ _ _, _, p, _ => nomatch p
theorem RepL.dp : ∀ (ds : List D) (vs : List V), plainL ds = true → RepL K H Z ds vs → DpAll K H vs (toPyL ds)
  | [], _, _, h => by cases (show _ = [] from h); exact .nil
  | d :: ds, _, p, h => by
    obtain ⟨v, r, rfl, h1, h2⟩ := h
    have p' : (plain d && plainL ds) = true := p
    rw [Bool.and_eq_true] at p'
    exact .cons (Rep.dp d v p'.1 h1) (RepL.dp ds r p'.2 h2)
end
theorem rep_upd1 {p : Addr} {o : HO} (h : H p = none) {d : D} {v : V} (r : Rep K H Z d v) : Rep K (upd H p o) Z d v := r.ex (ext_upd h)
theorem repL_upd1 {p : Addr} {o : HO} (h : H p = none) {d : List D} {v : List V} (r : RepL K H Z d v) : RepL K (upd H p o) Z d v := r.ex (ext_upd h)
/-! the older forms -/
theorem Rep.ext (_ : ZOk H Z) (e : Ext H H') {d : D} {v : V} (h : Rep K H Z d v) : Rep K H' Z d v := h.ex e
theorem RepL.ext (_ : ZOk H Z) (e : Ext H H') {d : List D} {v : List V} (h : RepL K H Z d v) : RepL K H' Z d v := h.ex e
theorem Rep.less (_ : ZOk H Z) (z : ∀ b, Z' b → Z b) {d : D} {v : V} (h : Rep K H Z d v) : Rep K H Z' d v := h.ls z
theorem RepL.less (_ : ZOk H Z) (z : ∀ b, Z' b → Z b) {d : List D} {v : List V} (h : RepL K H Z d v) : RepL K H Z' d v := h.ls z
theorem Rep.mono (_ : ∀ a o u, Z a → H a ≠ some (.frz o u)) (k : Keeps Z H H') (z : ∀ b, Z' b → Z b) (d : D) (v : V) (h : Rep K H Z d v) : Rep K H' Z' d v := Rep.mono1 k z d v h
theorem RepL.mono (_ : ∀ a o u, Z a → H a ≠ some (.frz o u)) (k : Keeps Z H H') (z : ∀ b, Z' b → Z b) (d : List D) (v : List V) (h : RepL K H Z d v) : RepL K H' Z' d v := RepL.mono1 k z d v h
theorem Rep.step {H1 H2 : Hp} {Z Z' : Addr → Prop} (_ : ZOk H1 Z) (hz : ∀ a, Z' a → Z a ∨ H1 a = none) (kp : Keeps Z H1 H2) : ∀ (d : D) (v : V), Rep K H1 Z d v → Rep K H2 Z' d v := Rep.map (.step hz kp)
theorem RepL.step {H1 H2 : Hp} {Z Z' : Addr → Prop} (_ : ZOk H1 Z) (hz : ∀ a, Z' a → Z a ∨ H1 a = none) (kp : Keeps Z H1 H2) : ∀ (ds : List D) (vs : List V), RepL K H1 Z ds vs → RepL K H2 Z' ds vs := RepL.map (.step hz kp)
theorem TupAt.mono {a : Addr} {xs : List V} (k : Keeps Z H H') (z : ∀ b, Z' b → Z b) (t : TupAt K H Z a xs) : TupAt K H' Z' a xs := t.map (.of k z)
theorem LstAt.mono {a : Addr} {xs : List V} (k : Keeps Z H H') (z : ∀ b, Z' b → Z b) (t : LstAt K H Z a xs) : LstAt K H' Z' a xs := t.map (.of k z)
theorem rep_upd (_ : ZOk H Z) {p : Addr} {o : HO} (h : H p = none) {d : D} {v : V} (r : Rep K H Z d v) : Rep K (upd H p o) Z d v := r.ex (ext_upd h)
theorem repL_upd (_ : ZOk H Z) {p : Addr} {o : HO} (h : H p = none) {d : List D} {v : List V} (r : RepL K H Z d v) : RepL K (upd H p o) Z d v := r.ex (ext_upd h)
/-- a new object: all that is owned with it was not there ahead -/
structure New (K : PySem.W.Frag) (H H' : Hp) (Z : Addr → Prop) (d : D) (v : V) (φ : List Addr) : Prop where
  free : ∀ a ∈ φ, H a = none
  nd : φ.Nodup
  top : Top K H' (fun b => Z b ∨ b ∈ φ) d v φ
theorem New.lst {H1 : Hp} {p : Addr} {ds : List D} {vs : List V} (h1 : H1 p = none) (h2 : H' p = some (.lst vs)) (r : RepL K H' (fun b => Z b ∨ b ∈ [p]) ds vs) : New K H1 H' Z (.lst ds) (.ref p) [p] :=
  ⟨fun a q => by rw [List.mem_singleton.mp q]; exact h1, by simp, p, vs, rfl, rfl, h2, r⟩
/-- a new list at p -/
theorem New.upd {H1 : Hp} {p : Addr} {ds : List D} {vs : List V} (h1 : H1 p = none) (h2 : H p = none) (r : RepL K H Z ds vs) : New K H1 (upd H p (.lst vs)) Z (.lst ds) (.ref p) [p] :=
  .lst h1 upd_same ((r.avoid (φ := [p]) fun a q => by rw [List.mem_singleton.mp q]; exact h2).ex (ext_upd h2))
theorem New.less {H1 : Hp} {d : D} {v : V} {φ : List Addr} (n : New K H1 H' Z d v φ) (z : ∀ b, Z' b → Z b) : New K H1 H' Z' d v φ := ⟨n.free, n.nd, n.top.less fun b hb => hb.imp (z b) id⟩
theorem New.pre {H1 H2 : Hp} {d : D} {v : V} {φ : List Addr} (n : New K H2 H' Z d v φ) (e : Ext H1 H2) : New K H1 H' Z d v φ := ⟨fun a q => e.free (n.free a q), n.nd, n.top⟩
theorem New.rep {H1 : Hp} {d : D} {v : V} {φ : List Addr} (n : New K H1 H' Z d v φ) (z : ZOk H1 Z) : Rep K H' Z d v := n.top.rep (fun b hb => .inl hb) fun a q => z.new (n.free a q)
theorem New.zok {H1 : Hp} {d : D} {v : V} {φ : List Addr} (n : New K H1 H' Z d v φ) (z : ZOk H' Z) : ZOk H' (fun b => Z b ∨ b ∈ φ) := fun b hb => by
  rcases hb with hb | hb
  · exact z b hb
  · exact n.top.mut b hb
end

/-! ### the environment -/
abbrev DEnv := List (Option D)
def ZZ (Z₀ : Addr → Prop) (α : Nat → List Addr) (own : List Nat) : Addr → Prop := fun a => Z₀ a ∨ ∃ i, i ∈ own ∧ a ∈ α i
structure EnvOk (K : PySem.W.Frag) (Z₀ : Addr → Prop) (α : Nat → List Addr) (own : List Nat) (δ : DEnv) (σ : L2.St) (H : Hp) : Prop where
  z0 : ZOk H Z₀
  nz0 : ∀ i ∈ own, ∀ a ∈ α i, ¬ Z₀ a
  nd : ∀ i ∈ own, (α i).Nodup
  inj : ∀ i ∈ own, ∀ j ∈ own, ∀ a, a ∈ α i → a ∈ α j → i = j
  len : σ.length = δ.length
  free : ∀ i d, i ∉ own → δ[i]? = some (some d) → ∃ v, σ[i]? = some (some v) ∧ Rep K H (ZZ Z₀ α own) d v
  top : ∀ i ∈ own, ∃ d v, δ[i]? = some (some d) ∧ σ[i]? = some (some v) ∧ Top K H (ZZ Z₀ α own) d v (α i)
def minus (own lk : List Nat) : List Nat := own.filter fun i => !(lk.contains i)
theorem mem_minus {own lk : List Nat} {i : Nat} : i ∈ minus own lk ↔ i ∈ own ∧ i ∉ lk := by
  unfold minus
  rw [List.mem_filter]
  simp
theorem ZOk.sub {H : Hp} {Z Z' : Addr → Prop} (z : ZOk H Z) (h : ∀ a, Z' a → Z a) : ZOk H Z' := fun a q => z a (h a q)
section
variable {K : PySem.W.Frag} {H H' : Hp} {Z₀ : Addr → Prop} {α : Nat → List Addr} {own own' : List Nat} {δ : DEnv} {σ : L2.St}
theorem ZZ.mono (h : ∀ i ∈ own', i ∈ own) : ∀ a, ZZ Z₀ α own' a → ZZ Z₀ α own a := fun a q => by
  rcases q with q | ⟨i, hi, e⟩
  · exact .inl q
  · exact .inr ⟨i, h i hi, e⟩
theorem EnvOk.zok (E : EnvOk K Z₀ α own δ σ H) : ZOk H (ZZ Z₀ α own) := fun a q => by
  rcases q with q | ⟨i, hi, h⟩
  · exact E.z0 a q
  · obtain ⟨d, v, _, _, t⟩ := E.top i hi
    exact t.mut a h
theorem EnvOk.zsub (E : EnvOk K Z₀ α own δ σ H) (h : ∀ i ∈ own', i ∈ own) : ZOk H (ZZ Z₀ α own') := E.zok.sub (ZZ.mono h)
theorem EnvOk.ext (E : EnvOk K Z₀ α own δ σ H) (e : Ext H H') : EnvOk K Z₀ α own δ σ H' := by
  refine ⟨E.z0.ext e, E.nz0, E.nd, E.inj, E.len, fun i d hi hd => ?_, fun i hi => ?_⟩
  · obtain ⟨v, h1, h2⟩ := E.free i d hi hd
    exact ⟨v, h1, h2.ex e⟩
  · obtain ⟨d, v, h1, h2, h3⟩ := E.top i hi
    exact ⟨d, v, h1, h2, h3.ext e⟩
theorem EnvOk.nz (E : EnvOk K Z₀ α own δ σ H) {i : Nat} (hi : i ∈ own) (h : ∀ j ∈ own', j ∈ own) (n : i ∉ own') : ∀ a ∈ α i, ¬ ZZ Z₀ α own' a := fun a ha q => by
  rcases q with q | ⟨j, hj, e⟩
  · exact E.nz0 i hi a ha q
  · have := E.inj i hi j (h j hj) a ha e
    subst this
    exact n hj
theorem EnvOk.weak (E : EnvOk K Z₀ α own δ σ H) (h : ∀ i ∈ own', i ∈ own) : EnvOk K Z₀ α own' δ σ H := by
  refine ⟨E.z0, fun i hi => E.nz0 i (h i hi), fun i hi => E.nd i (h i hi), fun i hi j hj => E.inj i (h i hi) j (h j hj), E.len, fun i d hi hd => ?_, fun i hi => ?_⟩
  · by_cases ho : i ∈ own
    · obtain ⟨d', v, h1, h2, h3⟩ := E.top i ho
      rw [hd] at h1; cases h1
      exact ⟨_, h2, h3.rep (ZZ.mono h) (E.nz ho h hi)⟩
    · obtain ⟨v, h1, h2⟩ := E.free i d ho hd
      exact ⟨v, h1, h2.ls (ZZ.mono h)⟩
  · obtain ⟨d, v, h1, h2, h3⟩ := E.top i (h i hi)
    exact ⟨d, v, h1, h2, h3.less (ZZ.mono h)⟩
/-- a slot's value, read without the ownership of the slots at lk -/
theorem EnvOk.read (E : EnvOk K Z₀ α own δ σ H) {i : Nat} {d : D} (hd : δ[i]? = some (some d)) (hi : i ∉ own') (h : ∀ j ∈ own', j ∈ own) : ∃ v, σ[i]? = some (some v) ∧ Rep K H (ZZ Z₀ α own') d v :=
  (E.weak h).free i d hi hd
theorem minus_sub {lk : List Nat} : ∀ i ∈ minus own lk, i ∈ own := fun i h => (mem_minus.mp h).1
theorem minus_sub2 {l m : List Nat} (h : ∀ i ∈ l, i ∈ m) : ∀ i ∈ minus own m, i ∈ minus own l := fun i q => by
  have := mem_minus.mp q
  exact mem_minus.mpr ⟨this.1, fun z => this.2 (h i z)⟩
/-- a value into a slot that is not owned behind it -/
theorem EnvOk.put (E : EnvOk K Z₀ α own δ σ H) {i : Nat} {d : D} {v : V} (hl : i < δ.length) (hi : i ∉ own) (r : Rep K H (ZZ Z₀ α own) d v) : EnvOk K Z₀ α own (δ.set i (some d)) (σ.set i (some v)) H := by
  refine ⟨E.z0, E.nz0, E.nd, E.inj, by simp [E.len], fun j e hj he => ?_, fun j hj => ?_⟩
  · by_cases q : i = j
    · subst q
      rw [List.getElem?_set_self hl] at he
      cases he
      exact ⟨v, List.getElem?_set_self (by rw [E.len]; exact hl), r⟩
    · rw [List.getElem?_set_ne q] at he ⊢
      exact E.free j e hj he
  · have q : i ≠ j := fun z => hi (z ▸ hj)
    rw [List.getElem?_set_ne q, List.getElem?_set_ne q]
    exact E.top j hj
theorem EnvOk.unset (E : EnvOk K Z₀ α own δ σ H) {i : Nat} (hi : i ∉ own) : EnvOk K Z₀ α own (δ.set i none) (σ.set i none) H := by
  refine ⟨E.z0, E.nz0, E.nd, E.inj, by simp [E.len], fun j e hj he => ?_, fun j hj => ?_⟩
  · by_cases q : i = j
    · subst q
      by_cases hl : i < δ.length
      · rw [List.getElem?_set_self hl] at he; cases he
      · rw [List.getElem?_eq_none (by simpa using hl)] at he; cases he
    · rw [List.getElem?_set_ne q] at he ⊢
      exact E.free j e hj he
  · have q : i ≠ j := fun z => hi (z ▸ hj)
    rw [List.getElem?_set_ne q, List.getElem?_set_ne q]
    exact E.top j hj
theorem EnvOk.clear (E : EnvOk K Z₀ α own δ σ H) {φ : List Addr} (h : ∀ a ∈ φ, H a = none) : ∀ i ∈ own, ∀ a ∈ α i, a ∉ φ := fun i hi a ha q => by
  obtain ⟨d, v, _, _, t⟩ := E.top i hi
  obtain ⟨o, h1, _⟩ := t.mut a ha
  rw [h a q] at h1; cases h1
/-- a new object into a slot that owns it behind it -/
theorem EnvOk.putOwn (E : EnvOk K Z₀ α own δ σ H) {i : Nat} {d : D} {v : V} {φ : List Addr} (hl : i < δ.length) (hi : i ∉ own) (e : Ext H H') (n : New K H H' (ZZ Z₀ α own) d v φ) :
    EnvOk K Z₀ (fun j => if j = i then φ else α j) (i :: own) (δ.set i (some d)) (σ.set i (some v)) H' := by
  have al : ∀ j ∈ own, (if j = i then φ else α j) = α j := fun j hj => if_neg fun (z : j = i) => hi (z ▸ hj)
  have zz : ∀ b, ZZ Z₀ (fun j => if j = i then φ else α j) (i :: own) b → (ZZ Z₀ α own b ∨ b ∈ φ) := fun b => by
    rintro (q | ⟨j, hj, q⟩)
    · exact .inl (.inl q)
    · rcases List.mem_cons.mp hj with rfl | hj
      · exact .inr (by simpa using q)
      · simp only [al j hj] at q
        exact .inl (.inr ⟨j, hj, q⟩)
  have m : Mv H H' (ZZ Z₀ α own) (ZZ Z₀ (fun j => if j = i then φ else α j) (i :: own)) := .step (fun a q => (zz a q).imp id (n.free a)) (.of e)
  refine ⟨E.z0.ext e, fun j hj a ha => ?_, fun j hj => ?_, fun j hj k hk a ha hb => ?_, by simp [E.len], fun j d' hj hd => ?_, fun j hj => ?_⟩
  · rcases List.mem_cons.mp hj with rfl | hj
    · exact E.z0.new (n.free a (by simpa using ha))
    · simp only [al j hj] at ha; exact E.nz0 j hj a ha
  · rcases List.mem_cons.mp hj with rfl | hj
    · simpa using n.nd
    · simp only [al j hj]; exact E.nd j hj
  · rcases List.mem_cons.mp hj with e1 | hj'
    · rcases List.mem_cons.mp hk with e2 | hk'
      · exact e1.trans e2.symm
      · subst e1
        simp only [al k hk', if_true] at ha hb
        exact absurd ha (E.clear n.free k hk' a hb)
    · rcases List.mem_cons.mp hk with e2 | hk'
      · subst e2
        simp only [al j hj', if_true] at ha hb
        exact absurd hb (E.clear n.free j hj' a ha)
      · simp only [al j hj', al k hk'] at ha hb
        exact E.inj j hj' k hk' a ha hb
  · have q : i ≠ j := fun z => hj (by rw [z]; exact List.mem_cons_self)
    rw [List.getElem?_set_ne q] at hd ⊢
    obtain ⟨v, h1, h2⟩ := E.free j d' (fun z => hj (List.mem_cons_of_mem _ z)) hd
    exact ⟨v, h1, h2.map m⟩
  · rcases List.mem_cons.mp hj with rfl | hj
    · refine ⟨d, v, List.getElem?_set_self hl, ?_, ?_⟩
      · rw [List.getElem?_set_self (by rw [E.len]; exact hl)]
      · simpa using n.top.less zz
    · have q : i ≠ j := fun z => hi (z ▸ hj)
      rw [List.getElem?_set_ne q, List.getElem?_set_ne q]
      obtain ⟨d', v', h1, h2, h3⟩ := E.top j hj
      refine ⟨d', v', h1, h2, ?_⟩
      simp only [al j hj]
      exact h3.map m fun a _ o h => e a o h
/-- the heap is changed at what slot i owns (and only there): the slot's new value -/
theorem EnvOk.change (E : EnvOk K Z₀ α own δ σ H) {i : Nat} {d : D} {v : V} {φ : List Addr} (hi : i ∈ own) (k : ∀ a o, a ∉ α i → H a = some o → H' a = some o)
    (hφ : ∀ a ∈ φ, a ∈ α i ∨ H a = none) (nd : φ.Nodup) (hv : σ[i]? = some (some v)) (t : ∀ Z', (∀ b, Z' b → ZZ Z₀ α own b ∨ b ∈ φ) → Top K H' Z' d v φ) :
    EnvOk K Z₀ (fun j => if j = i then φ else α j) own (δ.set i (some d)) σ H' := by
  have al : ∀ j, j ≠ i → (if j = i then φ else α j) = α j := fun j hj => if_neg hj
  have zz : ∀ b, ZZ Z₀ (fun j => if j = i then φ else α j) own b → (ZZ Z₀ α own b ∨ b ∈ φ) := fun b => by
    rintro (q | ⟨j, hj, q⟩)
    · exact .inl (.inl q)
    · by_cases e : j = i
      · subst e; exact .inr (by simpa using q)
      · simp only [al j e] at q
        exact .inl (.inr ⟨j, hj, q⟩)
  have zz' : ∀ b, b ∈ φ → ZZ Z₀ α own b ∨ H b = none := fun b hb => (hφ b hb).imp (fun q => .inr ⟨i, hi, q⟩) id
  have kp : Keeps (ZZ Z₀ α own) H H' := fun a o n h => k a o (fun q => n (.inr ⟨i, hi, q⟩)) h
  have m : Mv H H' (ZZ Z₀ α own) (ZZ Z₀ (fun j => if j = i then φ else α j) own) := .step (fun a q => (zz a q).elim .inl (zz' a)) kp
  obtain ⟨d0, v0, g1, g2, _⟩ := E.top i hi
  have hlen : i < δ.length := (List.getElem?_eq_some_iff.mp g1).1
  refine ⟨fun a q => ?_, fun j hj a ha => ?_, fun j hj => ?_, fun j hj l hl a ha hb => ?_, by simp [E.len], fun j d' hj hd => ?_, fun j hj => ?_⟩
  · obtain ⟨o, h1, h2⟩ := E.z0 a q
    exact ⟨o, k a o (fun z => E.nz0 i hi a z q) h1, h2⟩
  · by_cases e : j = i
    · subst e
      simp only [if_true] at ha
      rcases hφ a ha with q | q
      · exact E.nz0 j hj a q
      · exact E.z0.new q
    · simp only [al j e] at ha; exact E.nz0 j hj a ha
  · by_cases e : j = i
    · subst e; simpa using nd
    · simp only [al j e]; exact E.nd j hj
  · have other : ∀ j ∈ own, j ≠ i → ∀ a, a ∈ α j → a ∉ φ := fun j hj e a ha q => by
      rcases hφ a q with q | q
      · exact e (E.inj j hj i hi a ha q)
      · obtain ⟨d', v', _, _, t'⟩ := E.top j hj
        obtain ⟨o, h1, _⟩ := t'.mut a ha
        rw [q] at h1; cases h1
    by_cases e : j = i
    · by_cases e2 : l = i
      · exact e.trans e2.symm
      · subst e
        simp only [al l e2, if_true] at ha hb
        exact absurd ha (other l hl e2 a hb)
    · by_cases e2 : l = i
      · subst e2
        simp only [al j e, if_true] at ha hb
        exact absurd hb (other j hj e a ha)
      · simp only [al j e, al l e2] at ha hb
        exact E.inj j hj l hl a ha hb
  · have q : i ≠ j := fun z => hj (z ▸ hi)
    rw [List.getElem?_set_ne q] at hd
    obtain ⟨v, h1, h2⟩ := E.free j d' hj hd
    exact ⟨v, h1, h2.map m⟩
  · by_cases q : i = j
    · subst q
      exact ⟨d, v, List.getElem?_set_self hlen, hv, by simpa using t _ zz⟩
    · rw [List.getElem?_set_ne q]
      obtain ⟨d', v', h1, h2, h3⟩ := E.top j hj
      refine ⟨d', v', h1, h2, ?_⟩
      have e : j ≠ i := fun z => q z.symm
      simp only [al j e]
      exact h3.map m fun a ha o h => k a o (fun z => e (E.inj j hj i hi a ha z)) h
/-- some more addresses are kept clear of: they were not there ahead -/
theorem EnvOk.guard (E : EnvOk K Z₀ α own δ σ H) {φ : List Addr} (hp : ∀ a ∈ φ, H a = none) (e : Ext H H') (hm : ∀ a ∈ φ, ∃ o, H' a = some o ∧ Mut (some o)) : EnvOk K (fun b => Z₀ b ∨ b ∈ φ) α own δ σ H' := by
  have zz : ∀ b, ZZ (fun b => Z₀ b ∨ b ∈ φ) α own b → (ZZ Z₀ α own b ∨ b ∈ φ) := fun b => by
    rintro ((q | q) | ⟨j, hj, q⟩)
    · exact .inl (.inl q)
    · exact .inr q
    · exact .inl (.inr ⟨j, hj, q⟩)
  have m : Mv H H' (ZZ Z₀ α own) (ZZ (fun b => Z₀ b ∨ b ∈ φ) α own) := .step (fun a q => (zz a q).imp id (hp a)) (.of e)
  refine ⟨fun b q => ?_, fun i hi a ha q => ?_, E.nd, E.inj, E.len, fun i d hi hd => ?_, fun i hi => ?_⟩
  · rcases q with q | q
    · exact E.z0.ext e b q
    · exact hm b q
  · rcases q with q | q
    · exact E.nz0 i hi a ha q
    · exact E.clear hp i hi a ha q
  · obtain ⟨v, h1, h2⟩ := E.free i d hi hd
    exact ⟨v, h1, h2.map m⟩
  · obtain ⟨d, v, h1, h2, h3⟩ := E.top i hi
    exact ⟨d, v, h1, h2, h3.map m fun a _ o h => e a o h⟩
theorem ZZ.guard {φ : List Addr} : ∀ b, (ZZ Z₀ α own b ∨ b ∈ φ) → ZZ (fun b => Z₀ b ∨ b ∈ φ) α own b := fun b => by
  rintro ((q | ⟨j, hj, q⟩) | q)
  · exact .inl (.inl q)
  · exact .inr ⟨j, hj, q⟩
  · exact .inl (.inr q)
end
end DL

set_option maxRecDepth 100001
set_option maxHeartbeats 1000001
namespace DL
open PySem PySem.Spec PyProof.Rows L2

/-- the law's constants -/
structure Cfg where
  P : Program
  w : World
  K : PySem.W.Frag
  mg : PySem.Str → Option Value
  base : Heap
  cv : String → Value
  xi : L2.St → Prop
/-- names of a body or a block -/
structure Sco where
  N : List PySem.Str
  sc : Scope
  fn : PySem.Str → Bool
  hot : Bool := false
  top : Bool := true
structure Fit (G : Cfg) (S : Sco) (k : Nat) (X : Cx) : Prop where
  prog : X.prog = G.P
  w : X.w = G.w
  K : X.K = G.K
  mg : X.mg = G.mg
  base : X.base = G.base
  N : X.N = S.N
  sc : X.env.scope = S.sc
  fn : X.fn = S.fn
  room' : S.hot = false → Room k X.A
  calm' : S.hot = false → X.calm = true
  xi' : S.hot = false → ∀ σ, G.xi σ
  tp' : S.top = true → X.stack = X.env :: X.outer ∧ X.env.frame = some X.env.locals
theorem Fit.room {G : Cfg} {S : Sco} {k : Nat} {X : Cx} (F : Fit G S k X) (h : S.hot = false) : Room k X.A := F.room' h
theorem Fit.calm {G : Cfg} {S : Sco} {k : Nat} {X : Cx} (F : Fit G S k X) (h : S.hot = false) : X.calm = true := F.calm' h
theorem Fit.xi {G : Cfg} {S : Sco} {k : Nat} {X : Cx} (F : Fit G S k X) (h : S.hot = false) : ∀ σ, G.xi σ := F.xi' h

section
variable (G : Cfg)
/-- a reading t computes f: own: the slots that own their lists; lk: those whose own list the value may hold -/
def SE (W : WX) (own lk : List Nat) (t : TE) (f : DEnv → R D) : Prop := ∀ (Z₀ : Addr → Prop) (α : Nat → List Addr) (δ : DEnv) (σ : L2.St) (H : Hp) (Q : VK), EnvOk G.K Z₀ α own δ σ H → G.xi σ →
  (∀ d v H', f δ = .ok d → Ext H H' → Rep G.K H' (ZZ Z₀ α (minus own lk)) d v → Q v H') →
  (∀ x H', f δ = .err x → Ext H H' → W (G.cv x.cls) none σ H') → f δ ≠ .stk → t σ H Q
/-- .. to a new object -/
def SF (W : WX) (own lk : List Nat) (t : TE) (f : DEnv → R D) : Prop := ∀ (Z₀ : Addr → Prop) (α : Nat → List Addr) (δ : DEnv) (σ : L2.St) (H : Hp) (Q : VK), EnvOk G.K Z₀ α own δ σ H → G.xi σ →
  (∀ d v φ H', f δ = .ok d → Ext H H' → New G.K H H' (ZZ Z₀ α (minus own lk)) d v φ → Q v H') →
  (∀ x H', f δ = .err x → Ext H H' → W (G.cv x.cls) none σ H') → f δ ≠ .stk → t σ H Q
def ST (W : WX) (own : List Nat) (t : TT) (f : DEnv → R Bool) : Prop := ∀ (Z₀ : Addr → Prop) (α : Nat → List Addr) (δ : DEnv) (σ : L2.St) (H : Hp) (Q : Bool → Hp → Prop), EnvOk G.K Z₀ α own δ σ H → G.xi σ →
  (∀ d H', f δ = .ok d → Ext H H' → Q d H') →
  (∀ x H', f δ = .err x → Ext H H' → W (G.cv x.cls) none σ H') → f δ ≠ .stk → t σ H Q
def SA (W : WX) (own lk : List Nat) (t : TA) (f : DEnv → R (List D)) : Prop := ∀ (Z₀ : Addr → Prop) (α : Nat → List Addr) (δ : DEnv) (σ : L2.St) (H : Hp) (Q : List V → Hp → Prop), EnvOk G.K Z₀ α own δ σ H → G.xi σ →
  (∀ d v H', f δ = .ok d → Ext H H' → RepL G.K H' (ZZ Z₀ α (minus own lk)) d v → Q v H') →
  (∀ x H', f δ = .err x → Ext H H' → W (G.cv x.cls) none σ H') → f δ ≠ .stk → t σ H Q
def DE (X : Cx) (W : WX) (own lk : List Nat) (e : Expr) (t : TE) (f : DEnv → R D) : Prop := PE X e t ∧ SE G W own lk t f
def DF (X : Cx) (W : WX) (own lk : List Nat) (e : Expr) (t : TE) (f : DEnv → R D) : Prop := PE X e t ∧ SF G W own lk t f
def DT (X : Cx) (W : WX) (own : List Nat) (e : Expr) (t : TT) (f : DEnv → R Bool) : Prop := PT X e t ∧ ST G W own t f
def DA (X : Cx) (W : WX) (own lk : List Nat) (es : List Expr) (t : TA) (f : DEnv → R (List D)) : Prop := PA X es t ∧ SA G W own lk t f
end

section
variable {G : Cfg} {W : WX} {own lk l1 l2 : List Nat} {t ta tb : TE} {f g : DEnv → R D}
theorem R.notstk_bind {α β : Type} {x : R α} {f : α → R β} (h : x.bind f ≠ .stk) : x ≠ .stk := fun e => by rw [e] at h; exact h rfl

/-- an operator's reading by values -/
def OpS (K : PySem.W.Frag) (h : D → D → R D) (r : R2) : Prop := ∀ (H : Hp) (Z : Addr → Prop) (x y : V) (d e : D) (Q : VK), ZOk H Z → Rep K H Z d x → Rep K H Z e y → (∃ c, h d e = .ok c ∧ ∀ v H', Ext H H' → Rep K H' Z c v → Q v H') → r x y H Q
theorem minus_l {i : Nat} (h : i ∈ minus own (l1 ++ l2)) : i ∈ minus own l1 := minus_sub2 (fun j hj => List.mem_append_left _ hj) i h
theorem minus_r {i : Nat} (h : i ∈ minus own (l1 ++ l2)) : i ∈ minus own l2 := minus_sub2 (fun j hj => List.mem_append_right _ hj) i h
/-- two values in a row -/
theorem SE.two (ha : SE G W own l1 ta f) (hb : SE G W own l2 tb g) {r : V → V → Hp → VK → Prop} {h : D → D → R D}
    (hr : ∀ (H : Hp) (Z : Addr → Prop) (x y : V) (d e : D) (Q : VK) (σ : L2.St), ZOk H Z → Rep G.K H Z d x → Rep G.K H Z e y → (∀ c v H', h d e = .ok c → Ext H H' → Rep G.K H' Z c v → Q v H') → (∀ z H', h d e = .err z → Ext H H' → W (G.cv z.cls) none σ H') → h d e ≠ .stk → r x y H Q) :
    SE G W own (l1 ++ l2) (fun σ H Q => ta σ H fun x H1 => tb σ H1 fun y H2 => r x y H2 Q) (fun δ => (f δ).bind fun d => (g δ).bind fun e => h d e) := by
  intro Z₀ α δ σ H Q E hX q qe ns
  dsimp only at q qe ns
  refine ha Z₀ α δ σ H _ E hX (fun d v H1 hf e1 r1 => ?_) (fun x H1 hf e1 => ?_) (R.notstk_bind ns)
  · rw [hf] at q qe ns
    simp only [R.bind_ok] at q qe ns
    have E1 := E.ext e1
    refine hb Z₀ α δ σ H1 _ E1 hX (fun d2 v2 H2 hg e2 r2 => ?_) (fun x H2 hg e2 => ?_) (R.notstk_bind ns)
    · rw [hg] at q qe ns
      simp only [R.bind_ok] at q qe ns
      have E2 := E1.ext e2
      have z1 : ZOk H1 (ZZ Z₀ α (minus own l1)) := E1.zsub minus_sub
      have z2 : ZOk H2 (ZZ Z₀ α (minus own l2)) := E2.zsub minus_sub
      have r1' := (r1.ext z1 e2).less (z1.ext e2) (ZZ.mono fun i hi => minus_l (l2 := l2) hi)
      have r2' := r2.less z2 (ZZ.mono fun i hi => minus_r (l1 := l1) hi)
      exact hr H2 _ v v2 d d2 Q σ (E2.zsub minus_sub) r1' r2' (fun c v H' hc e3 r3 => q c v H' hc ((e1.trans e2).trans e3) r3) (fun z H' hz e3 => qe z H' hz ((e1.trans e2).trans e3)) ns
    · rw [hg] at qe
      exact qe x H2 rfl (e1.trans e2)
  · rw [hf] at qe
    exact qe x H1 rfl e1
theorem SE.op (ha : SE G W own l1 ta f) (hb : SE G W own l2 tb g) {r : R2} {h : D → D → R D} (hr : OpS G.K h r) (he : ∀ d e z, h d e ≠ .err z) :
    SE G W own (l1 ++ l2) (tOp r ta tb) (fun δ => (f δ).bind fun d => (g δ).bind fun e => h d e) :=
  SE.two ha hb fun H Z x y d e Q σ z hx hy q qe ns => hr H Z x y d e Q z hx hy (by
    cases hh : h d e with
    | ok c => exact ⟨c, rfl, fun v H' => q c v H' hh⟩
    | err x => exact absurd hh (he d e x)
    | stk => exact absurd hh ns)
/-- one value -/
theorem SE.one (ha : SE G W own lk ta f) {r : V → Hp → VK → Prop} {h : D → R D}
    (hr : ∀ (H : Hp) (Z : Addr → Prop) (x : V) (d : D) (Q : VK), ZOk H Z → Rep G.K H Z d x → (∃ c, h d = .ok c ∧ ∀ v H', Ext H H' → Rep G.K H' Z c v → Q v H') → r x H Q) (he : ∀ d z, h d ≠ .err z) :
    SE G W own lk (fun σ H Q => ta σ H fun x H1 => r x H1 Q) (fun δ => (f δ).bind h) := by
  intro Z₀ α δ σ H Q E hX q qe ns
  dsimp only at q qe ns
  refine ha Z₀ α δ σ H _ E hX (fun d v H1 hf e1 r1 => ?_) (fun x H1 hf e1 => ?_) (R.notstk_bind ns)
  · rw [hf] at q qe ns
    simp only [R.bind_ok] at q qe ns
    refine hr H1 _ v d Q ((E.ext e1).zsub minus_sub) r1 ?_
    cases hh : h d with
    | ok c => exact ⟨c, rfl, fun v H' e2 r2 => q c v H' hh (e1.trans e2) r2⟩
    | err x => exact absurd hh (he d x)
    | stk => exact absurd hh ns
  · rw [hf] at qe
    exact qe x H1 rfl e1
/-- where the value cannot be changed nothing leaks -/
theorem SE.imm0 (ha : SE G W own lk t f) (hi : ∀ δ d, f δ = .ok d → imm d = true) : SE G W own [] t f := by
  intro Z₀ α δ σ H Q E hX q qe ns
  refine ha Z₀ α δ σ H Q E hX (fun d v H1 hf e1 r1 => ?_) qe ns
  exact q d v H1 hf e1 (Rep.imm ((E.ext e1).zsub minus_sub) d v (hi δ d hf) r1)
def chkImm (f : DEnv → R D) : DEnv → R D := fun δ => (f δ).bind fun d => if imm d = true then .ok d else .stk
theorem SE.chk (ha : SE G W own lk t f) : SE G W own [] t (chkImm f) := by
  intro Z₀ α δ σ H Q E hX q qe ns
  refine ha Z₀ α δ σ H Q E hX (fun d v H1 hf e1 r1 => ?_) (fun x H1 hf e1 => ?_) ?_
  · unfold chkImm at q ns
    rw [hf] at q ns
    simp only [R.bind_ok] at q ns
    by_cases hi : imm d = true
    · rw [if_pos hi] at q
      exact q d v H1 rfl e1 (Rep.imm ((E.ext e1).zsub minus_sub) d v hi r1)
    · rw [if_neg hi] at ns
      exact absurd rfl ns
  · refine qe x H1 ?_ e1
    unfold chkImm
    rw [hf]
    rfl
  · intro hf
    unfold chkImm at ns
    rw [hf] at ns
    exact ns rfl
theorem SF.se (h : SF G W own lk t f) : SE G W own lk t f := by
  intro Z₀ α δ σ H Q E hX q qe ns
  refine h Z₀ α δ σ H Q E hX (fun d v φ H1 hf e1 n => ?_) qe ns
  exact q d _ H1 hf e1 (n.rep (E.zsub minus_sub))
/-- a new list whose parts cannot be changed -/
def chkFlat (f : DEnv → R D) : DEnv → R D := fun δ => (f δ).bind fun d => match d with
  | .lst ds => if immL ds = true then .ok (.lst ds) else .stk
  | _ => .stk
theorem SF.chk (ha : SF G W own lk t f) : SF G W own [] t (chkFlat f) := by
  intro Z₀ α δ σ H Q E hX q qe ns
  refine ha Z₀ α δ σ H Q E hX (fun d v φ H1 hf e1 n => ?_) (fun x H1 hf e1 => ?_) ?_
  · unfold chkFlat at q ns
    rw [hf] at q ns
    simp only [R.bind_ok] at q ns
    cases d with
    | lst ds =>
      simp only at q ns
      by_cases hi : immL ds = true
      · rw [if_pos hi] at q
        obtain ⟨n1, n2, a, vs, rfl, rfl, h1, h2⟩ := n
        have z : ZOk H1 (fun b => ZZ Z₀ α (minus own []) b ∨ b ∈ [a]) := fun b hb => by
          rcases hb with hb | hb
          · exact (E.ext e1).zsub minus_sub b hb
          · rw [List.mem_singleton.mp hb]; exact ⟨_, h1, True.intro⟩
        exact q _ _ _ H1 rfl e1 ⟨n1, n2, a, vs, rfl, rfl, h1, RepL.imm z ds vs hi h2⟩
      · rw [if_neg hi] at ns
        exact absurd rfl ns
    | _ => exact absurd rfl ns
  · refine qe x H1 ?_ e1
    unfold chkFlat
    rw [hf]
    rfl
  · intro hf
    unfold chkFlat at ns
    rw [hf] at ns
    exact ns rfl
/-! ### names, constants -/
def nmD (i : Nat) : DEnv → R D := fun δ => match δ[i]? with
  | some (some d) => .ok d
  | _ => .stk
theorem SE.nm {i : Nat} : SE G W own [i] (tVar i) (nmD i) := by
  intro Z₀ α δ σ H Q E hX q qe ns
  unfold nmD at q ns
  cases hd : δ[i]? with
  | none => rw [hd] at ns; exact absurd rfl ns
  | some o =>
    cases o with
    | none => rw [hd] at ns; exact absurd rfl ns
    | some d =>
      rw [hd] at q
      obtain ⟨v, h1, h2⟩ := E.read (own' := minus own [i]) hd (fun h => (mem_minus.mp h).2 (by simp)) minus_sub
      exact ⟨v, h1, q d v H rfl (Same.refl H) h2⟩
/-- a name that owns nothing leaks nothing -/
theorem SE.nm0 {i : Nat} (hi : i ∉ own) : SE G W own [] (tVar i) (nmD i) := by
  intro Z₀ α δ σ H Q E hX q qe ns
  unfold nmD at q ns
  cases hd : δ[i]? with
  | none => rw [hd] at ns; exact absurd rfl ns
  | some o =>
    cases o with
    | none => rw [hd] at ns; exact absurd rfl ns
    | some d =>
      rw [hd] at q
      obtain ⟨v, h1, h2⟩ := E.read (own' := minus own []) hd (fun h => hi (mem_minus.mp h).1) minus_sub
      exact ⟨v, h1, q d v H rfl (Same.refl H) h2⟩
def cD (d : D) : DEnv → R D := fun _ => .ok d
theorem SE.c {v : V} {d : D} (h : ∀ H Z, Rep G.K H Z d v) : SE G W own [] (tC v) (cD d) := by
  intro Z₀ α δ σ H Q E hX q qe ns
  exact q d v H rfl (Same.refl H) (h _ _)
end

section
variable {G : Cfg} {S : Sco} {k : Nat} {X : Cx} {W : WX} {own : List Nat} {pos : Pos}
theorem d_nm {i : Nat} {x : PySem.Str} (F : Fit G S k X) (hN : S.N[i]? = some x) (hv : Vis S.sc x) (h1 : (x == ("__debug__" : PySem.Str)) = false := by decide) (h2 : (x == ("__classdict__" : PySem.Str)) = false := by decide) :
    DE G X W own [i] (.Name x pos) (tVar i) (nmD i) := ⟨pe_var (by rw [F.N]; exact hN) (by rw [F.sc]; exact hv) h1 h2, SE.nm⟩
theorem d_nm0 {i : Nat} {x : PySem.Str} (F : Fit G S k X) (hN : S.N[i]? = some x) (hv : Vis S.sc x) (ho : i ∉ own) (h1 : (x == ("__debug__" : PySem.Str)) = false := by decide) (h2 : (x == ("__classdict__" : PySem.Str)) = false := by decide) :
    DE G X W own [] (.Name x pos) (tVar i) (nmD i) := ⟨pe_var (by rw [F.N]; exact hN) (by rw [F.sc]; exact hv) h1 h2, SE.nm0 ho⟩
theorem d_int {i : Int} {j : Nat} : DE G X W own [] (.Constant (.int i) j pos) (tC (.int i)) (cD (.int i)) := ⟨pe_int, SE.c fun _ _ => rfl⟩
theorem d_bl {i : Bool} {j : Nat} : DE G X W own [] (.Constant (.bool i) j pos) (tC (.bl i)) (cD (.bl i)) := ⟨pe_bl, SE.c fun _ _ => rfl⟩
theorem d_non {j : Nat} : DE G X W own [] (.Constant .none j pos) (tC .non) (cD .non) := ⟨pe_non, SE.c fun _ _ => rfl⟩
theorem d_str {i : PySem.Str} {j : Nat} : DE G X W own [] (.Constant (.str i) j pos) (tC (.str i)) (cD (.str i)) := ⟨pe_str, SE.c fun _ _ => rfl⟩
/-- a constant of the module -/
theorem d_glob {x : PySem.Str} {v : V} {u : Value} {d : D} (F : Fit G S k X) (hg : S.sc.names.lookup x = some .globalImplicit) (hm : G.mg x = some u) (r : RelV v u) (h : ∀ H Z, Rep G.K H Z d v) (hd : (x == ("__debug__" : PySem.Str)) = false := by decide) :
    DE G X W own [] (.Name x pos) (tC v) (cD d) := ⟨pe_glob (by show X.env.scope.names.lookup x = _; rw [F.sc]; exact hg) (by rw [F.mg]; exact hm) r hd, SE.c h⟩
end
end DL

set_option maxRecDepth 100001
set_option maxHeartbeats 1000001
namespace DL
open PySem PySem.Spec PyProof.Rows L2

def b2 (h : D → D → R D) (f g : DEnv → R D) : DEnv → R D := fun δ => (f δ).bind fun d => (g δ).bind fun e => h d e
def u1 (h : D → R D) (f : DEnv → R D) : DEnv → R D := fun δ => (f δ).bind h

/-! ### arithmetic -/
def addD : D → D → R D
  | .int i, .int j => .ok (.int (i + j))
  | .int i, .bl k => .ok (.int (i + if k then 1 else 0))
  | .str x, .str y => if x.length + y.length ≤ sizeLine then .ok (.str (x ++ y)) else .stk
  | .tup xs, .tup ys => if xs.length + ys.length ≤ sizeLine then .ok (.tup (xs ++ ys)) else .stk
  | _, _ => .stk
def catD : D → D → R D
  | .lst xs, .lst ys => if xs.length + ys.length ≤ sizeLine then .ok (.lst (xs ++ ys)) else .stk
  | _, _ => .stk
def subD : D → D → R D
  | .int i, .int j => .ok (.int (i - j))
  | _, _ => .stk
def mulOk (i j : Int) : Bool := (decide (-(2 ^ 64) < i) && decide (i < 2 ^ 64)) || (decide (-(2 ^ 64) < j) && decide (j < 2 ^ 64)) || decide (i.natAbs.log2 + j.natAbs.log2 < 1000000)
def mulD : D → D → R D
  | .int i, .int j => if mulOk i j = true then .ok (.int (i * j)) else .stk
  | _, _ => .stk
def repD : D → D → R D
  | .lst xs, .int k => if -(2 ^ 63) ≤ k ∧ k < 2 ^ 63 ∧ xs.length * k.toNat ≤ sizeLine then .ok (.lst (List.replicate k.toNat xs).flatten) else .stk
  | _, _ => .stk
def divOk (j : Int) : Bool := decide (j ≠ 0) && decide (j.natAbs.log2 < 9000)
def fdivD : D → D → R D
  | .int i, .int j => if divOk j = true then .ok (.int (i.fdiv j)) else .stk
  | _, _ => .stk
def modD : D → D → R D
  | .int i, .int j => if j ≠ 0 then .ok (.int (i.fmod j)) else .stk
  | _, _ => .stk
def powD : D → D → R D
  | .int i, .int j => if 0 ≤ j ∧ j ≤ 1000000 ∧ i.natAbs < 2 ^ 64 then .ok (.int (i ^ j.toNat)) else .stk
  | _, _ => .stk
def negD : D → R D
  | .int i => .ok (.int (-i))
  | _ => .stk
/-! ### comparisons -/
mutual
def shp : D → Nat → Bool
  | .tup ds, n + 1 => shpL ds n
  | .lst ds, n + 1 => shpL ds n
  | .scr ds, n + 1 => shpL ds n
  | .nst ds, n + 1 => shpL ds n
  | .tup _, 0 => false
  | .lst _, 0 => false
  | .scr _, 0 => false
  | .nst _, 0 => false
  | .dic _ _, _ => false
  | .ndc _ _, _ => false
  | .obj _ _ _, _ => false
  | .str x, _ => PyData.strOk x
  | .non, _ => true
  | .bl _, _ => true
  | .int _, _ => true
def shpL : List D → Nat → Bool
  | [], _ => true
  | d :: ds, n => shp d n && shpL ds n
end
def eqv (d e : D) : Bool := PyData.eqv (toPy d) (toPy e)
def eqD (d e : D) : R D := if shp d 8 = true ∧ shp e 8 = true then .ok (.bl (eqv d e)) else .stk
def neD (d e : D) : R D := if shp d 8 = true ∧ shp e 8 = true then .ok (.bl (!eqv d e)) else .stk
def ltD : D → D → R D
  | .int i, .int j => .ok (.bl (decide (i < j)))
  | _, _ => .stk
def leD : D → D → R D
  | .int i, .int j => .ok (.bl (decide (i ≤ j)))
  | _, _ => .stk
def gtD : D → D → R D
  | .int i, .int j => .ok (.bl (decide (j < i)))
  | _, _ => .stk
def geD : D → D → R D
  | .int i, .int j => .ok (.bl (decide (j ≤ i)))
  | _, _ => .stk
def flat : D → Bool
  | .non => true | .bl _ => true | .int _ => true | .str _ => true
  | _ => false
def hasD (d : D) : D → R Bool
  | .lst ds => if shp d 8 = true ∧ shpL ds 8 = true then .ok (ds.any fun z => eqv z d) else .stk
  | .tup ds => if flat d = true ∧ ds.all flat = true then .ok (ds.any fun z => eqv z d) else .stk
  | _ => .stk
def inD (d e : D) : R D := (hasD d e).bind fun b => .ok (.bl b)
def ninD (d e : D) : R D := (hasD d e).bind fun b => .ok (.bl (!b))
def isND : D → R D
  | .non => .ok (.bl true)
  | _ => .ok (.bl false)
def notND : D → R D
  | .non => .ok (.bl false)
  | _ => .ok (.bl true)
def isBD : D → D → R D
  | .bl a, .bl b => .ok (.bl (decide (a = b)))
  | _, _ => .stk
def notBD : D → D → R D
  | .bl a, .bl b => .ok (.bl (!decide (a = b)))
  | _, _ => .stk

section
variable {K : PySem.W.Frag} {H : Hp} {Z : Addr → Prop}
theorem Rep.int {i : Int} {v : V} (h : Rep K H Z (.int i) v) : v = .int i := h
theorem Rep.bl {i : Bool} {v : V} (h : Rep K H Z (.bl i) v) : v = .bl i := h
theorem Rep.str {i : PySem.Str} {v : V} (h : Rep K H Z (.str i) v) : v = .str i := h
theorem Rep.non {v : V} (h : Rep K H Z .non v) : v = .non := h
end

/-! ### the rules of the operators, joined -/
section
variable {X : Cx}
theorem op_mulA : OpR X (binaryOp .Mult) (rI (fun i j => mulOk i j = true) fun i j => .int (i * j)) := by
  have h := (op_mul (X := X)).or (op_mulW (X := X))
  intro pins s σ H x y v u Q I rx ry q
  refine h pins s σ H x y v u Q I rx ry ?_
  obtain ⟨i, j, e1, e2, hc, q⟩ := q
  unfold mulOk at hc
  simp only [Bool.or_eq_true, Bool.and_eq_true, decide_eq_true_eq] at hc
  rcases hc with (hc | hc) | hc
  · exact .inl ⟨i, j, e1, e2, .inl hc, q⟩
  · exact .inl ⟨i, j, e1, e2, .inr hc, q⟩
  · exact .inr ⟨i, j, e1, e2, hc, q⟩
theorem op_fdivA : OpR X (binaryOp .FloorDiv) (rI (fun _ j => divOk j = true) fun i j => .int (i.fdiv j)) := opI fun i j _ _ _ _ _ hc q => by
  unfold divOk at hc
  simp only [Bool.and_eq_true, decide_eq_true_eq] at hc
  exact floordiv_int hc.1 q (.inl (PyProof.noPylong_of_log2 hc.2))
end

def rAddA (K : PySem.W.Frag) : R2 := fun x y H Q => rI0 (fun i j => .int (i + j)) x y H Q ∨ (∃ i k, x = .int i ∧ y = .bl k ∧ Q (.int (i + b2i k)) H) ∨ (∃ i j, x = .str i ∧ y = .str j ∧ i.length + j.length ≤ sizeLine ∧ Q (.str (i ++ j)) H) ∨ rCatA K x y H Q
theorem op_addA {X : Cx} : OpR X (binaryOp .Add) (rAddA X.K) := op_add.or (op_add_ib.or (op_add_str.or op_catA))
section
variable {K : PySem.W.Frag}
theorem os_add : OpS K addD (rAddA K) := by
  intro H Z x y d e Q z hx hy q
  obtain ⟨c, hc, q⟩ := q
  unfold addD at hc
  split at hc
  · cases hc; cases hx.int; cases hy.int
    exact .inl ⟨_, _, rfl, rfl, q _ H (Same.refl H) rfl⟩
  · cases hc; cases hx.int; cases hy.bl
    exact .inr (.inl ⟨_, _, rfl, rfl, q _ H (Same.refl H) rfl⟩)
  · split at hc
    · rename_i h; cases hc; cases hx.str; cases hy.str
      exact .inr (.inr (.inl ⟨_, _, rfl, rfl, h, q _ H (Same.refl H) rfl⟩))
    · cases hc
  · split at hc
    · rename_i xs ys h
      cases hc
      obtain ⟨a, vs, rfl, ta, ra⟩ := hx
      obtain ⟨b, us, rfl, tb, rb⟩ := hy
      refine .inr (.inr (.inr ⟨a, b, vs, us, rfl, rfl, ta.sqT, tb.sqT, by rw [ra.len, rb.len]; exact h, fun e => ?_, fun e1 e2 => ?_, fun _ _ p hp => ?_⟩))
      · subst e
        have : xs = [] := List.eq_nil_of_length_eq_zero ra.len.symm
        subst this
        exact q _ H (Same.refl H) ⟨b, us, rfl, tb, rb⟩
      · subst e2
        have : ys = [] := List.eq_nil_of_length_eq_zero rb.len.symm
        subst this
        rw [List.append_nil] at q
        exact q _ H (Same.refl H) ⟨a, vs, rfl, ta, ra⟩
      · exact q _ _ (ext_upd hp) ⟨p, vs ++ us, rfl, .inl ⟨.inl upd_same, z.new hp⟩, (repL_upd z hp ra).app (repL_upd z hp rb)⟩
    · cases hc
  · cases hc
theorem os_cat : OpS K catD rCat := by
  intro H Z x y d e Q z hx hy q
  obtain ⟨c, hc, q⟩ := q
  unfold catD at hc
  split at hc
  · split at hc
    · rename_i h
      cases hc
      obtain ⟨a, vs, rfl, ta, _, ra⟩ := hx
      obtain ⟨b, us, rfl, tb, _, rb⟩ := hy
      exact ⟨a, b, vs, us, rfl, rfl, ta, tb, by rw [ra.len, rb.len]; exact h, fun p hp => q _ _ (ext_upd hp) ⟨p, vs ++ us, rfl, upd_same, z.new hp, (repL_upd z hp ra).app (repL_upd z hp rb)⟩⟩
    · cases hc
  · cases hc
theorem os_sub : OpS K subD (rI0 fun i j => .int (i - j)) := by
  intro H Z x y d e Q z hx hy q
  obtain ⟨c, hc, q⟩ := q
  unfold subD at hc
  split at hc
  · cases hc; cases hx.int; cases hy.int
    exact ⟨_, _, rfl, rfl, q _ H (Same.refl H) rfl⟩
  · cases hc
theorem os_mul : OpS K mulD (rI (fun i j => mulOk i j = true) fun i j => .int (i * j)) := by
  intro H Z x y d e Q z hx hy q
  obtain ⟨c, hc, q⟩ := q
  unfold mulD at hc
  split at hc
  · split at hc
    · rename_i h; cases hc; cases hx.int; cases hy.int
      exact ⟨_, _, rfl, rfl, h, q _ H (Same.refl H) rfl⟩
    · cases hc
  · cases hc
theorem os_rep : OpS K repD rRep := by
  intro H Z x y d e Q z hx hy q
  obtain ⟨c, hc, q⟩ := q
  unfold repD at hc
  split at hc
  · split at hc
    · rename_i xs k h
      cases hc
      obtain ⟨a, vs, rfl, ta, _, ra⟩ := hx
      cases hy.int
      refine ⟨a, k, vs, rfl, rfl, ta, h.1, h.2.1, by rw [ra.len]; exact h.2.2, fun p hp => q _ _ (ext_upd hp) ⟨p, _, rfl, upd_same, z.new hp, ?_⟩⟩
      have rr : ∀ (H : Hp) (n : Nat), RepL K H Z xs vs → RepL K H Z (List.replicate n xs).flatten (List.replicate n vs).flatten := fun H n r => by
        induction n with
        | zero => rfl
        | succ n ih =>
          rw [List.replicate_succ, List.replicate_succ, List.flatten_cons, List.flatten_cons]
          exact r.app ih
      exact rr _ _ (repL_upd z hp ra)
    · cases hc
  · cases hc
theorem os_fdiv : OpS K fdivD (rI (fun _ j => divOk j = true) fun i j => .int (i.fdiv j)) := by
  intro H Z x y d e Q z hx hy q
  obtain ⟨c, hc, q⟩ := q
  unfold fdivD at hc
  split at hc
  · split at hc
    · rename_i h; cases hc; cases hx.int; cases hy.int
      exact ⟨_, _, rfl, rfl, h, q _ H (Same.refl H) rfl⟩
    · cases hc
  · cases hc
theorem os_mod : OpS K modD (rI (fun _ j => j ≠ 0) fun i j => .int (i.fmod j)) := by
  intro H Z x y d e Q z hx hy q
  obtain ⟨c, hc, q⟩ := q
  unfold modD at hc
  split at hc
  · split at hc
    · rename_i h; cases hc; cases hx.int; cases hy.int
      exact ⟨_, _, rfl, rfl, h, q _ H (Same.refl H) rfl⟩
    · cases hc
  · cases hc
theorem os_pow : OpS K powD (rI CPow fun i j => .int (i ^ j.toNat)) := by
  intro H Z x y d e Q z hx hy q
  obtain ⟨c, hc, q⟩ := q
  unfold powD at hc
  split at hc
  · split at hc
    · rename_i h; cases hc; cases hx.int; cases hy.int
      exact ⟨_, _, rfl, rfl, h, q _ H (Same.refl H) rfl⟩
    · cases hc
  · cases hc
theorem os_cmpI {h : D → D → R D} {p : Int → Int → Bool} (e : ∀ d e c, h d e = .ok c → ∃ i j, d = .int i ∧ e = .int j ∧ c = .bl (p i j)) : OpS K h (rI0 fun i j => .bl (p i j)) := by
  intro H Z x y d e' Q z hx hy q
  obtain ⟨c, hc, q⟩ := q
  obtain ⟨i, j, rfl, rfl, rfl⟩ := e _ _ _ hc
  cases hx.int; cases hy.int
  exact ⟨_, _, rfl, rfl, q _ H (Same.refl H) rfl⟩
theorem os_lt : OpS K ltD (rI0 fun i j => .bl (decide (i < j))) := os_cmpI fun d e c h => by
  unfold ltD at h
  split at h
  · cases h; exact ⟨_, _, rfl, rfl, rfl⟩
  · cases h
theorem os_le : OpS K leD (rI0 fun i j => .bl (decide (i ≤ j))) := os_cmpI fun d e c h => by
  unfold leD at h
  split at h
  · cases h; exact ⟨_, _, rfl, rfl, rfl⟩
  · cases h
theorem os_gt : OpS K gtD (rI0 fun i j => .bl (decide (j < i))) := os_cmpI fun d e c h => by
  unfold gtD at h
  split at h
  · cases h; exact ⟨_, _, rfl, rfl, rfl⟩
  · cases h
theorem os_ge : OpS K geD (rI0 fun i j => .bl (decide (j ≤ i))) := os_cmpI fun d e c h => by
  unfold geD at h
  split at h
  · cases h; exact ⟨_, _, rfl, rfl, rfl⟩
  · cases h
end
/-! ### == at any depth -/
mutual
theorem shp_lay : ∀ (d : D) (n : Nat), shp d n = true → PyData.canLay0 (toPy d) = true
  | .non, _, _ => by simp [toPy, PyData.canLay0]
  | .bl _, _, _ => by simp [toPy, PyData.canLay0]
  | .int _, _, _ => by simp [toPy, PyData.canLay0]
  | .str x, _, h => by simpa [toPy, PyData.canLay0, shp] using h
  | .tup ds, n + 1, h => by
    rw [shp] at h
    simpa [toPy, PyData.canLay0] using shpL_lay ds n h
  | .lst ds, n + 1, h => by
    rw [shp] at h
    simpa [toPy, PyData.canLay0] using shpL_lay ds n h
  | .scr ds, n + 1, h => by
    rw [shp] at h
    simpa [toPy, PyData.canLay0] using shpL_lay ds n h
  | .nst ds, n + 1, h => by
    rw [shp] at h
    simpa [toPy, PyData.canLay0] using shpL_lay ds n h
  | .tup _, 0, h => by simp [shp] at h
  | .lst _, 0, h => by simp [shp] at h
  | .scr _, 0, h => by simp [shp] at h
  | .nst _, 0, h => by simp [shp] at h
  | .dic _ _, _, h => by simp [shp] at h
  | .ndc _ _, _, h => by simp [shp] at h
  | .obj _ _ _, _, h => by simp [shp] at h
theorem shpL_lay : ∀ (ds : List D) (n : Nat), shpL ds n = true → PyData.canLayAll0 (toPyL ds) = true
  | [], _, _ => by simp [toPyL, PyData.canLayAll0]
  | d :: ds, n, h => by
    rw [shpL, Bool.and_eq_true] at h
    simp [toPyL, PyData.canLayAll0, shp_lay d n h.1, shpL_lay ds n h.2]
end
mutual
theorem shp_dep : ∀ (d : D) (n : Nat), shp d n = true → PyData.depth (toPy d) ≤ n + 1
  | .non, _, _ => by simp [toPy, PyData.depth]
  | .bl _, _, _ => by simp [toPy, PyData.depth]
  | .int _, _, _ => by simp [toPy, PyData.depth]
  | .str x, _, h => by simp [toPy, PyData.depth]
  | .tup ds, n + 1, h => by
    rw [shp] at h
    have := shpL_dep ds n h
    simp [toPy, PyData.depth]; omega
  | .lst ds, n + 1, h => by
    rw [shp] at h
    have := shpL_dep ds n h
    simp [toPy, PyData.depth]; omega
  | .scr ds, n + 1, h => by
    rw [shp] at h
    have := shpL_dep ds n h
    simp [toPy, PyData.depth]; omega
  | .nst ds, n + 1, h => by
    rw [shp] at h
    have := shpL_dep ds n h
    simp [toPy, PyData.depth]; omega
  | .tup _, 0, h => by simp [shp] at h
  | .lst _, 0, h => by simp [shp] at h
  | .scr _, 0, h => by simp [shp] at h
  | .nst _, 0, h => by simp [shp] at h
  | .dic _ _, _, h => by simp [shp] at h
  | .ndc _ _, _, h => by simp [shp] at h
  | .obj _ _ _, _, h => by simp [shp] at h
theorem shpL_dep : ∀ (ds : List D) (n : Nat), shpL ds n = true → PyData.depthAll (toPyL ds) ≤ n + 1
  | [], _, _ => by simp [toPyL, PyData.depthAll]
  | d :: ds, n, h => by
    rw [shpL, Bool.and_eq_true] at h
    have h1 := shp_dep d n h.1
    have h2 := shpL_dep ds n h.2
    simp [toPyL, PyData.depthAll]; omega
end
mutual
theorem shp_plain : ∀ (d : D) (n : Nat), shp d n = true → plain d = true
  | .non, _, _ => rfl
  | .bl _, _, _ => rfl
  | .int _, _, _ => rfl
  | .str _, _, _ => rfl
  | .tup ds, n + 1, h => shpL_plain ds n (by rw [shp] at h; exact h)
  | .lst ds, n + 1, h => shpL_plain ds n (by rw [shp] at h; exact h)
  | .scr ds, n + 1, h => shpL_plain ds n (by rw [shp] at h; exact h)
  | .nst ds, n + 1, h => shpL_plain ds n (by rw [shp] at h; exact h)
  | .tup _, 0, h => by simp [shp] at h
  | .lst _, 0, h => by simp [shp] at h
  | .scr _, 0, h => by simp [shp] at h
  | .nst _, 0, h => by simp [shp] at h
  | .dic _ _, _, h => by simp [shp] at h
  | .ndc _ _, _, h => by simp [shp] at h
  | .obj _ _ _, _, h => by simp [shp] at h
theorem shpL_plain : ∀ (ds : List D) (n : Nat), shpL ds n = true → plainL ds = true
  | [], _, _ => rfl
  | d :: ds, n, h => by
    rw [shpL, Bool.and_eq_true] at h
    rw [plainL, Bool.and_eq_true]
    exact ⟨shp_plain d n h.1, shpL_plain ds n h.2⟩
end
theorem shp_shaped {d : D} {n : Nat} (h : shp d n = true) (hn : n ≤ 63) : SeqAt.shaped (toPy d) = true := by
  show (_ && _) = true
  rw [Bool.and_eq_true]
  refine ⟨shp_lay d n h, ?_⟩
  have := shp_dep d n h
  simp; omega
end DL

set_option maxRecDepth 100001
set_option maxHeartbeats 1000001
namespace DL
open PySem PySem.Spec PyProof.Rows L2

section
variable {G : Cfg} {S : Sco} {k : Nat} {X : Cx} {W : WX} {own lk l1 l2 : List Nat} {pos : Pos} {a b : Expr} {ta tb : TE} {f g : DEnv → R D}

local macro_rules | `(tactic| walk_at "noerr") => `(tactic| (intros; intro h; repeat (first | contradiction | (split at h) | (cases h))))

theorem noerr_add (d e : D) (z : Exn) : addD d e ≠ .err z := by
  intro h; unfold addD at h; repeat (first | contradiction | split at h)
theorem noerr_cat (d e : D) (z : Exn) : catD d e ≠ .err z := by
  intro h; unfold catD at h; repeat (first | contradiction | split at h)
theorem noerr_sub (d e : D) (z : Exn) : subD d e ≠ .err z := by
  intro h; unfold subD at h; repeat (first | contradiction | split at h)
theorem noerr_mul (d e : D) (z : Exn) : mulD d e ≠ .err z := by
  intro h; unfold mulD at h; repeat (first | contradiction | split at h)
theorem noerr_rep (d e : D) (z : Exn) : repD d e ≠ .err z := by
  intro h; unfold repD at h; repeat (first | contradiction | split at h)
theorem noerr_fdiv (d e : D) (z : Exn) : fdivD d e ≠ .err z := by
  intro h; unfold fdivD at h; repeat (first | contradiction | split at h)
theorem noerr_mod (d e : D) (z : Exn) : modD d e ≠ .err z := by
  intro h; unfold modD at h; repeat (first | contradiction | split at h)
theorem noerr_pow (d e : D) (z : Exn) : powD d e ≠ .err z := by
  intro h; unfold powD at h; repeat (first | contradiction | split at h)
theorem noerr_neg (d : D) (z : Exn) : negD d ≠ .err z := by
  intro h; unfold negD at h; repeat (first | contradiction | split at h)
theorem noerr_lt (d e : D) (z : Exn) : ltD d e ≠ .err z := by
  intro h; unfold ltD at h; repeat (first | contradiction | split at h)
theorem noerr_le (d e : D) (z : Exn) : leD d e ≠ .err z := by
  intro h; unfold leD at h; repeat (first | contradiction | split at h)
theorem noerr_gt (d e : D) (z : Exn) : gtD d e ≠ .err z := by
  intro h; unfold gtD at h; repeat (first | contradiction | split at h)
theorem noerr_ge (d e : D) (z : Exn) : geD d e ≠ .err z := by
  intro h; unfold geD at h; repeat (first | contradiction | split at h)
theorem noerr_eq (d e : D) (z : Exn) : eqD d e ≠ .err z := by
  intro h; unfold eqD at h; repeat (first | contradiction | split at h)
theorem noerr_ne (d e : D) (z : Exn) : neD d e ≠ .err z := by
  intro h; unfold neD at h; repeat (first | contradiction | split at h)
theorem noerr_has (d e : D) (z : Exn) : hasD d e ≠ .err z := by
  intro h; unfold hasD at h; repeat (first | contradiction | split at h)
theorem noerr_in (d e : D) (z : Exn) : inD d e ≠ .err z := by
  intro h; unfold inD at h
  cases q : hasD d e with
  | ok b => rw [q] at h; cases h
  | err x => exact noerr_has d e x q
  | stk => rw [q] at h; cases h
theorem noerr_nin (d e : D) (z : Exn) : ninD d e ≠ .err z := by
  intro h; unfold ninD at h
  cases q : hasD d e with
  | ok b => rw [q] at h; cases h
  | err x => exact noerr_has d e x q
  | stk => rw [q] at h; cases h

theorem imm_b2 {h : D → D → R D} (hi : ∀ d e c, h d e = .ok c → imm c = true) : ∀ δ d, b2 h f g δ = .ok d → imm d = true := by
  intro δ d q
  unfold b2 at q
  cases e1 : f δ with
  | ok x =>
    rw [e1] at q
    simp only [R.bind_ok] at q
    cases e2 : g δ with
    | ok y => rw [e2] at q; exact hi _ _ _ q
    | err _ => rw [e2] at q; cases q
    | stk => rw [e2] at q; cases q
  | err _ => rw [e1] at q; cases q
  | stk => rw [e1] at q; cases q
theorem imm_u1 {h : D → R D} (hi : ∀ d c, h d = .ok c → imm c = true) : ∀ δ d, u1 h f δ = .ok d → imm d = true := by
  intro δ d q
  unfold u1 at q
  cases e1 : f δ with
  | ok x => rw [e1] at q; exact hi _ _ q
  | err _ => rw [e1] at q; cases q
  | stk => rw [e1] at q; cases q
/-- an operator whose value is a number or a truth value -/
theorem DE.opI {op : Operator} {r : R2} {h : D → D → R D} (ho : OpR X (binaryOp op) r) (os : OpS G.K h r) (ne : ∀ d e z, h d e ≠ .err z) (hi : ∀ d e c, h d e = .ok c → imm c = true) (ha : DE G X W own l1 a ta f) (hb : DE G X W own l2 b tb g) :
    DE G X W own [] (.BinOp a op b pos) (tOp r ta tb) (b2 h f g) := ⟨pe_op ho ha.1 hb.1, (SE.op ha.2 hb.2 os ne).imm0 (imm_b2 hi)⟩
theorem DE.opA {op : Operator} {r : R2} {h : D → D → R D} (ho : OpR X (binaryOp op) r) (os : OpS G.K h r) (ne : ∀ d e z, h d e ≠ .err z) (ha : DE G X W own l1 a ta f) (hb : DE G X W own l2 b tb g) :
    DE G X W own (l1 ++ l2) (.BinOp a op b pos) (tOp r ta tb) (b2 h f g) := ⟨pe_op ho ha.1 hb.1, SE.op ha.2 hb.2 os ne⟩
theorem d_add (F : Fit G S k X) (ha : DE G X W own l1 a ta f) (hb : DE G X W own l2 b tb g) : DE G X W own (l1 ++ l2) (.BinOp a .Add b pos) (tOp (rAddA G.K) ta tb) (b2 addD f g) :=
  .opA (F.K ▸ op_addA) os_add noerr_add ha hb
theorem d_sub (ha : DE G X W own l1 a ta f) (hb : DE G X W own l2 b tb g) : DE G X W own [] (.BinOp a .Sub b pos) (tOp (rI0 fun i j => .int (i - j)) ta tb) (b2 subD f g) :=
  .opI op_sub os_sub noerr_sub (by intro d e c h; unfold subD at h; split at h <;> cases h; rfl) ha hb
theorem d_mul (ha : DE G X W own l1 a ta f) (hb : DE G X W own l2 b tb g) : DE G X W own [] (.BinOp a .Mult b pos) (tOp (rI (fun i j => mulOk i j = true) fun i j => .int (i * j)) ta tb) (b2 mulD f g) :=
  .opI op_mulA os_mul noerr_mul (by intro d e c h; unfold mulD at h; split at h <;> (try split at h) <;> cases h; rfl) ha hb
theorem d_fdiv (ha : DE G X W own l1 a ta f) (hb : DE G X W own l2 b tb g) : DE G X W own [] (.BinOp a .FloorDiv b pos) (tOp (rI (fun _ j => divOk j = true) fun i j => .int (i.fdiv j)) ta tb) (b2 fdivD f g) :=
  .opI op_fdivA os_fdiv noerr_fdiv (by intro d e c h; unfold fdivD at h; split at h <;> (try split at h) <;> cases h; rfl) ha hb
theorem d_mod (ha : DE G X W own l1 a ta f) (hb : DE G X W own l2 b tb g) : DE G X W own [] (.BinOp a .Mod b pos) (tOp (rI (fun _ j => j ≠ 0) fun i j => .int (i.fmod j)) ta tb) (b2 modD f g) :=
  .opI op_modN os_mod noerr_mod (by intro d e c h; unfold modD at h; split at h <;> (try split at h) <;> cases h; rfl) ha hb
theorem d_pow (ha : DE G X W own l1 a ta f) (hb : DE G X W own l2 b tb g) : DE G X W own [] (.BinOp a .Pow b pos) (tOp (rI CPow fun i j => .int (i ^ j.toNat)) ta tb) (b2 powD f g) :=
  .opI op_pow os_pow noerr_pow (by intro d e c h; unfold powD at h; split at h <;> (try split at h) <;> cases h; rfl) ha hb
/-- two lists joined: a new one -/
theorem SF.op (ha : SE G W own l1 ta f) (hb : SE G W own l2 tb g) {r : R2} {h : D → D → R D} (ne : ∀ d e z, h d e ≠ .err z)
    (hr : ∀ (H : Hp) (Z : Addr → Prop) (x y : V) (d e : D) (Q : VK), ZOk H Z → Rep G.K H Z d x → Rep G.K H Z e y → (∃ c, h d e = .ok c ∧ ∀ v φ H', Ext H H' → New G.K H H' Z c v φ → Q v H') → r x y H Q) :
    SF G W own (l1 ++ l2) (tOp r ta tb) (b2 h f g) := by
  intro Z₀ α δ σ H Q E hX q qe ns
  unfold b2 at q qe ns
  refine ha Z₀ α δ σ H _ E hX (fun d v H1 hf e1 r1 => ?_) (fun x H1 hf e1 => ?_) (R.notstk_bind ns)
  · rw [hf] at q qe ns
    simp only [R.bind_ok] at q qe ns
    have E1 := E.ext e1
    refine hb Z₀ α δ σ H1 _ E1 hX (fun d2 v2 H2 hg e2 r2 => ?_) (fun x H2 hg e2 => ?_) (R.notstk_bind ns)
    · rw [hg] at q qe ns
      simp only [R.bind_ok] at q qe ns
      have E2 := E1.ext e2
      have z1 : ZOk H1 (ZZ Z₀ α (minus own l1)) := E1.zsub minus_sub
      have z2 : ZOk H2 (ZZ Z₀ α (minus own l2)) := E2.zsub minus_sub
      have r1' := (r1.ext z1 e2).less (z1.ext e2) (ZZ.mono fun i hi => minus_l (l2 := l2) hi)
      have r2' := r2.less z2 (ZZ.mono fun i hi => minus_r (l1 := l1) hi)
      refine hr H2 _ v v2 d d2 Q (E2.zsub minus_sub) r1' r2' ?_
      cases hh : h d d2 with
      | ok c => exact ⟨c, rfl, fun v φ H' e3 n => q c v φ H' hh ((e1.trans e2).trans e3) (n.pre (e1.trans e2))⟩
      | err x => exact absurd hh (ne _ _ x)
      | stk => exact absurd hh ns
    · rw [hg] at qe
      exact qe x H2 rfl (e1.trans e2)
  · rw [hf] at qe
    exact qe x H1 rfl e1
theorem d_cat (ha : DE G X W own l1 a ta f) (hb : DE G X W own l2 b tb g) : DF G X W own (l1 ++ l2) (.BinOp a .Add b pos) (tOp rCat ta tb) (b2 catD f g) := by
  refine ⟨pe_op op_cat ha.1 hb.1, SF.op ha.2 hb.2 noerr_cat ?_⟩
  intro H Z x y d e Q z hx hy q
  obtain ⟨c, hc, q⟩ := q
  unfold catD at hc
  split at hc
  · split at hc
    · rename_i h
      cases hc
      obtain ⟨a, vs, rfl, ta, _, ra⟩ := hx
      obtain ⟨b, us, rfl, tb, _, rb⟩ := hy
      exact ⟨a, b, vs, us, rfl, rfl, ta, tb, by rw [ra.len, rb.len]; exact h, fun p hp => q _ _ _ (ext_upd hp) (New.upd hp hp (ra.app rb))⟩
    · cases hc
  · cases hc
theorem repl_rep {K : PySem.W.Frag} {H : Hp} {Z : Addr → Prop} {xs : List D} {vs : List V} (n : Nat) (r : RepL K H Z xs vs) : RepL K H Z (List.replicate n xs).flatten (List.replicate n vs).flatten := by
  induction n with
  | zero => rfl
  | succ n ih =>
    rw [List.replicate_succ, List.replicate_succ, List.flatten_cons, List.flatten_cons]
    exact r.app ih
theorem d_rep (ha : DE G X W own l1 a ta f) (hb : DE G X W own l2 b tb g) : DF G X W own (l1 ++ l2) (.BinOp a .Mult b pos) (tOp rRep ta tb) (b2 repD f g) := by
  refine ⟨pe_op op_rep ha.1 hb.1, SF.op ha.2 hb.2 noerr_rep ?_⟩
  intro H Z x y d e Q z hx hy q
  obtain ⟨c, hc, q⟩ := q
  unfold repD at hc
  split at hc
  · split at hc
    · rename_i xs k h
      cases hc
      obtain ⟨a, vs, rfl, ta, _, ra⟩ := hx
      cases hy.int
      exact ⟨a, k, vs, rfl, rfl, ta, h.1, h.2.1, by rw [ra.len]; exact h.2.2, fun p hp => q _ _ _ (ext_upd hp) (New.upd hp hp (repl_rep _ ra))⟩
    · cases hc
  · cases hc
theorem d_neg (ha : DE G X W own l1 a ta f) : DE G X W own [] (.UnaryOp .USub a pos) (tUn (rU fun i => .int (-i)) ta) (u1 negD f) := by
  refine ⟨pe_un un_neg ha.1, SE.imm0 (lk := l1) (SE.one ha.2 (fun H Z x d Q z hx q => ?_) noerr_neg) (imm_u1 (by intro d c h; unfold negD at h; split at h <;> cases h; rfl))⟩
  obtain ⟨c, hc, q⟩ := q
  unfold negD at hc
  split at hc
  · cases hc; cases hx.int
    exact ⟨_, rfl, q _ H (Same.refl H) rfl⟩
  · cases hc

/-! ### comparisons -/
theorem os_eqD {K : PySem.W.Frag} : OpS K eqD (rEqD K) := by
  intro H Z x y d e Q z hx hy q
  obtain ⟨c, hc, q⟩ := q
  unfold eqD at hc
  split at hc
  · rename_i h; cases hc
    exact ⟨_, _, Rep.dp _ _ (shp_plain _ _ h.1) hx, Rep.dp _ _ (shp_plain _ _ h.2) hy, shp_shaped h.1 (by decide), shp_shaped h.2 (by decide), q _ H (Same.refl H) rfl⟩
  · cases hc
theorem os_neD {K : PySem.W.Frag} : OpS K neD (rNeD K) := by
  intro H Z x y d e Q z hx hy q
  obtain ⟨c, hc, q⟩ := q
  unfold neD at hc
  split at hc
  · rename_i h; cases hc
    exact ⟨_, _, Rep.dp _ _ (shp_plain _ _ h.1) hx, Rep.dp _ _ (shp_plain _ _ h.2) hy, shp_shaped h.1 (by decide), shp_shaped h.2 (by decide), q _ H (Same.refl H) rfl⟩
  · cases hc
def rInA (K : PySem.W.Frag) : R2 := fun x y H Q => rIn K false x y H Q ∨ rInD K x y H Q
def rNinA (K : PySem.W.Frag) : R2 := fun x y H Q => rIn K true x y H Q ∨ rNotInD K x y H Q
theorem flat_rep {K : PySem.W.Frag} {H : Hp} {Z : Addr → Prop} {d : D} {v : V} (h : flat d = true) (r : Rep K H Z d v) : flatV v = true ∧ ∀ e w, flat e = true → Rep K H Z e w → eqV w v = eqv e d := by
  cases d with
  | non =>
    cases r.non
    refine ⟨rfl, fun e w he hr => ?_⟩
    cases e <;> first | exact (Bool.false_ne_true he).elim | (cases hr; simp [eqV, eqv, toPy, PyData.eqv])
  | bl b =>
    cases r.bl
    refine ⟨rfl, fun e w he hr => ?_⟩
    cases e <;> first | exact (Bool.false_ne_true he).elim | (cases hr; simp [eqV, eqv, toPy, PyData.eqv])
  | int b =>
    cases r.int
    refine ⟨rfl, fun e w he hr => ?_⟩
    cases e <;> first | exact (Bool.false_ne_true he).elim | (cases hr; simp [eqV, eqv, toPy, PyData.eqv])
  | str b =>
    cases r.str
    refine ⟨rfl, fun e w he hr => ?_⟩
    cases e <;> first | exact (Bool.false_ne_true he).elim | (cases hr; simp [eqV, eqv, toPy, PyData.eqv])
  | tup _ => exact absurd h (by simp [flat])
  | lst _ => exact absurd h (by simp [flat])
  | scr _ => exact absurd h (by simp [flat])
  | nst _ => exact absurd h (by simp [flat])
  | dic _ _ => exact absurd h (by simp [flat])
  | ndc _ _ => exact absurd h (by simp [flat])
  | obj _ _ _ => exact absurd h (by simp [flat])
theorem any_rep {K : PySem.W.Frag} {H : Hp} {Z : Addr → Prop} {d : D} {v : V} (h : flat d = true) (r : Rep K H Z d v) : ∀ {ds : List D} {vs : List V}, ds.all flat = true → RepL K H Z ds vs → vs.all flatV = true ∧ inV v vs = ds.any fun z => eqv z d
  | [], _, _, q => by cases (show _ = [] from q); exact ⟨rfl, rfl⟩
  | e :: ds, _, fl, q => by
    obtain ⟨w, us, rfl, h1, h2⟩ := q
    rw [List.all_cons, Bool.and_eq_true] at fl
    obtain ⟨i1, i2⟩ := any_rep h r fl.2 h2
    refine ⟨?_, ?_⟩
    · rw [List.all_cons, Bool.and_eq_true]
      exact ⟨(flat_rep fl.1 h1).1, i1⟩
    · unfold inV at i2 ⊢
      rw [List.any_cons, List.any_cons, i2, (flat_rep h r).2 e w fl.1 h1]
theorem toPyL_any (p : PyData → Bool) : ∀ ds : List D, (toPyL ds).any p = ds.any fun z => p (toPy z)
  | [] => rfl
  | d :: ds => by rw [toPyL, List.any_cons, List.any_cons, toPyL_any p ds]
theorem os_in_aux {K : PySem.W.Frag} {H : Hp} {Z : Addr → Prop} {x y : V} {d e : D} {b : Bool} (hx : Rep K H Z d x) (hy : Rep K H Z e y) (hh : hasD d e = .ok b) {Q : VK} :
    (Q (.bl b) H → rInA K x y H Q) ∧ (Q (.bl (!b)) H → rNinA K x y H Q) := by
  unfold hasD at hh
  split at hh
  · split at hh
    · rename_i h
      cases hh
      have sh : SeqAt.shaped (PyData.list (toPyL _)) = true := shp_shaped (d := .lst _) (n := 9) (by rw [shp]; exact h.2) (by decide)
      refine ⟨fun q => .inr ⟨_, _, Rep.dp _ _ (shp_plain _ _ h.1) hx, ?_, shp_shaped h.1 (by decide), sh, ?_⟩, fun q => .inr ⟨_, _, Rep.dp _ _ (shp_plain _ _ h.1) hx, ?_, shp_shaped h.1 (by decide), sh, ?_⟩⟩
      · have := Rep.dp (.lst _) _ (shpL_plain _ _ h.2) hy; rwa [toPy] at this
      · rw [toPyL_any]; exact q
      · have := Rep.dp (.lst _) _ (shpL_plain _ _ h.2) hy; rwa [toPy] at this
      · rw [toPyL_any]; exact q
    · cases hh
  · split at hh
    · rename_i h
      cases hh
      obtain ⟨p, vs, rfl, ta, ra⟩ := hy
      obtain ⟨i1, i2⟩ := any_rep h.1 hx h.2 ra
      refine ⟨fun q => .inl ⟨p, vs, rfl, .inr ta.sqT, (flat_rep h.1 hx).1, i1, ?_⟩, fun q => .inl ⟨p, vs, rfl, .inr ta.sqT, (flat_rep h.1 hx).1, i1, ?_⟩⟩
      · rw [if_neg Bool.false_ne_true, i2]; exact q
      · rw [if_pos rfl, i2]; exact q
    · cases hh
  · cases hh
theorem os_inD {K : PySem.W.Frag} : OpS K inD (rInA K) := by
  intro H Z x y d e Q z hx hy q
  obtain ⟨c, hc, q⟩ := q
  unfold inD at hc
  cases hh : hasD d e with
  | ok b => rw [hh] at hc; cases hc; exact (os_in_aux hx hy hh).1 (q _ H (Same.refl H) rfl)
  | err _ => rw [hh] at hc; cases hc
  | stk => rw [hh] at hc; cases hc
theorem os_ninD {K : PySem.W.Frag} : OpS K ninD (rNinA K) := by
  intro H Z x y d e Q z hx hy q
  obtain ⟨c, hc, q⟩ := q
  unfold ninD at hc
  cases hh : hasD d e with
  | ok b => rw [hh] at hc; cases hc; exact (os_in_aux hx hy hh).2 (q _ H (Same.refl H) rfl)
  | err _ => rw [hh] at hc; cases hc
  | stk => rw [hh] at hc; cases hc
theorem os_isB {K : PySem.W.Frag} : OpS K isBD (fun x y H Q => ∃ a b, x = .bl a ∧ y = .bl b ∧ Q (.bl (decide (a = b))) H) := by
  intro H Z x y d e Q z hx hy q
  obtain ⟨c, hc, q⟩ := q
  unfold isBD at hc
  split at hc
  · cases hc; cases hx.bl; cases hy.bl
    exact ⟨_, _, rfl, rfl, q _ H (Same.refl H) rfl⟩
  · cases hc
theorem os_notB {K : PySem.W.Frag} : OpS K notBD (fun x y H Q => ∃ a b, x = .bl a ∧ y = .bl b ∧ Q (.bl (!decide (a = b))) H) := by
  intro H Z x y d e Q z hx hy q
  obtain ⟨c, hc, q⟩ := q
  unfold notBD at hc
  split at hc
  · cases hc; cases hx.bl; cases hy.bl
    exact ⟨_, _, rfl, rfl, q _ H (Same.refl H) rfl⟩
  · cases hc
/-- a comparison's rule: the operator, its function, its reading -/
structure CmpRule (G : Cfg) (op : CmpOp) (h : D → D → R D) (r : R2) : Prop where
  ho : ∀ {S : Sco} {k : Nat} {X : Cx}, Fit G S k X → S.hot = false → OpR X (compareOp op) r
  os : OpS G.K h r
  ne : ∀ d e z, h d e ≠ .err z
  bl : ∀ d e c, h d e = .ok c → ∃ b, c = .bl b
theorem cr_eq : CmpRule G .Eq eqD (rEqD G.K) := ⟨fun F hh => F.K ▸ op_eqD (F.room hh).units, os_eqD, noerr_eq, by intro d e c h; unfold eqD at h; split at h <;> cases h; exact ⟨_, rfl⟩⟩
theorem cr_ne : CmpRule G .NotEq neD (rNeD G.K) := ⟨fun F hh => F.K ▸ op_neD (F.room hh).units, os_neD, noerr_ne, by intro d e c h; unfold neD at h; split at h <;> cases h; exact ⟨_, rfl⟩⟩
theorem cr_lt : CmpRule G .Lt ltD (rI0 fun i j => .bl (decide (i < j))) := ⟨fun _ _ => op_lt, os_lt, noerr_lt, by intro d e c h; unfold ltD at h; split at h <;> cases h; exact ⟨_, rfl⟩⟩
theorem cr_le : CmpRule G .LtE leD (rI0 fun i j => .bl (decide (i ≤ j))) := ⟨fun _ _ => op_le, os_le, noerr_le, by intro d e c h; unfold leD at h; split at h <;> cases h; exact ⟨_, rfl⟩⟩
theorem cr_gt : CmpRule G .Gt gtD (rI0 fun i j => .bl (decide (j < i))) := ⟨fun _ _ => op_gt, os_gt, noerr_gt, by intro d e c h; unfold gtD at h; split at h <;> cases h; exact ⟨_, rfl⟩⟩
theorem cr_ge : CmpRule G .GtE geD (rI0 fun i j => .bl (decide (j ≤ i))) := ⟨fun _ _ => op_ge, os_ge, noerr_ge, by intro d e c h; unfold geD at h; split at h <;> cases h; exact ⟨_, rfl⟩⟩
theorem Room.units65 {k : Nat} {A : Around} (r : Room k A) : A.units + 65 < cLine := by have := r.un; omega
theorem cr_in : CmpRule G .In inD (rInA G.K) := ⟨fun F hh => F.K ▸ (op_in_seq.or (op_inD (Room.units65 (F.room hh)))), os_inD, noerr_in, by
  intro d e c h; unfold inD at h
  cases q : hasD d e with
  | ok b => rw [q] at h; cases h; exact ⟨_, rfl⟩
  | err x => rw [q] at h; cases h
  | stk => rw [q] at h; cases h⟩
theorem cr_nin : CmpRule G .NotIn ninD (rNinA G.K) := ⟨fun F hh => F.K ▸ (op_notIn_seq.or (op_notInD (Room.units65 (F.room hh)))), os_ninD, noerr_nin, by
  intro d e c h; unfold ninD at h
  cases q : hasD d e with
  | ok b => rw [q] at h; cases h; exact ⟨_, rfl⟩
  | err x => rw [q] at h; cases h
  | stk => rw [q] at h; cases h⟩
theorem cr_isB : CmpRule G .Is isBD (fun x y H Q => ∃ a b, x = .bl a ∧ y = .bl b ∧ Q (.bl (decide (a = b))) H) := ⟨fun _ _ => op_is_bl, os_isB, by
  intro d e z h; unfold isBD at h; repeat (first | contradiction | split at h), by intro d e c h; unfold isBD at h; split at h <;> cases h; exact ⟨_, rfl⟩⟩
theorem cr_notB : CmpRule G .IsNot notBD (fun x y H Q => ∃ a b, x = .bl a ∧ y = .bl b ∧ Q (.bl (!decide (a = b))) H) := ⟨fun _ _ => op_isnot_bl, os_notB, by
  intro d e z h; unfold notBD at h; repeat (first | contradiction | split at h), by intro d e c h; unfold notBD at h; split at h <;> cases h; exact ⟨_, rfl⟩⟩
theorem bl_imm {h : D → D → R D} (hb : ∀ d e c, h d e = .ok c → ∃ b, c = .bl b) : ∀ d e c, h d e = .ok c → imm c = true := fun d e c q => by
  obtain ⟨b, rfl⟩ := hb d e c q; rfl
theorem d_cmp {op : CmpOp} {h : D → D → R D} {r : R2} (F : Fit G S k X) (cr : CmpRule G op h r) (ha : DE G X W own l1 a ta f) (hb : DE G X W own l2 b tb g) (hm : behindInMarks op b = false) (hh : S.hot = false := by rfl) :
    DE G X W own [] (.Compare a [op] [b] pos) (tOp r ta tb) (b2 h f g) := ⟨pe_cmpR (cr.ho F hh) ha.1 hb.1 hm, (SE.op ha.2 hb.2 cr.os cr.ne).imm0 (imm_b2 (bl_imm cr.bl))⟩
/-! ### tests -/
def toB (f : DEnv → R D) : DEnv → R Bool := fun δ => (f δ).bind fun d => match d with
  | .bl b => .ok b
  | _ => .stk
theorem ST.bl {t : TE} (h : SE G W own lk t f) : ST G W own (tTest t) (toB f) := by
  intro Z₀ α δ σ H Q E hX q qe ns
  unfold toB at q qe ns
  refine h Z₀ α δ σ H _ E hX (fun d v H1 hf e1 r1 => ?_) (fun x H1 hf e1 => ?_) (R.notstk_bind ns)
  · rw [hf] at q ns
    simp only [R.bind_ok] at q ns
    cases d with
    | bl b => cases r1.bl; exact ⟨b, rfl, q b H1 rfl e1⟩
    | _ => exact absurd rfl ns
  · rw [hf] at qe
    exact qe x H1 rfl e1
theorem t_cmp {op : CmpOp} {h : D → D → R D} {r : R2} (F : Fit G S k X) (cr : CmpRule G op h r) (ha : DE G X W own l1 a ta f) (hb : DE G X W own l2 b tb g) (hm : behindInMarks op b = false) (hh : S.hot = false := by rfl) :
    DT G X W own (.Compare a [op] [b] pos) (tTest (tOp r ta tb)) (toB (b2 h f g)) := ⟨pt_cmpR (cr.ho F hh) ha.1 hb.1 hm, ST.bl (SE.op ha.2 hb.2 cr.os cr.ne)⟩
end
end DL

set_option maxRecDepth 100001
set_option maxHeartbeats 1000001
namespace DL
open PySem PySem.Spec PyProof.Rows L2

section
variable {G : Cfg} {S : Sco} {k : Nat} {X : Cx} {W : WX} {own lk l1 l2 l3 : List Nat} {pos : Pos} {a b : Expr} {ta tb : TE} {f g : DEnv → R D} {tA tB' : TT} {fA fB : DEnv → R Bool} {rest : List Expr}

/-! ### truth -/
def truD : D → R Bool
  | .non => .ok false
  | .bl b => .ok b
  | .int i => .ok (i != 0)
  | .str y => if y.length ≤ sizeLine then .ok ((y.length : Int) != 0) else .stk
  | .tup ds => .ok (!ds.isEmpty)
  | .lst ds => .ok (!ds.isEmpty)
  | .scr ds => .ok (!ds.isEmpty)
  | .nst ds => .ok (!ds.isEmpty)
  | _ => .stk
def toT (f : DEnv → R D) : DEnv → R Bool := fun δ => (f δ).bind truD
theorem RepL.empty {K : PySem.W.Frag} {H : Hp} {Z : Addr → Prop} {ds : List D} {vs : List V} (r : RepL K H Z ds vs) : ds.isEmpty = vs.isEmpty := by
  cases ds with
  | nil => cases (show vs = [] from r); rfl
  | cons d ds => obtain ⟨v, u, rfl, _⟩ := r; rfl
theorem tru_rep {K : PySem.W.Frag} {H : Hp} {Z : Addr → Prop} {d : D} {v : V} {b : Bool} (r : Rep K H Z d v) (h : truD d = .ok b) : TruV K v H b := by
  unfold truD at h
  split at h
  · cases h; cases r.non; rfl
  · cases h; cases r.bl; rfl
  · cases h; cases r.int; rfl
  · split at h
    · rename_i q; cases h; cases r.str; exact ⟨q, rfl⟩
    · cases h
  · cases h
    obtain ⟨p, vs, rfl, t, rr⟩ := r
    exact .inr (.inl ⟨vs, t.sqT, by rw [rr.empty]⟩)
  · cases h
    obtain ⟨p, vs, rfl, t, _, rr⟩ := r
    exact .inl ⟨vs, SqL.of t, by rw [rr.empty]⟩
  · cases h
    obtain ⟨p, vs, rfl, t, rr⟩ := r
    exact .inl ⟨vs, t.sqL, by rw [rr.empty]⟩
  · cases h
    obtain ⟨p, vs, rfl, t, _, rr⟩ := r
    exact .inl ⟨vs, SqL.of t, by rw [rr.empty]⟩
  · cases h
theorem noerr_tru (d : D) (z : Exn) : truD d ≠ .err z := by
  intro h; unfold truD at h; repeat (first | contradiction | split at h)
theorem t_tru (F : Fit G S k X) (ha : DE G X W own lk a ta f) (he : ∀ whole, isTrue a X.env whole = (do let v ← whole; standAt a.pos; holding [v] (truthy v)) := by intro _; rfl) :
    DT G X W own a (fun σ H Q => ta σ H fun x H' => ∃ k, TruV G.K x H' k ∧ Q k H') (toT f) := by
  refine ⟨F.K ▸ pt_truth ha.1 he, ?_⟩
  intro Z₀ α δ σ H Q E hX q qe ns
  unfold toT at q qe ns
  refine ha.2 Z₀ α δ σ H _ E hX (fun d v H1 hf e1 r1 => ?_) (fun x H1 hf e1 => ?_) (R.notstk_bind ns)
  · rw [hf] at q ns
    simp only [R.bind_ok] at q ns
    cases hh : truD d with
    | ok b => exact ⟨b, tru_rep r1 hh, q b H1 hh e1⟩
    | err x => exact absurd hh (noerr_tru d x)
    | stk => exact absurd hh ns
  · rw [hf] at qe
    exact qe x H1 rfl e1

/-! ### and, or, not as tests -/
def DW (G : Cfg) (X : Cx) (W : WX) (own : List Nat) (e : Expr) (t : TT) (f : DEnv → R Bool) : Prop := PW X e t ∧ ST G W own t f
def andB (f g : DEnv → R Bool) : DEnv → R Bool := fun δ => (f δ).bind fun b => if b = true then g δ else .ok false
def orB (f g : DEnv → R Bool) : DEnv → R Bool := fun δ => (f δ).bind fun b => if b = true then .ok true else g δ
def notB (f : DEnv → R Bool) : DEnv → R Bool := fun δ => (f δ).bind fun b => .ok (!b)
theorem DW.dt {e : Expr} (h : DW G X W own e tA fA) : DT G X W own e tA fA := ⟨h.1.pt, h.2⟩
theorem w_and1 (ha : DT G X W own a tA fA) : DW G X W own (.BoolOp .And [a] pos) tA fA := ⟨pw_and1 ha.1, ha.2⟩
theorem w_or1 (ha : DT G X W own a tA fA) : DW G X W own (.BoolOp .Or [a] pos) tA fA := ⟨pw_or1 ha.1, ha.2⟩
theorem ST.and (ha : ST G W own tA fA) (hb : ST G W own tB' fB) : ST G W own (tAnd tA tB') (andB fA fB) := by
  intro Z₀ α δ σ H Q E hX q qe ns
  unfold andB at q qe ns
  refine ha Z₀ α δ σ H _ E hX (fun c H1 hf e1 => ?_) (fun x H1 hf e1 => ?_) (R.notstk_bind ns)
  · rw [hf] at q qe ns
    simp only [R.bind_ok] at q qe ns
    cases c with
    | true =>
      rw [if_pos rfl] at q qe ns ⊢
      exact hb Z₀ α δ σ H1 Q (E.ext e1) hX (fun d H' h e2 => q d H' h (e1.trans e2)) (fun x H' h e2 => qe x H' h (e1.trans e2)) ns
    | false =>
      rw [if_neg Bool.false_ne_true] at q ⊢
      exact q false H1 rfl e1
  · rw [hf] at qe
    exact qe x H1 rfl e1
theorem ST.or (ha : ST G W own tA fA) (hb : ST G W own tB' fB) : ST G W own (tOr tA tB') (orB fA fB) := by
  intro Z₀ α δ σ H Q E hX q qe ns
  unfold orB at q qe ns
  refine ha Z₀ α δ σ H _ E hX (fun c H1 hf e1 => ?_) (fun x H1 hf e1 => ?_) (R.notstk_bind ns)
  · rw [hf] at q qe ns
    simp only [R.bind_ok] at q qe ns
    cases c with
    | false =>
      rw [if_neg Bool.false_ne_true] at q qe ns ⊢
      exact hb Z₀ α δ σ H1 Q (E.ext e1) hX (fun d H' h e2 => q d H' h (e1.trans e2)) (fun x H' h e2 => qe x H' h (e1.trans e2)) ns
    | true =>
      rw [if_pos rfl] at q ⊢
      exact q true H1 rfl e1
  · rw [hf] at qe
    exact qe x H1 rfl e1
theorem w_and (ha : DT G X W own a tA fA) (hb : DW G X W own (.BoolOp .And (b :: rest) pos) tB' fB) : DW G X W own (.BoolOp .And (a :: b :: rest) pos) (tAnd tA tB') (andB fA fB) := ⟨pw_and ha.1 hb.1, ST.and ha.2 hb.2⟩
theorem w_or (ha : DT G X W own a tA fA) (hb : DW G X W own (.BoolOp .Or (b :: rest) pos) tB' fB) : DW G X W own (.BoolOp .Or (a :: b :: rest) pos) (tOr tA tB') (orB fA fB) := ⟨pw_or ha.1 hb.1, ST.or ha.2 hb.2⟩
theorem t_not (ha : DT G X W own a tA fA) : DT G X W own (.UnaryOp .Not a pos) (tNot tA) (notB fA) := by
  refine ⟨pt_not ha.1, ?_⟩
  intro Z₀ α δ σ H Q E hX q qe ns
  unfold notB at q qe ns
  refine ha.2 Z₀ α δ σ H _ E hX (fun c H1 hf e1 => ?_) (fun x H1 hf e1 => ?_) (R.notstk_bind ns)
  · rw [hf] at q
    exact q (!c) H1 rfl e1
  · rw [hf] at qe
    exact qe x H1 rfl e1
/-! ### .. as values -/
def andV (f g : DEnv → R D) : DEnv → R D := fun δ => (f δ).bind fun d => match d with
  | .bl true => g δ
  | .bl false => .ok (.bl false)
  | _ => .stk
def orV (f g : DEnv → R D) : DEnv → R D := fun δ => (f δ).bind fun d => match d with
  | .bl false => g δ
  | .bl true => .ok (.bl true)
  | _ => .stk
def notD : D → R D
  | .bl b => .ok (.bl (!b))
  | _ => .stk
theorem d_one {op : BoolOp} (h : DE G X W own lk a ta f) : DE G X W own lk (.BoolOp op [a] pos) ta f := ⟨pe_one h.1, h.2⟩
theorem d_and (ha : DE G X W own l1 a ta f) (hb : DE G X W own l2 (.BoolOp .And (b :: rest) pos) tb g) : DE G X W own l2 (.BoolOp .And (a :: b :: rest) pos) (tAndV ta tb) (andV f g) := by
  refine ⟨pe_and ha.1 hb.1, ?_⟩
  intro Z₀ α δ σ H Q E hX q qe ns
  unfold andV at q qe ns
  refine ha.2 Z₀ α δ σ H _ E hX (fun d v H1 hf e1 r1 => ?_) (fun x H1 hf e1 => ?_) (R.notstk_bind ns)
  · rw [hf] at q qe ns
    simp only [R.bind_ok] at q qe ns
    cases d with
    | bl c =>
      cases r1.bl
      refine ⟨c, rfl, ?_⟩
      cases c with
      | true =>
        rw [if_pos rfl]
        exact hb.2 Z₀ α δ σ H1 Q (E.ext e1) hX (fun d v H' h e2 => q d v H' h (e1.trans e2)) (fun x H' h e2 => qe x H' h (e1.trans e2)) ns
      | false =>
        rw [if_neg Bool.false_ne_true]
        exact q _ _ H1 rfl e1 rfl
    | _ => exact absurd rfl ns
  · rw [hf] at qe
    exact qe x H1 rfl e1
theorem d_or (ha : DE G X W own l1 a ta f) (hb : DE G X W own l2 (.BoolOp .Or (b :: rest) pos) tb g) : DE G X W own l2 (.BoolOp .Or (a :: b :: rest) pos) (tOrV ta tb) (orV f g) := by
  refine ⟨pe_or ha.1 hb.1, ?_⟩
  intro Z₀ α δ σ H Q E hX q qe ns
  unfold orV at q qe ns
  refine ha.2 Z₀ α δ σ H _ E hX (fun d v H1 hf e1 r1 => ?_) (fun x H1 hf e1 => ?_) (R.notstk_bind ns)
  · rw [hf] at q qe ns
    simp only [R.bind_ok] at q qe ns
    cases d with
    | bl c =>
      cases r1.bl
      refine ⟨c, rfl, ?_⟩
      cases c with
      | false =>
        rw [if_neg Bool.false_ne_true]
        exact hb.2 Z₀ α δ σ H1 Q (E.ext e1) hX (fun d v H' h e2 => q d v H' h (e1.trans e2)) (fun x H' h e2 => qe x H' h (e1.trans e2)) ns
      | true =>
        rw [if_pos rfl]
        exact q _ _ H1 rfl e1 rfl
    | _ => exact absurd rfl ns
  · rw [hf] at qe
    exact qe x H1 rfl e1
theorem noerr_not (d : D) (z : Exn) : notD d ≠ .err z := by
  intro h; unfold notD at h; repeat (first | contradiction | split at h)
theorem d_not (ha : DE G X W own l1 a ta f) : DE G X W own [] (.UnaryOp .Not a pos) (tNotV ta) (u1 notD f) := by
  refine ⟨pe_not ha.1, SE.imm0 (lk := l1) (SE.one (r := fun x H1 Q => ∃ c, x = .bl c ∧ Q (.bl (!c)) H1) ha.2 (fun H Z x d Q z hx q => ?_) noerr_not) (imm_u1 (by intro d c h; unfold notD at h; split at h <;> cases h; rfl))⟩
  obtain ⟨c, hc, q⟩ := q
  unfold notD at hc
  split at hc
  · cases hc; cases hx.bl
    exact ⟨_, rfl, q _ H (Same.refl H) rfl⟩
  · cases hc
def ifV (c : DEnv → R Bool) (f g : DEnv → R D) : DEnv → R D := fun δ => (c δ).bind fun b => if b = true then f δ else g δ
theorem SE.less (h : SE G W own l1 ta f) (hl : ∀ i ∈ l1, i ∈ l2) : SE G W own l2 ta f := by
  intro Z₀ α δ σ H Q E hX q qe ns
  exact h Z₀ α δ σ H Q E hX (fun d v H1 hf e1 r1 => q d v H1 hf e1 (r1.less ((E.ext e1).zsub minus_sub) (ZZ.mono fun i hi => minus_sub2 hl i hi))) qe ns
theorem SE.ifV {c : TT} {fc : DEnv → R Bool} (hc : ST G W own c fc) (ha : SE G W own l1 ta f) (hb : SE G W own l2 tb g) : SE G W own (l1 ++ l2) (tIf c ta tb) (ifV fc f g) := by
  intro Z₀ α δ σ H Q E hX q qe ns
  unfold DL.ifV at q qe ns
  refine hc Z₀ α δ σ H _ E hX (fun b H1 hf e1 => ?_) (fun x H1 hf e1 => ?_) (R.notstk_bind ns)
  · rw [hf] at q qe ns
    simp only [R.bind_ok] at q qe ns
    cases b with
    | true =>
      rw [if_pos rfl] at q qe ns ⊢
      exact (ha.less (l2 := l1 ++ l2) fun i h => List.mem_append_left _ h) Z₀ α δ σ H1 Q (E.ext e1) hX (fun d v H' h e2 => q d v H' h (e1.trans e2)) (fun x H' h e2 => qe x H' h (e1.trans e2)) ns
    | false =>
      rw [if_neg Bool.false_ne_true] at q qe ns ⊢
      exact (hb.less (l2 := l1 ++ l2) fun i h => List.mem_append_right _ h) Z₀ α δ σ H1 Q (E.ext e1) hX (fun d v H' h e2 => q d v H' h (e1.trans e2)) (fun x H' h e2 => qe x H' h (e1.trans e2)) ns
  · rw [hf] at qe
    exact qe x H1 rfl e1
theorem d_if {c : Expr} {tc : TT} {fc : DEnv → R Bool} (hc : DT G X W own c tc fc) (ha : DE G X W own l1 a ta f) (hb : DE G X W own l2 b tb g) : DE G X W own (l1 ++ l2) (.IfExp c a b pos) (tIf tc ta tb) (ifV fc f g) :=
  ⟨pe_ifExp hc.1 ha.1 hb.1, SE.ifV hc.2 ha.2 hb.2⟩
/-- a < b < c -/
def chainD (h h' : D → D → R D) (f g w : DEnv → R D) : DEnv → R D := fun δ => (f δ).bind fun d => (g δ).bind fun e => (h d e).bind fun r => match r with
  | .bl true => (w δ).bind fun z => h' e z
  | .bl false => .ok (.bl false)
  | _ => .stk
theorem d_chain {op op' : CmpOp} {h h' : D → D → R D} {r r' : R2} {c : Expr} {tc : TE} {w : DEnv → R D} (F : Fit G S k X) (cr : CmpRule G op h r) (cr' : CmpRule G op' h' r') (ha : DE G X W own l1 a ta f) (hb : DE G X W own l2 b tb g) (hc : DE G X W own l3 c tc w)
    (hm : lastMarks [op, op'] [b, c] = false := by rfl) (hh : S.hot = false := by rfl) :
    DE G X W own [] (.Compare a [op, op'] [b, c] pos) (tChain r r' ta tb tc) (chainD h h' f g w) := by
  refine ⟨pe_chain (cr.ho F hh) (cr'.ho F hh) ha.1 hb.1 hc.1 hm, ?_⟩
  intro Z₀ α δ σ H Q E hX q qe ns
  unfold chainD at q qe ns
  refine ha.2 Z₀ α δ σ H _ E hX (fun d v H1 hf e1 r1 => ?_) (fun x H1 hf e1 => ?_) (R.notstk_bind ns)
  · rw [hf] at q qe ns
    simp only [R.bind_ok] at q qe ns
    have E1 := E.ext e1
    refine hb.2 Z₀ α δ σ H1 _ E1 hX (fun d2 v2 H2 hg e2 r2 => ?_) (fun x H2 hg e2 => ?_) (R.notstk_bind ns)
    · rw [hg] at q qe ns
      simp only [R.bind_ok] at q qe ns
      have E2 := E1.ext e2
      have z1 : ZOk H1 (ZZ Z₀ α (minus own l1)) := E1.zsub minus_sub
      have z2 : ZOk H2 (ZZ Z₀ α (minus own l2)) := E2.zsub minus_sub
      have r1' := (r1.ext z1 e2).less (z1.ext e2) (ZZ.mono fun i hi => minus_l (l2 := l2) hi)
      have r2' := r2.less z2 (ZZ.mono fun i hi => minus_r (l1 := l1) hi)
      refine cr.os H2 _ v v2 d d2 _ (E2.zsub minus_sub) r1' r2' ?_
      cases hh2 : h d d2 with
      | ok c =>
        obtain ⟨bb, rfl⟩ := cr.bl _ _ _ hh2
        refine ⟨_, rfl, fun v3 H3 e3 r3 => ?_⟩
        cases r3.bl
        refine ⟨bb, rfl, ?_⟩
        rw [hh2] at q qe ns
        simp only [R.bind_ok] at q qe ns
        cases bb with
        | true =>
          rw [if_pos rfl]
          have E3 := E2.ext e3
          refine hc.2 Z₀ α δ σ H3 _ E3 hX (fun d4 v4 H4 hw e4 r4 => ?_) (fun x H4 hw e4 => ?_) (R.notstk_bind ns)
          · rw [hw] at q ns
            simp only [R.bind_ok] at q ns
            have E4 := E3.ext e4
            have r2'' := (r2'.ext (E2.zsub minus_sub) (e3.trans e4)).less ((E2.zsub minus_sub).ext (e3.trans e4)) (ZZ.mono (own' := minus own ((l1 ++ l2) ++ l3)) fun i hi => minus_l hi)
            have r4' := r4.less (E4.zsub minus_sub) (ZZ.mono (own' := minus own ((l1 ++ l2) ++ l3)) fun i hi => minus_r hi)
            refine cr'.os H4 _ v2 v4 d2 d4 _ (E4.zsub minus_sub) r2'' r4' ?_
            cases hh4 : h' d2 d4 with
            | ok c4 =>
              obtain ⟨b4, rfl⟩ := cr'.bl _ _ _ hh4
              exact ⟨_, rfl, fun v5 H5 e5 r5 => q _ v5 H5 hh4 ((((e1.trans e2).trans e3).trans e4).trans e5) r5.bl⟩
            | err x => exact absurd hh4 (cr'.ne _ _ x)
            | stk => exact absurd hh4 ns
          · rw [hw] at qe
            exact qe x H4 rfl (((e1.trans e2).trans e3).trans e4)
        | false =>
          rw [if_neg Bool.false_ne_true]
          exact q _ _ H3 rfl ((e1.trans e2).trans e3) rfl
      | err x => exact absurd hh2 (cr.ne _ _ x)
      | stk => rw [hh2] at ns; exact absurd rfl ns
    · rw [hg] at qe
      exact qe x H2 rfl (e1.trans e2)
  · rw [hf] at qe
    exact qe x H1 rfl e1
theorem t_bl {e : Expr} {t : TE} (h : DE G X W own lk e t f) (he : ∀ whole, isTrue e X.env whole = (do let v ← whole; standAt e.pos; holding [v] (truthy v)) := by intro _; rfl) : DT G X W own e (tB t) (toB f) := by
  refine ⟨pt_val h.1 he, ?_⟩
  exact ST.bl h.2
/-- x is None -/
theorem d_isN {j : Nat} {p' : Pos} (ha : DE G X W own l1 a ta f) : DE G X W own [] (.Compare a [.Is] [.Constant .none j p'] pos) (tIsN ta) (u1 isND f) := by
  refine ⟨pe_cmp (pc_isN ha.1) rfl, SE.imm0 (lk := l1) (SE.one (r := fun x H1 Q => Q (.bl (decide (x = .non))) H1) ha.2 (fun H Z x d Q z hx q => ?_) ?_) (imm_u1 ?_)⟩
  · obtain ⟨c, hc, q⟩ := q
    unfold isND at hc
    split at hc
    · cases hc; cases hx.non; exact q _ H (Same.refl H) rfl
    · cases hc
      have : x ≠ .non := by
        rintro rfl
        rename_i hd
        cases d with
        | non => exact hd rfl
        | bl _ => cases hx
        | int _ => cases hx
        | str _ => cases hx
        | tup _ => obtain ⟨_, _, e, _⟩ := hx; cases e
        | lst _ => obtain ⟨_, _, e, _⟩ := hx; cases e
        | scr _ => obtain ⟨_, _, e, _⟩ := hx; cases e
        | nst _ => obtain ⟨_, _, e, _⟩ := hx; cases e
        | dic _ _ => obtain ⟨_, _, _, e, _⟩ := hx; cases e
        | ndc _ _ => obtain ⟨_, _, _, e, _⟩ := hx; cases e
        | obj _ _ _ => obtain ⟨_, _, _, e, _⟩ := hx; cases e
      rw [decide_eq_false this]
      exact q _ H (Same.refl H) rfl
  · intro d z h; unfold isND at h; repeat (first | contradiction | split at h)
  · intro d c h; unfold isND at h; split at h <;> cases h <;> rfl
theorem d_notN {j : Nat} {p' : Pos} (ha : DE G X W own l1 a ta f) : DE G X W own [] (.Compare a [.IsNot] [.Constant .none j p'] pos) (tNotN ta) (u1 notND f) := by
  refine ⟨pe_cmp (pc_notN ha.1) rfl, SE.imm0 (lk := l1) (SE.one (r := fun x H1 Q => Q (.bl (!decide (x = .non))) H1) ha.2 (fun H Z x d Q z hx q => ?_) ?_) (imm_u1 ?_)⟩
  · obtain ⟨c, hc, q⟩ := q
    unfold notND at hc
    split at hc
    · cases hc; cases hx.non; exact q _ H (Same.refl H) rfl
    · cases hc
      have : x ≠ .non := by
        rintro rfl
        rename_i hd
        cases d with
        | non => exact hd rfl
        | bl _ => cases hx
        | int _ => cases hx
        | str _ => cases hx
        | tup _ => obtain ⟨_, _, e, _⟩ := hx; cases e
        | lst _ => obtain ⟨_, _, e, _⟩ := hx; cases e
        | scr _ => obtain ⟨_, _, e, _⟩ := hx; cases e
        | nst _ => obtain ⟨_, _, e, _⟩ := hx; cases e
        | dic _ _ => obtain ⟨_, _, _, e, _⟩ := hx; cases e
        | ndc _ _ => obtain ⟨_, _, _, e, _⟩ := hx; cases e
        | obj _ _ _ => obtain ⟨_, _, _, e, _⟩ := hx; cases e
      rw [decide_eq_false this]
      exact q _ H (Same.refl H) rfl
  · intro d z h; unfold notND at h; repeat (first | contradiction | split at h)
  · intro d c h; unfold notND at h; split at h <;> cases h <;> rfl
end
end DL

set_option maxRecDepth 100001
set_option maxHeartbeats 1000001
namespace DL
open PySem PySem.Spec PyProof.Rows L2

section
variable {G : Cfg} {S : Sco} {k : Nat} {X : Cx} {W : WX} {own lk l1 l2 l3 : List Nat} {pos : Pos} {a b : Expr} {ta tb : TE} {f g : DEnv → R D} {rest : List Expr}

/-! ### items -/
def idxD : D → D → R D
  | .lst ds, .int i => match atI ds i with | some d => .ok d | none => .stk
  | .tup ds, .int i => match atI ds i with | some d => .ok d | none => .stk
  | .scr ds, .int i => match atI ds i with | some d => .ok d | none => .stk
  | .str z, .int i => if z.length ≤ sizeLine then (match atI z.cps.toList i with | some c => .ok (.str ⟨#[c]⟩) | none => .stk) else .stk
  | _, _ => .stk
theorem noerr_idx (d e : D) (z : Exn) : idxD d e ≠ .err z := by
  intro h; unfold idxD at h; repeat (first | contradiction | split at h)
theorem atI_rep {K : PySem.W.Frag} {H : Hp} {Z : Addr → Prop} {ds : List D} {vs : List V} {i : Int} {d : D} (r : RepL K H Z ds vs) (h : atI ds i = some d) : ∃ v, atI vs i = some v ∧ Rep K H Z d v := by
  unfold atI at h ⊢
  rw [r.len]
  cases e : ixN ds.length i with
  | none => rw [e] at h; cases h
  | some j =>
    rw [e] at h
    exact r.get h
theorem os_idx {K : PySem.W.Frag} : OpS K idxD (rIx K) := by
  intro H Z x y d e Q z hx hy q
  obtain ⟨c, hc, q⟩ := q
  unfold idxD at hc
  split at hc
  · split at hc
    · rename_i h; cases hc
      obtain ⟨p, vs, rfl, t, _, rr⟩ := hx
      cases hy.int
      obtain ⟨v, h1, h2⟩ := atI_rep rr h
      exact .inl ⟨p, vs, _, v, rfl, rfl, SqL.of t, h1, q v H (Same.refl H) h2⟩
    · cases hc
  · split at hc
    · rename_i h; cases hc
      obtain ⟨p, vs, rfl, t, rr⟩ := hx
      cases hy.int
      obtain ⟨v, h1, h2⟩ := atI_rep rr h
      exact .inr (.inl ⟨p, vs, _, v, rfl, rfl, t.sqT, h1, q v H (Same.refl H) h2⟩)
    · cases hc
  · split at hc
    · rename_i h; cases hc
      obtain ⟨p, vs, rfl, t, rr⟩ := hx
      cases hy.int
      obtain ⟨v, h1, h2⟩ := atI_rep rr h
      exact .inl ⟨p, vs, _, v, rfl, rfl, t.sqL, h1, q v H (Same.refl H) h2⟩
    · cases hc
  · split at hc
    · rename_i hz
      split at hc
      · rename_i h; cases hc
        cases hx.str; cases hy.int
        exact .inr (.inr ⟨_, _, _, rfl, rfl, hz, h, q _ H (Same.refl H) rfl⟩)
      · cases hc
    · cases hc
  · cases hc
theorem d_ix (F : Fit G S k X) (ha : DE G X W own l1 a ta f) (hb : DE G X W own l2 b tb g) (hs : PlainIx b := by exact fun _ _ => rfl) : DE G X W own (l1 ++ l2) (.Subscript a b pos) (tOp (rIx G.K) ta tb) (b2 idxD f g) :=
  ⟨pe_ix (F.K ▸ ix_seq) ha.1 hb.1 hs, SE.op ha.2 hb.2 os_idx noerr_idx⟩
/-- an item of a name's own list: the list itself does not leak -/
theorem SE.ixN {i : Nat} (hb : SE G W own l2 tb g) : SE G W own l2 (tOp (rIx G.K) (tVar i) tb) (b2 idxD (nmD i) g) := by
  intro Z₀ α δ σ H Q E hX q qe ns
  unfold b2 at q qe ns
  cases hd : nmD i δ with
  | err x => unfold nmD at hd; repeat (first | contradiction | split at hd)
  | stk => rw [hd] at ns; exact absurd rfl ns
  | ok d =>
    rw [hd] at q qe ns
    simp only [R.bind_ok] at q qe ns
    have hd' : δ[i]? = some (some d) := by
      unfold nmD at hd
      split at hd
      · rename_i h; cases hd; exact h
      · cases hd
    by_cases hi : i ∈ own
    · obtain ⟨d', v0, h1, h2, h3⟩ := E.top i hi
      rw [hd'] at h1; cases h1
      refine ⟨_, h2, hb Z₀ α δ σ H _ E hX (fun e v H1 hg e1 r1 => ?_) (fun x H1 hg e1 => ?_) (R.notstk_bind ns)⟩
      · rw [hg] at q ns
        simp only [R.bind_ok] at q ns
        have h4 := h3.ext e1
        cases d with
        | lst ds =>
          obtain ⟨p, vs, rfl, _, hh, rr⟩ := h4
          unfold idxD at q ns
          cases e with
          | int j =>
            simp only at q ns
            cases hj : atI ds j with
            | none => rw [hj] at ns; exact absurd rfl ns
            | some c =>
              rw [hj] at q
              cases r1.int
              obtain ⟨w, w1, w2⟩ := atI_rep rr hj
              exact .inl ⟨_, vs, _, w, rfl, rfl, SqL.of hh, w1, q c w H1 rfl e1 (w2.less (E.ext e1).zok (ZZ.mono minus_sub))⟩
          | _ => exact absurd rfl ns
        | dic _ _ => unfold idxD at ns; exact absurd rfl ns
        | obj _ _ _ => unfold idxD at ns; exact absurd rfl ns
        | nst _ => unfold idxD at ns; exact absurd rfl ns
        | ndc _ _ => unfold idxD at ns; exact absurd rfl ns
        | non => unfold idxD at ns; exact absurd rfl ns
        | bl _ => unfold idxD at ns; exact absurd rfl ns
        | int _ => unfold idxD at ns; exact absurd rfl ns
        | str z =>
          refine os_idx H1 (ZZ Z₀ α (minus own l2)) v0 v (.str z) e Q ((E.ext e1).zsub minus_sub) h4.2 r1 ?_
          cases hh : idxD (.str z) e with
          | ok c => exact ⟨c, rfl, fun v' H' e2 r2 => q c v' H' hh (e1.trans e2) r2⟩
          | err x => exact absurd hh (noerr_idx _ _ x)
          | stk => exact absurd hh ns
        | _ => exact False.elim h4
      · rw [hg] at qe
        exact qe x H1 rfl e1
    · have h := SE.op (h := idxD) (SE.nm0 (G := G) (W := W) hi) hb os_idx noerr_idx
      refine h Z₀ α δ σ H Q E hX (fun c v H' hc e1 r1 => ?_) (fun x H' hc e1 => ?_) ?_
      · dsimp only at hc
        rw [hd] at hc
        exact q c v H' hc e1 (by simpa using r1)
      · dsimp only at hc
        rw [hd] at hc
        exact qe x H' hc e1
      · dsimp only
        rw [hd]
        exact ns
theorem d_ixN {i : Nat} {x : PySem.Str} {p1 : Pos} (F : Fit G S k X) (hN : S.N[i]? = some x) (hv : Vis S.sc x) (hb : DE G X W own l2 b tb g) (hs : PlainIx b := by exact fun _ _ => rfl) (h1 : (x == ("__debug__" : PySem.Str)) = false := by decide) (h2 : (x == ("__classdict__" : PySem.Str)) = false := by decide) :
    DE G X W own l2 (.Subscript (.Name x p1) b pos) (tOp (rIx G.K) (tVar i) tb) (b2 idxD (nmD i) g) :=
  ⟨pe_ix (F.K ▸ ix_seq) (pe_var (by rw [F.N]; exact hN) (by rw [F.sc]; exact hv) h1 h2) hb.1 hs, SE.ixN hb.2⟩

/-! ### slices -/
def DO (G : Cfg) (X : Cx) (W : WX) (own : List Nat) (e : Option Expr) (t : TO) (f : DEnv → R (Option Int)) : Prop := PO X e t ∧
  ∀ (Z₀ : Addr → Prop) (α : Nat → List Addr) (δ : DEnv) (σ : L2.St) (H : Hp) (Q : Option Int → Hp → Prop), EnvOk G.K Z₀ α own δ σ H → G.xi σ →
  (∀ d H', f δ = .ok d → Ext H H' → Q d H') →
  (∀ x H', f δ = .err x → Ext H H' → W (G.cv x.cls) none σ H') → f δ ≠ .stk → t σ H Q
def noP : DEnv → R (Option Int) := fun _ => .ok none
def someP (f : DEnv → R D) : DEnv → R (Option Int) := fun δ => (f δ).bind fun d => match d with
  | .int i => .ok (some i)
  | _ => .stk
theorem o_none : DO G X W own none tNoPart noP := ⟨po_none, fun Z₀ α δ σ H Q E hX q qe ns => q none H rfl (Same.refl H)⟩
theorem o_some (h : DE G X W own lk a ta f) : DO G X W own (some a) (tPart ta) (someP f) := by
  refine ⟨po_some h.1, fun Z₀ α δ σ H Q E hX q qe ns => ?_⟩
  unfold someP at q qe ns
  refine h.2 Z₀ α δ σ H _ E hX (fun d v H1 hf e1 r1 => ?_) (fun x H1 hf e1 => ?_) (R.notstk_bind ns)
  · rw [hf] at q ns
    simp only [R.bind_ok] at q ns
    cases d with
    | int i => cases r1.int; exact ⟨i, rfl, q _ H1 rfl e1⟩
    | _ => exact absurd rfl ns
  · rw [hf] at qe
    exact qe x H1 rfl e1
def cutL {α : Type} (xs : List α) (lo hi : Option Int) : List α := (xs.drop (HT.sIx xs.length 0 lo)).take (HT.sIx xs.length xs.length hi - HT.sIx xs.length 0 lo)
def cutD (d : D) (lo hi : Option Int) : R D := match d with
  | .lst ds => .ok (.lst (cutL ds lo hi))
  | .scr ds => .ok (.lst (cutL ds lo hi))
  | .tup ds => .ok (.tup (cutL ds lo hi))
  | .str z => if z.length ≤ sizeLine then .ok (.str (cutS z lo hi)) else .stk
  | _ => .stk
def cutLD (d : D) (lo hi : Option Int) : R D := match d with
  | .lst ds => .ok (.lst (cutL ds lo hi))
  | .scr ds => .ok (.lst (cutL ds lo hi))
  | _ => .stk
def sl3 (h : D → Option Int → Option Int → R D) (f : DEnv → R D) (l u : DEnv → R (Option Int)) : DEnv → R D := fun δ => (f δ).bind fun d => (l δ).bind fun lo => (u δ).bind fun hi => h d lo hi
def rSlA3 (K : PySem.W.Frag) : V → Option Int → Option Int → Hp → VK → Prop := fun x lo hi H Q => rSlL K x lo hi H Q ∨ rSlA K x lo hi H Q ∨ rSlS x lo hi H Q
theorem RepL.cut {K : PySem.W.Frag} {H : Hp} {Z : Addr → Prop} {ds : List D} {vs : List V} {lo hi : Option Int} (r : RepL K H Z ds vs) : RepL K H Z (cutL ds lo hi) (cutV vs lo hi) := by
  unfold cutL cutV
  rw [r.len]
  exact (r.drop _).take _
theorem d_slice (F : Fit G S k X) {lo hi : Option Expr} {tl th : TO} {fl fh : DEnv → R (Option Int)} {p2 : Pos} (ha : DE G X W own l1 a ta f) (hl : DO G X W own lo tl fl) (hh : DO G X W own hi th fh) :
    DE G X W own l1 (.Subscript a (.Slice lo hi none p2) pos) (tSl (rSlA3 G.K) ta tl th) (sl3 cutD f fl fh) := by
  refine ⟨pe_slice (F.K ▸ (sl_list.or (sl_tupA.or sl_str))) ha.1 hl.1 hh.1, ?_⟩
  intro Z₀ α δ σ H Q E hX q qe ns
  unfold sl3 at q qe ns
  refine ha.2 Z₀ α δ σ H _ E hX (fun d v H1 hf e1 r1 => ?_) (fun x H1 hf e1 => ?_) (R.notstk_bind ns)
  · rw [hf] at q qe ns
    simp only [R.bind_ok] at q qe ns
    have E1 := E.ext e1
    refine hl.2 Z₀ α δ σ H1 _ E1 hX (fun lo' H2 hg e2 => ?_) (fun x H2 hg e2 => ?_) (R.notstk_bind ns)
    · rw [hg] at q qe ns
      simp only [R.bind_ok] at q qe ns
      have E2 := E1.ext e2
      refine hh.2 Z₀ α δ σ H2 _ E2 hX (fun hi' H3 hw e3 => ?_) (fun x H3 hw e3 => ?_) (R.notstk_bind ns)
      · rw [hw] at q qe ns
        simp only [R.bind_ok] at q qe ns
        have E3 := E2.ext e3
        have z : ZOk H3 (ZZ Z₀ α (minus own l1)) := E3.zsub minus_sub
        have r3 := r1.ext (E1.zsub minus_sub) (e2.trans e3)
        have e123 := (e1.trans e2).trans e3
        unfold cutD at q ns
        cases d with
        | lst ds =>
          obtain ⟨p, vs, rfl, t, _, rr⟩ := r3
          exact .inl ⟨p, vs, rfl, SqL.of t, fun p' hp => q _ _ _ rfl (e123.trans (ext_upd hp)) ⟨p', _, rfl, upd_same, z.new hp, repL_upd z hp rr.cut⟩⟩
        | scr ds =>
          obtain ⟨p, vs, rfl, t, rr⟩ := r3
          exact .inl ⟨p, vs, rfl, t.sqL, fun p' hp => q _ _ _ rfl (e123.trans (ext_upd hp)) ⟨p', _, rfl, upd_same, z.new hp, repL_upd z hp rr.cut⟩⟩
        | tup ds =>
          obtain ⟨p, vs, rfl, t, rr⟩ := r3
          refine .inr (.inl ⟨p, vs, rfl, t.sqT, fun hw => ?_, fun _ p' hp => q _ _ _ rfl (e123.trans (ext_upd hp)) ⟨p', _, rfl, .inl ⟨.inl upd_same, z.new hp⟩, repL_upd z hp rr.cut⟩⟩)
          have ec : cutL ds lo' hi' = ds := by
            unfold cutL
            rw [← rr.len, hw.1, hw.2]
            simp [rr.len]
          simp only [ec] at q
          exact q _ _ _ rfl e123 ⟨p, vs, rfl, t, rr⟩
        | str zz =>
          simp only at q ns
          cases r3.str
          by_cases hz : zz.length ≤ sizeLine
          · rw [if_pos hz] at q
            exact .inr (.inr ⟨zz, rfl, hz, q _ _ H3 rfl e123 rfl⟩)
          · rw [if_neg hz] at ns; exact absurd rfl ns
        | _ => exact absurd rfl ns
      · rw [hw] at qe
        exact qe x H3 rfl ((e1.trans e2).trans e3)
    · rw [hg] at qe
      exact qe x H2 rfl (e1.trans e2)
  · rw [hf] at qe
    exact qe x H1 rfl e1
/-- a slice of a list: a new list -/
theorem d_sliceL (F : Fit G S k X) {lo hi : Option Expr} {tl th : TO} {fl fh : DEnv → R (Option Int)} {p2 : Pos} (ha : DE G X W own l1 a ta f) (hl : DO G X W own lo tl fl) (hh : DO G X W own hi th fh) :
    DF G X W own l1 (.Subscript a (.Slice lo hi none p2) pos) (tSl (rSlL G.K) ta tl th) (sl3 cutLD f fl fh) := by
  refine ⟨pe_slice (F.K ▸ sl_list) ha.1 hl.1 hh.1, ?_⟩
  intro Z₀ α δ σ H Q E hX q qe ns
  unfold sl3 at q qe ns
  refine ha.2 Z₀ α δ σ H _ E hX (fun d v H1 hf e1 r1 => ?_) (fun x H1 hf e1 => ?_) (R.notstk_bind ns)
  · rw [hf] at q qe ns
    simp only [R.bind_ok] at q qe ns
    have E1 := E.ext e1
    refine hl.2 Z₀ α δ σ H1 _ E1 hX (fun lo' H2 hg e2 => ?_) (fun x H2 hg e2 => ?_) (R.notstk_bind ns)
    · rw [hg] at q qe ns
      simp only [R.bind_ok] at q qe ns
      have E2 := E1.ext e2
      refine hh.2 Z₀ α δ σ H2 _ E2 hX (fun hi' H3 hw e3 => ?_) (fun x H3 hw e3 => ?_) (R.notstk_bind ns)
      · rw [hw] at q qe ns
        simp only [R.bind_ok] at q qe ns
        have E3 := E2.ext e3
        have z : ZOk H3 (ZZ Z₀ α (minus own l1)) := E3.zsub minus_sub
        have r3 := r1.ext (E1.zsub minus_sub) (e2.trans e3)
        have e123 := (e1.trans e2).trans e3
        unfold cutLD at q ns
        cases d with
        | lst ds =>
          obtain ⟨p, vs, rfl, t, _, rr⟩ := r3
          exact ⟨p, vs, rfl, SqL.of t, fun p' hp => q _ _ _ _ rfl (e123.trans (ext_upd hp)) (New.upd (e123.free hp) hp rr.cut)⟩
        | scr ds =>
          obtain ⟨p, vs, rfl, t, rr⟩ := r3
          exact ⟨p, vs, rfl, t.sqL, fun p' hp => q _ _ _ _ rfl (e123.trans (ext_upd hp)) (New.upd (e123.free hp) hp rr.cut)⟩
        | _ => exact absurd rfl ns
      · rw [hw] at qe
        exact qe x H3 rfl ((e1.trans e2).trans e3)
    · rw [hg] at qe
      exact qe x H2 rfl (e1.trans e2)
  · rw [hf] at qe
    exact qe x H1 rfl e1

/-! ### arguments, displays -/
variable {es : List Expr} {t tr : TA} {fs gs : DEnv → R (List D)} {e : Expr} {te : TE}
def nilA : DEnv → R (List D) := fun _ => .ok []
def consA (f : DEnv → R D) (g : DEnv → R (List D)) : DEnv → R (List D) := fun δ => (f δ).bind fun d => (g δ).bind fun ds => .ok (d :: ds)
theorem a_nil : DA G X W own [] [] tNil nilA := ⟨pa_nil, fun Z₀ α δ σ H Q E hX q qe ns => q [] [] H rfl (Same.refl H) rfl⟩
theorem a_cons (ha : DE G X W own l1 e te f) (hr : DA G X W own l2 es tr gs) (hs : starEach (e :: es) X.env = (false, eval e X.env) :: starEach es X.env := by rfl) : DA G X W own (l1 ++ l2) (e :: es) (tCons te tr) (consA f gs) := by
  refine ⟨pa_cons ha.1 hr.1 hs, ?_⟩
  intro Z₀ α δ σ H Q E hX q qe ns
  unfold consA at q qe ns
  refine ha.2 Z₀ α δ σ H _ E hX (fun d v H1 hf e1 r1 => ?_) (fun x H1 hf e1 => ?_) (R.notstk_bind ns)
  · rw [hf] at q qe ns
    simp only [R.bind_ok] at q qe ns
    have E1 := E.ext e1
    refine hr.2 Z₀ α δ σ H1 _ E1 hX (fun ds vs H2 hg e2 r2 => ?_) (fun x H2 hg e2 => ?_) (R.notstk_bind ns)
    · rw [hg] at q
      have E2 := E1.ext e2
      have z1 : ZOk H1 (ZZ Z₀ α (minus own l1)) := E1.zsub minus_sub
      have z2 : ZOk H2 (ZZ Z₀ α (minus own l2)) := E2.zsub minus_sub
      have r1' := (r1.ext z1 e2).less (z1.ext e2) (ZZ.mono fun i hi => minus_l (l2 := l2) hi)
      have r2' := r2.less z2 (ZZ.mono fun i hi => minus_r (l1 := l1) hi)
      exact q (d :: ds) (v :: vs) H2 rfl (e1.trans e2) ⟨v, vs, rfl, r1', r2'⟩
    · rw [hg] at qe
      exact qe x H2 rfl (e1.trans e2)
  · rw [hf] at qe
    exact qe x H1 rfl e1
def tupA (g : DEnv → R (List D)) : DEnv → R D := fun δ => (g δ).bind fun ds => if ds.length ≤ sizeLine then .ok (.tup ds) else .stk
def lstA (g : DEnv → R (List D)) : DEnv → R D := fun δ => (g δ).bind fun ds => if ds.length ≤ sizeLine then .ok (.lst ds) else .stk
theorem d_tup {x1 : Nat} (h : DA G X W own l1 es t fs) : DE G X W own l1 (.Tuple es x1 pos) (tTup t) (tupA fs) := by
  refine ⟨pe_tup h.1, ?_⟩
  intro Z₀ α δ σ H Q E hX q qe ns
  unfold tupA at q qe ns
  refine h.2 Z₀ α δ σ H _ E hX (fun ds vs H1 hf e1 r1 => ?_) (fun x H1 hf e1 => ?_) (R.notstk_bind ns)
  · rw [hf] at q ns
    simp only [R.bind_ok] at q ns
    have z : ZOk H1 (ZZ Z₀ α (minus own l1)) := (E.ext e1).zsub minus_sub
    by_cases hz : ds.length ≤ sizeLine
    · rw [if_pos hz] at q
      exact ⟨by rw [r1.len]; exact hz, fun p hp => q _ _ _ rfl (e1.trans (ext_upd hp)) ⟨p, vs, rfl, .inl ⟨.inl upd_same, z.new hp⟩, repL_upd z hp r1⟩⟩
    · rw [if_neg hz] at ns; exact absurd rfl ns
  · rw [hf] at qe
    exact qe x H1 rfl e1
theorem d_lst (h : DA G X W own l1 es t fs) : DF G X W own l1 (.List es pos) (tLst t) (lstA fs) := by
  refine ⟨pe_lst h.1, ?_⟩
  intro Z₀ α δ σ H Q E hX q qe ns
  unfold lstA at q qe ns
  refine h.2 Z₀ α δ σ H _ E hX (fun ds vs H1 hf e1 r1 => ?_) (fun x H1 hf e1 => ?_) (R.notstk_bind ns)
  · rw [hf] at q ns
    simp only [R.bind_ok] at q ns
    have z : ZOk H1 (ZZ Z₀ α (minus own l1)) := (E.ext e1).zsub minus_sub
    by_cases hz : ds.length ≤ sizeLine
    · rw [if_pos hz] at q
      exact ⟨by rw [r1.len]; exact hz, fun p hp => q _ _ _ _ rfl (e1.trans (ext_upd hp)) (New.upd (e1.free hp) hp r1)⟩
    · rw [if_neg hz] at ns; exact absurd rfl ns
  · rw [hf] at qe
    exact qe x H1 rfl e1
theorem DF.de {lk : List Nat} (h : DF G X W own lk e te f) : DE G X W own lk e te f := ⟨h.1, h.2.se⟩
theorem DE.chk {lk : List Nat} (h : DE G X W own lk e te f) : DE G X W own [] e te (chkImm f) := ⟨h.1, h.2.chk⟩
theorem DF.chk {lk : List Nat} (h : DF G X W own lk e te f) : DF G X W own [] e te (chkFlat f) := ⟨h.1, h.2.chk⟩

/-! ### calls of built-ins -/
def CallS (K : PySem.W.Frag) (h : List D → R D) (r : List V → Hp → VK → Prop) : Prop := ∀ (H : Hp) (Z : Addr → Prop) (vs : List V) (ds : List D) (Q : VK), ZOk H Z → RepL K H Z ds vs → (∃ c, h ds = .ok c ∧ ∀ v H', Ext H H' → Rep K H' Z c v → Q v H') → r vs H Q
def callF (h : List D → R D) (g : DEnv → R (List D)) : DEnv → R D := fun δ => (g δ).bind h
theorem SA.call (ha : SA G W own lk t fs) {h : List D → R D} {r : List V → Hp → VK → Prop} (cs : CallS G.K h r) (ne : ∀ d z, h d ≠ .err z) : SE G W own lk (tCB r t) (callF h fs) := by
  intro Z₀ α δ σ H Q E hX q qe ns
  unfold callF at q qe ns
  refine ha Z₀ α δ σ H _ E hX (fun ds vs H1 hf e1 r1 => ?_) (fun x H1 hf e1 => ?_) (R.notstk_bind ns)
  · rw [hf] at q ns
    simp only [R.bind_ok] at q ns
    refine cs H1 _ vs ds Q ((E.ext e1).zsub minus_sub) r1 ?_
    cases hh : h ds with
    | ok c => exact ⟨c, rfl, fun v H' e2 r2 => q c v H' hh (e1.trans e2) r2⟩
    | err x => exact absurd hh (ne _ x)
    | stk => exact absurd hh ns
  · rw [hf] at qe
    exact qe x H1 rfl e1
theorem imm_call {h : List D → R D} (hi : ∀ d c, h d = .ok c → imm c = true) : ∀ δ d, callF h fs δ = .ok d → imm d = true := by
  intro δ d q
  unfold callF at q
  cases e1 : fs δ with
  | ok x => rw [e1] at q; exact hi _ _ q
  | err _ => rw [e1] at q; cases q
  | stk => rw [e1] at q; cases q
end
end DL

set_option maxRecDepth 100001
set_option maxHeartbeats 1000001
namespace DL
open PySem PySem.Spec PyProof.Rows L2

section
variable {G : Cfg} {S : Sco} {k : Nat} {X : Cx} {W : WX} {own lk l1 l2 l3 : List Nat} {pos p : Pos} {e a b : Expr} {es : List Expr} {t : TA} {fs : DEnv → R (List D)} {x : PySem.Str}

theorem fit_gl (F : Fit G S k X) (hg : S.sc.names.lookup x = some .globalImplicit) : Gl X x := by show X.env.scope.names.lookup x = _; rw [F.sc]; exact hg
/-- f(e, ..), f a built-in function -/
theorem d_callB {id : String} {r : List V → Hp → VK → Prop} {h : List D → R D} (F : Fit G S k X) (hc : CallR X (.builtin id) r) (cs : CallS G.K h r) (ne : ∀ d z, h d ≠ .err z) (hg : S.sc.names.lookup x = some .globalImplicit) (hm : G.mg x = none) (hv : bootBuiltins x = some (.builtin id)) (ha : DA G X W own lk (e :: es) t fs)
    (hn : x ≠ "__name__" := by decide) (hdb : (x == ("__debug__" : PySem.Str)) = false := by decide) (he : starEach (e :: es) X.env = (false, eval e X.env) :: starEach es X.env := by rfl) (hpl : (backTo pos (starEach es X.env)).any (·.1) = false := by rfl) :
    DE G X W own lk (.Call (.Name x p) (e :: es) [] pos) (tCB r t) (callF h fs) :=
  ⟨pe_callB hc (fit_gl F hg) (by rw [F.mg]; exact hm) hv ha.1 hn hdb he hpl, ha.2.call cs ne⟩
theorem d_callTy {T : String} {r : List V → Hp → VK → Prop} {h : List D → R D} (F : Fit G S k X) (hc : CallR X (.type T) r) (cs : CallS G.K h r) (ne : ∀ d z, h d ≠ .err z) (hg : S.sc.names.lookup x = some .globalImplicit) (hm : G.mg x = none) (hv : bootBuiltins x = some (.type T)) (ha : DA G X W own lk (e :: es) t fs)
    (hn : x ≠ "__name__" := by decide) (hdb : (x == ("__debug__" : PySem.Str)) = false := by decide) (he : starEach (e :: es) X.env = (false, eval e X.env) :: starEach es X.env := by rfl) (hpl : (backTo pos (starEach es X.env)).any (·.1) = false := by rfl) :
    DE G X W own lk (.Call (.Name x p) (e :: es) [] pos) (tCB r t) (callF h fs) :=
  ⟨pe_callTy hc (fit_gl F hg) (by rw [F.mg]; exact hm) hv ha.1 hn hdb he hpl, ha.2.call cs ne⟩
theorem d_callBf {id : String} {r : List V → Hp → VK → Prop} {h : List D → R D} (F : Fit G S k X) (hc : CallR X (.builtin id) r) (cs : CallS G.K h r) (ne : ∀ d z, h d ≠ .err z) (hg : S.sc.names.lookup x = some .globalImplicit) (hm : G.mg x = some (.builtin id)) (ha : DA G X W own lk (e :: es) t fs)
    (hdb : (x == ("__debug__" : PySem.Str)) = false := by decide) (he : starEach (e :: es) X.env = (false, eval e X.env) :: starEach es X.env := by rfl) (hpl : (backTo pos (starEach es X.env)).any (·.1) = false := by rfl) :
    DE G X W own lk (.Call (.Name x p) (e :: es) [] pos) (tCB r t) (callF h fs) :=
  ⟨pe_callBfun hc (fit_gl F hg) (by rw [F.mg]; exact hm) ha.1 hdb he hpl, ha.2.call cs ne⟩
theorem DE.imm0 {te : TE} {f : DEnv → R D} (h : DE G X W own lk e te f) (hi : ∀ δ d, f δ = .ok d → imm d = true) : DE G X W own [] e te f := ⟨h.1, h.2.imm0 hi⟩

/-! len -/
def lenD : List D → R D
  | [.lst ds] => .ok (.int ds.length)
  | [.tup ds] => .ok (.int ds.length)
  | [.scr ds] => .ok (.int ds.length)
  | [.str z] => if z.length ≤ sizeLine then .ok (.int z.length) else .stk
  | _ => .stk
theorem cs_len {K : PySem.W.Frag} : CallS K lenD (fun xs H Q => ∃ x n, xs = [x] ∧ LenV K x H n ∧ Q (.int n) H) := by
  intro H Z vs ds Q z r q
  obtain ⟨c, hc, q⟩ := q
  unfold lenD at hc
  split at hc
  · cases hc
    obtain ⟨v, u, rfl, ⟨p, us, rfl, t, _, rr⟩, rfl⟩ := r
    exact ⟨_, us.length, rfl, .inl ⟨us, SqL.of t, rfl⟩, by rw [rr.len]; exact q _ H (Same.refl H) rfl⟩
  · cases hc
    obtain ⟨v, u, rfl, ⟨p, us, rfl, t, rr⟩, rfl⟩ := r
    exact ⟨_, us.length, rfl, .inr ⟨us, t.sqT, rfl⟩, by rw [rr.len]; exact q _ H (Same.refl H) rfl⟩
  · cases hc
    obtain ⟨v, u, rfl, ⟨p, us, rfl, t, rr⟩, rfl⟩ := r
    exact ⟨_, us.length, rfl, .inl ⟨us, t.sqL, rfl⟩, by rw [rr.len]; exact q _ H (Same.refl H) rfl⟩
  · split at hc
    · rename_i hz; cases hc
      obtain ⟨v, u, rfl, hv, rfl⟩ := r
      cases hv.str
      exact ⟨_, _, rfl, ⟨hz, rfl⟩, q _ H (Same.refl H) rfl⟩
    · cases hc
  · cases hc
theorem noerr_len (d : List D) (z : Exn) : lenD d ≠ .err z := by
  intro h; unfold lenD at h; repeat (first | contradiction | split at h)
theorem d_len (F : Fit G S k X) (hg : S.sc.names.lookup (PySem.Str.ofString "len") = some .globalImplicit) (hm : G.mg (PySem.Str.ofString "len") = none) (ha : DA G X W own lk (e :: es) t fs)
    (he : starEach (e :: es) X.env = (false, eval e X.env) :: starEach es X.env := by rfl) (hpl : (backTo pos (starEach es X.env)).any (·.1) = false := by rfl) :
    DE G X W own [] (.Call (.Name (PySem.Str.ofString "len") p) (e :: es) [] pos) (tCB (fun xs H Q => ∃ x n, xs = [x] ∧ LenV G.K x H n ∧ Q (.int n) H) t) (callF lenD fs) :=
  (d_callB F (F.K ▸ call_len) cs_len noerr_len hg hm PySem.boot_len ha (by decide) (by decide) he hpl).imm0 (imm_call (by intro d c h; unfold lenD at h; repeat (first | contradiction | (cases h; rfl) | split at h)))
/-! abs, gcd, int, sum -/
def absD : List D → R D
  | [.int i] => .ok (.int (if i < 0 then -i else i))
  | _ => .stk
theorem d_abs (F : Fit G S k X) (hg : S.sc.names.lookup (PySem.Str.ofString "abs") = some .globalImplicit) (hm : G.mg (PySem.Str.ofString "abs") = none) (ha : DA G X W own lk (e :: es) t fs)
    (he : starEach (e :: es) X.env = (false, eval e X.env) :: starEach es X.env := by rfl) (hpl : (backTo pos (starEach es X.env)).any (·.1) = false := by rfl) :
    DE G X W own [] (.Call (.Name (PySem.Str.ofString "abs") p) (e :: es) [] pos) (tCB (fun xs H Q => ∃ i, xs = [.int i] ∧ Q (.int (if i < 0 then -i else i)) H) t) (callF absD fs) :=
  (d_callB F call_abs (by
    intro H Z vs ds Q z r q
    obtain ⟨c, hc, q⟩ := q
    unfold absD at hc
    split at hc
    · cases hc
      obtain ⟨v, u, rfl, hv, rfl⟩ := r
      cases hv.int
      exact ⟨_, rfl, q _ H (Same.refl H) rfl⟩
    · cases hc) (by intro d z h; unfold absD at h; repeat (first | contradiction | split at h)) hg hm (by decide +kernel) ha (by decide) (by decide) he hpl).imm0 (imm_call (by intro d c h; unfold absD at h; repeat (first | contradiction | (cases h; rfl) | split at h)))
def gcdD : List D → R D
  | [.int i, .int j] => .ok (.int ((Nat.gcd i.natAbs j.natAbs : Nat) : Int))
  | _ => .stk
theorem d_gcd (F : Fit G S k X) (hg : S.sc.names.lookup x = some .globalImplicit) (hm : G.mg x = some (.builtin "math.gcd")) (ha : DA G X W own lk (e :: es) t fs) (hdb : (x == ("__debug__" : PySem.Str)) = false := by decide)
    (he : starEach (e :: es) X.env = (false, eval e X.env) :: starEach es X.env := by rfl) (hpl : (backTo pos (starEach es X.env)).any (·.1) = false := by rfl) :
    DE G X W own [] (.Call (.Name x p) (e :: es) [] pos) (tCB rGcd t) (callF gcdD fs) :=
  (d_callBf F cr_gcd (by
    intro H Z vs ds Q z r q
    obtain ⟨c, hc, q⟩ := q
    unfold gcdD at hc
    split at hc
    · cases hc
      obtain ⟨v, u, rfl, hv, v2, u2, rfl, hv2, rfl⟩ := r
      cases hv.int; cases hv2.int
      exact ⟨_, _, rfl, q _ H (Same.refl H) rfl⟩
    · cases hc) (by intro d z h; unfold gcdD at h; repeat (first | contradiction | split at h)) hg hm ha hdb he hpl).imm0 (imm_call (by intro d c h; unfold gcdD at h; repeat (first | contradiction | (cases h; rfl) | split at h)))
def intD : List D → R D
  | [.int i] => .ok (.int i)
  | [.bl k] => .ok (.int (if k then 1 else 0))
  | _ => .stk
theorem d_intC (F : Fit G S k X) (hg : S.sc.names.lookup (PySem.Str.ofString "int") = some .globalImplicit) (hm : G.mg (PySem.Str.ofString "int") = none) (ha : DA G X W own lk (e :: es) t fs)
    (he : starEach (e :: es) X.env = (false, eval e X.env) :: starEach es X.env := by rfl) (hpl : (backTo pos (starEach es X.env)).any (·.1) = false := by rfl) :
    DE G X W own [] (.Call (.Name (PySem.Str.ofString "int") p) (e :: es) [] pos) (tCB (fun xs H Q => (∃ i, xs = [.int i] ∧ Q (.int i) H) ∨ ∃ k, xs = [.bl k] ∧ Q (.int (if k then 1 else 0)) H) t) (callF intD fs) :=
  (d_callTy F call_int1 (by
    intro H Z vs ds Q z r q
    obtain ⟨c, hc, q⟩ := q
    unfold intD at hc
    split at hc
    · cases hc
      obtain ⟨v, u, rfl, hv, rfl⟩ := r
      cases hv.int
      exact .inl ⟨_, rfl, q _ H (Same.refl H) rfl⟩
    · cases hc
      obtain ⟨v, u, rfl, hv, rfl⟩ := r
      cases hv.bl
      exact .inr ⟨_, rfl, q _ H (Same.refl H) rfl⟩
    · cases hc) (by intro d z h; unfold intD at h; repeat (first | contradiction | split at h)) hg hm (by decide +kernel) ha (by decide) (by decide) he hpl).imm0 (imm_call (by intro d c h; unfold intD at h; repeat (first | contradiction | (cases h; rfl) | split at h)))
def asInts : List D → Option (List Int)
  | [] => some []
  | .int i :: ds => (asInts ds).map (i :: ·)
  | _ :: _ => none
theorem asInts_rep {K : PySem.W.Frag} {H : Hp} {Z : Addr → Prop} : ∀ {ds : List D} {vs : List V} {ns : List Int}, RepL K H Z ds vs → asInts ds = some ns → vs = ns.map V.int
  | [], _, _, r, h => by cases (show _ = [] from r); cases h; rfl
  | d :: ds, _, ns, r, h => by
    obtain ⟨v, u, rfl, hv, hu⟩ := r
    cases d with
    | int i =>
      rw [asInts] at h
      cases e : asInts ds with
      | none => rw [e] at h; cases h
      | some ms =>
        rw [e] at h
        cases h
        cases hv.int
        rw [asInts_rep hu e]
        rfl
    | _ => simp [asInts] at h
def sumD : List D → R D
  | [.lst ds] => match asInts ds with | some ns => .ok (.int ns.sum) | none => .stk
  | _ => .stk
theorem d_sum (F : Fit G S k X) (hh : S.hot = false) (hg : S.sc.names.lookup (PySem.Str.ofString "sum") = some .globalImplicit) (hm : G.mg (PySem.Str.ofString "sum") = none) (ha : DA G X W own lk (e :: es) t fs)
    (he : starEach (e :: es) X.env = (false, eval e X.env) :: starEach es X.env := by rfl) (hpl : (backTo pos (starEach es X.env)).any (·.1) = false := by rfl) :
    DE G X W own [] (.Call (.Name (PySem.Str.ofString "sum") p) (e :: es) [] pos) (tCB (rSum G.K) t) (callF sumD fs) :=
  (d_callB F (F.K ▸ cr_sum (F.calm hh)) (by
    intro H Z vs ds Q z r q
    obtain ⟨c, hc, q⟩ := q
    unfold sumD at hc
    split at hc
    · split at hc
      · rename_i h; cases hc
        obtain ⟨v, u, rfl, ⟨p, us, rfl, t, _, rr⟩, rfl⟩ := r
        refine ⟨p, _, rfl, ?_, q _ H (Same.refl H) rfl⟩
        rw [← asInts_rep rr h]
        exact SqL.of t
      · cases hc
    · cases hc) (by intro d z h; unfold sumD at h; repeat (first | contradiction | split at h)) hg hm (by decide +kernel) ha (by decide) (by decide) he hpl).imm0 (imm_call (by intro d c h; unfold sumD at h; repeat (first | contradiction | (cases h; rfl) | split at h)))
/-! list, tuple -/
def listD : List D → R D
  | [.lst ds] => .ok (.lst ds)
  | [.tup ds] => .ok (.lst ds)
  | [.scr ds] => .ok (.lst ds)
  | _ => .stk
theorem d_list (F : Fit G S k X) (hg : S.sc.names.lookup (PySem.Str.ofString "list") = some .globalImplicit) (hm : G.mg (PySem.Str.ofString "list") = none) (ha : DA G X W own lk (e :: es) t fs)
    (he : starEach (e :: es) X.env = (false, eval e X.env) :: starEach es X.env := by rfl) (hpl : (backTo pos (starEach es X.env)).any (·.1) = false := by rfl) :
    DF G X W own lk (.Call (.Name (PySem.Str.ofString "list") p) (e :: es) [] pos) (tCB (fun xs H Q => ∃ p ys, xs = [.ref p] ∧ (SqL G.K H p ys ∨ SqT G.K H p ys) ∧ ∀ l, H l = none → Q (.ref l) (upd H l (.lst ys))) t) (callF listD fs) := by
  refine ⟨pe_callTy (F.K ▸ call_list_of) (fit_gl F hg) (by rw [F.mg]; exact hm) (by decide +kernel) ha.1 (by decide) (by decide) he hpl, ?_⟩
  intro Z₀ α δ σ H Q E hX q qe ns
  unfold callF at q qe ns
  refine ha.2 Z₀ α δ σ H _ E hX (fun ds vs H1 hf e1 r1 => ?_) (fun x H1 hf e1 => ?_) (R.notstk_bind ns)
  · rw [hf] at q ns
    simp only [R.bind_ok] at q ns
    have z : ZOk H1 (ZZ Z₀ α (minus own lk)) := (E.ext e1).zsub minus_sub
    unfold listD at q ns
    split at q
    · obtain ⟨v, u, rfl, ⟨p, us, rfl, t, _, rr⟩, rfl⟩ := r1
      exact ⟨p, us, rfl, .inl (SqL.of t), fun l hl => q _ _ _ _ rfl (e1.trans (ext_upd hl)) (New.upd (e1.free hl) hl rr)⟩
    · obtain ⟨v, u, rfl, ⟨p, us, rfl, t, rr⟩, rfl⟩ := r1
      exact ⟨p, us, rfl, .inr t.sqT, fun l hl => q _ _ _ _ rfl (e1.trans (ext_upd hl)) (New.upd (e1.free hl) hl rr)⟩
    · obtain ⟨v, u, rfl, ⟨p, us, rfl, t, rr⟩, rfl⟩ := r1
      exact ⟨p, us, rfl, .inl t.sqL, fun l hl => q _ _ _ _ rfl (e1.trans (ext_upd hl)) (New.upd (e1.free hl) hl rr)⟩
    · exact absurd (by split <;> first | rfl | simp_all) ns
  · rw [hf] at qe
    exact qe x H1 rfl e1
def tupleD : List D → R D
  | [.lst ds] => .ok (.tup ds)
  | [.tup ds] => .ok (.tup ds)
  | _ => .stk
theorem d_tuple (F : Fit G S k X) (hg : S.sc.names.lookup (PySem.Str.ofString "tuple") = some .globalImplicit) (hm : G.mg (PySem.Str.ofString "tuple") = none) (ha : DA G X W own lk (e :: es) t fs)
    (he : starEach (e :: es) X.env = (false, eval e X.env) :: starEach es X.env := by rfl) (hpl : (backTo pos (starEach es X.env)).any (·.1) = false := by rfl) :
    DE G X W own lk (.Call (.Name (PySem.Str.ofString "tuple") p) (e :: es) [] pos) (tCB (fun xs H Q => ∃ p ys, xs = [.ref p] ∧ ((SqL G.K H p ys ∧ ∀ l, H l = none → Q (.ref l) (upd H l (.tup ys))) ∨ (SqT G.K H p ys ∧ Q (.ref p) H))) t) (callF tupleD fs) :=
  d_callTy F (F.K ▸ call_tuple_of) (by
    intro H Z vs ds Q z r q
    obtain ⟨c, hc, q⟩ := q
    unfold tupleD at hc
    split at hc
    · cases hc
      obtain ⟨v, u, rfl, ⟨p, us, rfl, t, _, rr⟩, rfl⟩ := r
      exact ⟨p, us, rfl, .inl ⟨SqL.of t, fun l hl => q _ _ (ext_upd hl) ⟨l, us, rfl, .inl ⟨.inl upd_same, z.new hl⟩, repL_upd z hl rr⟩⟩⟩
    · cases hc
      obtain ⟨v, u, rfl, ⟨p, us, rfl, t, rr⟩, rfl⟩ := r
      exact ⟨p, us, rfl, .inr ⟨t.sqT, q _ H (Same.refl H) ⟨p, us, rfl, t, rr⟩⟩⟩
    · cases hc) (by intro d z h; unfold tupleD at h; repeat (first | contradiction | split at h)) hg hm (by decide +kernel) ha (by decide) (by decide) he hpl
/-! isinstance -/
def tyN : D → String
  | .non => "NoneType"
  | .bl _ => "bool"
  | .int _ => "int"
  | .str _ => "str"
  | .tup _ => "tuple"
  | .lst _ => "list"
  | .scr _ => "list"
  | .nst _ => "list"
  | .dic _ _ => "dict"
  | .ndc _ _ => "dict"
  | .obj _ _ _ => "object"
/-- a value whose class isinstance can tell here -/
def tyOk : D → Bool
  | .dic _ _ => false
  | .ndc _ _ => false
  | .obj _ _ _ => false
  | _ => true
def isTb (a b : String) : Bool := a == b || (a == "bool" && b == "int")
def isiD (T : String) (d : D) : R D := if tyOk d = true then .ok (.bl (isTb (tyN d) T)) else .stk
theorem tyN_mem (d : D) (h : tyOk d = true) : tyN d ∈ ["NoneType", "bool", "int", "str", "tuple", "list"] := by cases d <;> first | (simp [tyN]; done) | (simp [tyOk] at h)
theorem tyx_rep {K : PySem.W.Frag} {H : Hp} {Z : Addr → Prop} {d : D} {v : V} (ho : tyOk d = true) (r : Rep K H Z d v) : TyX K H v (.type (tyN d)) := by
  cases d with
  | non => cases r.non; exact .base .non
  | bl b => cases r.bl; exact .base (.bl b)
  | int b => cases r.int; exact .base (.int b)
  | str b => cases r.str; exact .base (.str b)
  | tup ds =>
    obtain ⟨p, us, rfl, t, rr⟩ := r
    rcases t with ⟨h | ⟨o, h⟩, _⟩ | ⟨o, its, n, h, hc, _⟩
    · exact .base (.tup h)
    · exact .fTuple h
    · exact .kTuple h hc
  | lst ds =>
    obtain ⟨p, us, rfl, t, _, rr⟩ := r
    exact .base (.lst t)
  | nst ds =>
    obtain ⟨p, us, rfl, t, _, rr⟩ := r
    exact .base (.lst t)
  | dic _ _ => exact nomatch ho
  | ndc _ _ => exact nomatch ho
  | obj _ _ _ => exact nomatch ho
  | scr ds =>
    obtain ⟨p, us, rfl, t, rr⟩ := r
    rcases t with ⟨h | ⟨o, h⟩, _⟩ | ⟨o, its, n, h, hc, _⟩
    · exact .base (.lst h)
    · exact .base (.frz h)
    · exact .kList h hc
theorem kit_all {T : String} (h : ∀ n ∈ ["NoneType", "bool", "int", "str", "tuple", "list"], kitB n T = some (isTb n T)) (d : D) (ho : tyOk d = true) : kitB (tyN d) T = some (isTb (tyN d) T) := h _ (tyN_mem d ho)
theorem d_isi {T : PySem.Str} {TS : String} {f : DEnv → R D} {te : TE} {p2 : Pos} (F : Fit G S k X) (hg : S.sc.names.lookup (PySem.Str.ofString "isinstance") = some .globalImplicit) (hm : G.mg (PySem.Str.ofString "isinstance") = none)
    (hgT : S.sc.names.lookup T = some .globalImplicit) (hmT : G.mg T = none) (hvT : bootBuiltins T = some (.type TS)) (hk : ∀ n ∈ ["NoneType", "bool", "int", "str", "tuple", "list"], kitB n TS = some (isTb n TS)) (ha : DE G X W own lk e te f)
    (hn : T ≠ "__name__" := by decide) (hd : (T == ("__debug__" : PySem.Str)) = false := by decide)
    (he : starEach [e, .Name T p2] X.env = (false, eval e X.env) :: starEach [.Name T p2] X.env := by rfl) (hpl : (backTo pos (starEach [.Name T p2] X.env)).any (·.1) = false := by rfl) :
    DE G X W own [] (.Call (.Name (PySem.Str.ofString "isinstance") p) [e, .Name T p2] [] pos) (tCB (rIsi G.K) (tCons te (tCons (tC (.ty TS)) tNil))) (u1 (isiD TS) f) := by
  have hpa : PA X [e, .Name T p2] (tCons te (tCons (tC (.ty TS)) tNil)) := pa_cons ha.1 (pa_cons (pe_bltn (v := .ty TS) (fit_gl F hgT) (by rw [F.mg]; exact hmT) hvT rfl hn hd) pa_nil) he
  refine ⟨pe_callB (F.K ▸ call_isi) (fit_gl F hg) (by rw [F.mg]; exact hm) (by decide +kernel) hpa (by decide) (by decide) he hpl, ?_⟩
  intro Z₀ α δ σ H Q E hX q qe ns
  unfold u1 isiD at q qe ns
  refine ha.2 Z₀ α δ σ H _ E hX (fun d v H1 hf e1 r1 => ?_) (fun x H1 hf e1 => ?_) (R.notstk_bind ns)
  · rw [hf] at q ns
    simp only [R.bind_ok] at q ns
    by_cases ho : tyOk d = true
    · rw [if_pos ho] at q
      exact ⟨v, .ty TS, _, _, _, rfl, .ty TS, tyx_rep ho r1, kit_ty (kit_all hk d ho), q _ _ H1 rfl e1 rfl⟩
    · rw [if_neg ho] at ns; exact absurd rfl ns
  · rw [hf] at qe
    exact qe x H1 rfl e1

/-! ### calls of defs -/
/-- a new object, or a tuple with new parts -/
structure NewT (K : PySem.W.Frag) (H H' : Hp) (Z : Addr → Prop) (d : D) (v : V) (φ : List Addr) : Prop where
  free : ∀ a ∈ φ, H a = none
  nd : φ.Nodup
  top : TopT K H' (fun b => Z b ∨ b ∈ φ) d v φ
def RetOk (fr : Bool) (K : PySem.W.Frag) (H H' : Hp) (Z : Addr → Prop) (d : D) (v : V) : Prop :=
  (fr = true ∧ ∃ φ, NewT K H H' Z d v φ) ∨ (fr = true ∧ imm d = true ∧ Rep K H' Z d v) ∨ (fr = false ∧ Rep K H' Z d v)
def spD (G : Cfg) (n : Nat) (fr : Bool) (Φ : List D → R D) : Sp := fun vs H Q E => ∃ (Z : Addr → Prop) (ds : List D), ds.length = n ∧ ZOk H Z ∧ RepL G.K H Z ds vs ∧
  (∀ d v H', Φ ds = .ok d → Ext H H' → RetOk fr G.K H H' Z d v → Q v H') ∧ (∀ x H', Φ ds = .err x → Ext H H' → E (G.cv x.cls) none H') ∧ Φ ds ≠ .stk
structure FnD (G : Cfg) (k : Nat) (x : PySem.Str) (n : Nat) (fr : Bool) (Φ : List D → R D) : Prop where
  ex : ∃ (f : Addr) (fd : FuncData) (ps : List PySem.Str), FnOk G.P G.w G.K G.mg G.base (L2.CX G.P G.w) k f fd ps (spD G n fr Φ) ∧ G.mg x = some (.ref f) ∧ PySem.W.keepIn G.K (.ref f) = true ∧ Binds G.K fd ps []
theorem NewT.rep {K : PySem.W.Frag} {H H' : Hp} {Z : Addr → Prop} {d : D} {v : V} {φ : List Addr} (n : NewT K H H' Z d v φ) (z : ZOk H Z) : Rep K H' Z d v := n.top.rep (fun b hb => .inl hb) fun a q => z.new (n.free a q)
theorem NewT.pre {K : PySem.W.Frag} {H1 H2 H' : Hp} {Z : Addr → Prop} {d : D} {v : V} {φ : List Addr} (n : NewT K H2 H' Z d v φ) (e : Ext H1 H2) : NewT K H1 H' Z d v φ := ⟨fun a q => e.free (n.free a q), n.nd, n.top⟩
theorem RetOk.rep {fr : Bool} {K : PySem.W.Frag} {H H' : Hp} {Z : Addr → Prop} {d : D} {v : V} (z : ZOk H Z) (e : Ext H H') (h : RetOk fr K H H' Z d v) : Rep K H' Z d v := by
  rcases h with ⟨_, φ, n⟩ | ⟨_, _, r⟩ | ⟨_, r⟩
  · exact n.rep z
  · exact r
  · exact r
theorem d_call {kf n : Nat} {fr : Bool} {Φ : List D → R D} (F : Fit G S k X) (tk : Takes X W) (C : FnD G kf x n fr Φ) (hk : kf ≤ k) (hg : S.sc.names.lookup x = some .globalImplicit) (ha : DA G X W own lk (e :: es) t fs) (hl : (e :: es).length = n)
    (hdb : (x == ("__debug__" : PySem.Str)) = false := by decide) (he : starEach (e :: es) X.env = (false, eval e X.env) :: starEach es X.env := by rfl) (hpl : (backTo pos (starEach es X.env)).any (·.1) = false := by rfl)
    (hlen : ∀ δ ds, fs δ = .ok ds → ds.length = n) (hh : S.hot = false := by rfl) :
    DE G X W own lk (.Call (.Name x p) (e :: es) [] pos) (tCallS (spD G n fr Φ) (WE W) t) (callF Φ fs) := by
  obtain ⟨f, fd, ps, C, hm, hkp, hb⟩ := C.ex
  refine ⟨?_, ?_⟩
  · have C' : FnOk X.prog X.w X.K X.mg X.base (L2.CX X.prog X.w) kf f fd ps (spD G n fr Φ) := by rw [F.prog, F.w, F.K, F.mg, F.base]; exact C
    exact pe_callS C' ((F.room hh).mono hk) (fit_gl F hg) (by rw [F.mg]; exact hm) (by rw [F.K]; exact hkp) (by rw [F.K]; exact hb) (fun σ => passAt tk σ) ha.1 hdb he hpl
  · intro Z₀ α δ σ H Q E hX q qe ns
    unfold callF at q qe ns
    refine ha.2 Z₀ α δ σ H _ E hX (fun ds vs H1 hf e1 r1 => ?_) (fun x H1 hf e1 => ?_) (R.notstk_bind ns)
    · rw [hf] at q qe ns
      simp only [R.bind_ok] at q qe ns
      have z : ZOk H1 (ZZ Z₀ α (minus own lk)) := (E.ext e1).zsub minus_sub
      exact ⟨_, ds, hlen δ ds hf, z, r1, fun d v H' hd e2 r2 => q d v H' hd (e1.trans e2) (r2.rep z e2), fun x H' hx e2 => qe x H' hx (e1.trans e2), ns⟩
    · rw [hf] at qe
      exact qe x H1 rfl e1
/-- a new object of its own, no tuple -/
def isTop : D → Bool
  | .lst _ => true
  | .nst _ => true
  | .dic _ _ => true
  | .ndc _ _ => true
  | .obj _ _ _ => true
  | _ => false
def isLst (f : DEnv → R D) : DEnv → R D := fun δ => (f δ).bind fun d => if isTop d = true then .ok d else .stk
theorem TopT.top {K : PySem.W.Frag} {H : Hp} {Z : Addr → Prop} {d : D} {v : V} {φ : List Addr} (h : isTop d = true) (t : TopT K H Z d v φ) : Top K H Z d v φ := by
  cases d with
  | lst ds => exact t
  | nst ds => exact t
  | dic _ _ => exact t
  | ndc _ _ => exact t
  | obj _ _ _ => exact t
  | _ => exact nomatch h
theorem NewT.new {K : PySem.W.Frag} {H H' : Hp} {Z : Addr → Prop} {d : D} {v : V} {φ : List Addr} (h : isTop d = true) (n : NewT K H H' Z d v φ) : New K H H' Z d v φ := ⟨n.free, n.nd, n.top.top h⟩
theorem isTop_imm {d : D} (h : isTop d = true) : imm d = false := by cases d <;> first | rfl | exact nomatch h
/-- a def that gives a new list -/
theorem d_callF {kf n : Nat} {Φ : List D → R D} (F : Fit G S k X) (tk : Takes X W) (C : FnD G kf x n true Φ) (hk : kf ≤ k) (hg : S.sc.names.lookup x = some .globalImplicit) (ha : DA G X W own lk (e :: es) t fs) (hl : (e :: es).length = n)
    (hdb : (x == ("__debug__" : PySem.Str)) = false := by decide) (he : starEach (e :: es) X.env = (false, eval e X.env) :: starEach es X.env := by rfl) (hpl : (backTo pos (starEach es X.env)).any (·.1) = false := by rfl)
    (hlen : ∀ δ ds, fs δ = .ok ds → ds.length = n) (hh : S.hot = false := by rfl) :
    DF G X W own lk (.Call (.Name x p) (e :: es) [] pos) (tCallS (spD G n true Φ) (WE W) t) (isLst (callF Φ fs)) := by
  refine ⟨(d_call F tk C hk hg ha hl hdb he hpl hlen hh).1, ?_⟩
  intro Z₀ α δ σ H Q E hX q qe ns
  unfold isLst callF at q qe ns
  refine ha.2 Z₀ α δ σ H _ E hX (fun ds vs H1 hf e1 r1 => ?_) (fun x H1 hf e1 => ?_) (fun h => by rw [h] at ns; exact ns rfl)
  · rw [hf] at q qe ns
    simp only [R.bind_ok] at q qe ns
    have z : ZOk H1 (ZZ Z₀ α (minus own lk)) := (E.ext e1).zsub minus_sub
    refine ⟨_, ds, hlen δ ds hf, z, r1, fun d v H' hd e2 r2 => ?_, fun x H' hx e2 => qe x H' (by rw [hx]; rfl) (e1.trans e2), fun h => by rw [h] at ns; exact ns rfl⟩
    rw [hd] at q ns
    simp only [R.bind_ok] at q ns
    by_cases ht : isTop d = true
    · rw [if_pos ht] at q
      rcases r2 with ⟨_, φ, n⟩ | ⟨_, hi, _⟩ | ⟨hf, _⟩
      · exact q d v φ H' rfl (e1.trans e2) ((n.pre e1).new ht)
      · rw [isTop_imm ht] at hi; cases hi
      · cases hf
    · rw [if_neg ht] at ns; exact absurd rfl ns
  · rw [hf] at qe
    exact qe x H1 rfl e1
/-- how many arguments there are -/
theorem len_nil : ∀ δ ds, nilA δ = .ok ds → ds.length = 0 := fun δ ds h => by cases h; rfl
theorem len_cons {f : DEnv → R D} {g : DEnv → R (List D)} {n : Nat} (hg : ∀ δ ds, g δ = .ok ds → ds.length = n) : ∀ δ ds, consA f g δ = .ok ds → ds.length = n + 1 := fun δ ds h => by
  unfold consA at h
  cases e1 : f δ with
  | ok d =>
    rw [e1] at h
    simp only [R.bind_ok] at h
    cases e2 : g δ with
    | ok es => rw [e2] at h; cases h; simp [hg δ es e2]
    | err _ => rw [e2] at h; cases h
    | stk => rw [e2] at h; cases h
  | err _ => rw [e1] at h; cases h
  | stk => rw [e1] at h; cases h
end
end DL

set_option maxRecDepth 100001
set_option maxHeartbeats 1000001
namespace DL
open PySem PySem.Spec PyProof.Rows L2

section
variable {G : Cfg} {S : Sco} {k : Nat} {X : Cx} {W : WX} {own lk l1 l2 l3 : List Nat} {pos p : Pos} {e a b tg : Expr} {es : List Expr} {t : TA} {fs : DEnv → R (List D)} {x : PySem.Str} {te ta tb : TE} {f g : DEnv → R D}

/-! ### what is walked -/
def SI (G : Cfg) (W : WX) (own lk : List Nat) (wi : TI) (f : DEnv → R (List D)) : Prop := ∀ (Z₀ : Addr → Prop) (α : Nat → List Addr) (δ : DEnv) (σ : L2.St) (H : Hp) (R₀ : It → Hp → Prop), EnvOk G.K Z₀ α own δ σ H → G.xi σ →
  (∀ ds J H1 Gd Y, f δ = .ok ds → Ext H H1 → Walk J ds.length Gd Y → (∀ H', Keeps (ZZ Z₀ α (minus own lk)) H1 H' → Gd H') →
    (∀ (Z' : Addr → Prop) i d x H2 H3, ds[i]? = some d → (∀ a, Z' a → ZZ Z₀ α (minus own lk) a ∨ H1 a = none) → Keeps (ZZ Z₀ α (minus own lk)) H1 H2 → ZOk H2 Z' → Y i H2 x H3 → Ext H2 H3 ∧ Rep G.K H3 Z' d x) → R₀ J H1) →
  (∀ x H', f δ = .err x → Ext H H' → W (G.cv x.cls) none σ H') → f δ ≠ .stk → wi σ H R₀
def DI (G : Cfg) (X : Cx) (W : WX) (own lk : List Nat) (tg e : Expr) (wi : TI) (f : DEnv → R (List D)) : Prop := PI X tg e wi ∧ SI G W own lk wi f
def itL (f : DEnv → R D) : DEnv → R (List D) := fun δ => (f δ).bind fun d => match d with
  | .lst ds => .ok ds
  | .scr ds => .ok ds
  | _ => .stk
def itT (f : DEnv → R D) : DEnv → R (List D) := fun δ => (f δ).bind fun d => match d with
  | .tup ds => .ok ds
  | _ => .stk
theorem Keeps.frz {Z : Addr → Prop} {H H' : Hp} (k : Keeps Z H H') (z : ZOk H Z) {a : Addr} {o : Obj} {u : HO} (h : H a = some (.frz o u)) : H' a = some (.frz o u) := k _ _ (fun q => z.nofrz _ _ _ q h) h
theorem i_list (F : Fit G S k X) (h : DE G X W own lk e te f) : DI G X W own lk tg e (iList G.K te) (itL f) := by
  refine ⟨F.K ▸ pi_list h.1, ?_⟩
  intro Z₀ α δ σ H R₀ E hX q qe ns
  unfold itL at q qe ns
  refine h.2 Z₀ α δ σ H _ E hX (fun d v H1 hf e1 r1 => ?_) (fun x H1 hf e1 => ?_) (R.notstk_bind ns)
  · rw [hf] at q ns
    simp only [R.bind_ok] at q ns
    have z : ZOk H1 (ZZ Z₀ α (minus own lk)) := (E.ext e1).zsub minus_sub
    cases d with
    | lst ds =>
      obtain ⟨p, vs, rfl, t, n, rr⟩ := r1
      refine ⟨p, rfl, ⟨vs, SqL.of t⟩, q ds _ H1 _ _ rfl e1 (rr.len ▸ walk_list (K := G.K) (a := p) (xs := vs)) (fun H' kp => SqL.of (kp _ _ n t)) (fun Z' i d x H2 H3 hd hz kp z2 y => ?_)⟩
      obtain ⟨rfl, hx⟩ := y
      obtain ⟨v, hv, rv⟩ := rr.get hd
      rw [hv] at hx; cases hx
      exact ⟨Same.refl _, Rep.step z hz kp _ _ rv⟩
    | scr ds =>
      obtain ⟨p, vs, rfl, t, rr⟩ := r1
      refine ⟨p, rfl, ⟨vs, t.sqL⟩, q ds _ H1 _ _ rfl e1 (rr.len ▸ walk_list (K := G.K) (a := p) (xs := vs)) (fun H' kp => (t.mono kp (fun _ q => q)).sqL) (fun Z' i d x H2 H3 hd hz kp z2 y => ?_)⟩
      obtain ⟨rfl, hx⟩ := y
      obtain ⟨v, hv, rv⟩ := rr.get hd
      rw [hv] at hx; cases hx
      exact ⟨Same.refl _, Rep.step z hz kp _ _ rv⟩
    | _ => exact absurd rfl ns
  · rw [hf] at qe
    exact qe x H1 rfl e1
theorem TupAt.keep {K : PySem.W.Frag} {Z : Addr → Prop} {H H' : Hp} {a : Addr} {xs : List V} (k : Keeps Z H H') (t : TupAt K H Z a xs) : SqT K H' a xs := (t.mono k (fun _ q => q)).sqT
theorem i_tup (F : Fit G S k X) (h : DE G X W own lk e te f) : DI G X W own lk tg e (iTup G.K te) (itT f) := by
  refine ⟨F.K ▸ pi_tup h.1, ?_⟩
  intro Z₀ α δ σ H R₀ E hX q qe ns
  unfold itT at q qe ns
  refine h.2 Z₀ α δ σ H _ E hX (fun d v H1 hf e1 r1 => ?_) (fun x H1 hf e1 => ?_) (R.notstk_bind ns)
  · rw [hf] at q ns
    simp only [R.bind_ok] at q ns
    have z : ZOk H1 (ZZ Z₀ α (minus own lk)) := (E.ext e1).zsub minus_sub
    cases d with
    | tup ds =>
      obtain ⟨p, vs, rfl, t, rr⟩ := r1
      refine ⟨p, rfl, ⟨vs, t.sqT⟩, q ds _ H1 _ _ rfl e1 (rr.len ▸ walk_tup (K := G.K) (a := p) (xs := vs)) (fun H' kp => t.keep kp) (fun Z' i d x H2 H3 hd hz kp z2 y => ?_)⟩
      obtain ⟨rfl, hx⟩ := y
      obtain ⟨v, hv, rv⟩ := rr.get hd
      rw [hv] at hx; cases hx
      exact ⟨Same.refl _, Rep.step z hz kp _ _ rv⟩
    | _ => exact absurd rfl ns
  · rw [hf] at qe
    exact qe x H1 rfl e1
def intsFrom (lo : Int) (n : Nat) : List D := (List.range n).map fun i => D.int (lo + (i : Nat))
def smR (j : Int) : Prop := -(2 ^ 62) ≤ j ∧ j < 2 ^ 62
open Classical in
noncomputable def rng1 (fs : DEnv → R (List D)) : DEnv → R (List D) := fun δ => (fs δ).bind fun ds => match ds with
  | [.int j] => if smR j then .ok (intsFrom 0 j.toNat) else .stk
  | _ => .stk
open Classical in
noncomputable def rng2 (fs : DEnv → R (List D)) : DEnv → R (List D) := fun δ => (fs δ).bind fun ds => match ds with
  | [.int i, .int j] => if smR i ∧ smR j then .ok (intsFrom i (j - i).toNat) else .stk
  | _ => .stk
theorem ints_len (lo : Int) (n : Nat) : (intsFrom lo n).length = n := by simp [intsFrom]
theorem ints_get {lo : Int} {n i : Nat} {d : D} (h : (intsFrom lo n)[i]? = some d) : d = .int (lo + (i : Nat)) := by
  unfold intsFrom at h
  rw [List.getElem?_map] at h
  by_cases hi : i < n
  · rw [List.getElem?_range hi] at h
    simpa using h.symm
  · rw [List.getElem?_eq_none (by simpa using hi)] at h
    cases h
theorem i_rng1 (F : Fit G S k X) (hg : S.sc.names.lookup (PySem.Str.ofString "range") = some .globalImplicit) (hm : G.mg (PySem.Str.ofString "range") = none) (ha : DA G X W own lk [a] t fs) (hs : starEach [a] X.env = [(false, eval a X.env)] := by rfl) :
    DI G X W own lk tg (.Call (.Name (PySem.Str.ofString "range") p) [a] [] pos) (iRng1 t) (rng1 fs) := by
  refine ⟨pi_range1 (fit_gl F hg) (by rw [F.mg]; exact hm) ha.1 hs, ?_⟩
  intro Z₀ α δ σ H R₀ E hX q qe ns
  unfold rng1 at q qe ns
  refine ha.2 Z₀ α δ σ H _ E hX (fun ds vs H1 hf e1 r1 => ?_) (fun x H1 hf e1 => ?_) (R.notstk_bind ns)
  · rw [hf] at q ns
    simp only [R.bind_ok] at q ns
    split at ns
    · obtain ⟨v, u, rfl, hv, rfl⟩ := r1
      cases hv.int
      rename_i j
      simp only at q ns
      by_cases hj : smR j
      · rw [if_pos hj] at q
        refine ⟨j, rfl, hj.1, hj.2, q _ _ H1 _ _ rfl e1 (by rw [ints_len]; exact walk_range) (fun _ _ => True.intro) (fun Z' i d x H2 H3 hd hz kp z2 y => ?_)⟩
        obtain ⟨rfl, rfl⟩ := y
        rw [ints_get hd]
        exact ⟨Same.refl _, rfl⟩
      · rw [if_neg hj] at ns; exact absurd rfl ns
    · exact absurd rfl ns
  · rw [hf] at qe
    exact qe x H1 rfl e1
theorem i_rng2 (F : Fit G S k X) (hg : S.sc.names.lookup (PySem.Str.ofString "range") = some .globalImplicit) (hm : G.mg (PySem.Str.ofString "range") = none) (ha : DA G X W own lk [a, b] t fs) (hs : starEach [a, b] X.env = [(false, eval a X.env), (false, eval b X.env)] := by rfl) (hs2 : starEach [b] X.env = [(false, eval b X.env)] := by rfl) :
    DI G X W own lk tg (.Call (.Name (PySem.Str.ofString "range") p) [a, b] [] pos) (iRng2 t) (rng2 fs) := by
  refine ⟨pi_range2 (fit_gl F hg) (by rw [F.mg]; exact hm) ha.1 hs hs2, ?_⟩
  intro Z₀ α δ σ H R₀ E hX q qe ns
  unfold rng2 at q qe ns
  refine ha.2 Z₀ α δ σ H _ E hX (fun ds vs H1 hf e1 r1 => ?_) (fun x H1 hf e1 => ?_) (R.notstk_bind ns)
  · rw [hf] at q ns
    simp only [R.bind_ok] at q ns
    split at ns
    · obtain ⟨v, u, rfl, hv, v2, u2, rfl, hv2, rfl⟩ := r1
      cases hv.int; cases hv2.int
      rename_i i j
      simp only at q ns
      by_cases hj : smR i ∧ smR j
      · rw [if_pos hj] at q
        refine ⟨i, j, rfl, ⟨hj.1.1, hj.1.2, hj.2.1, hj.2.2⟩, q _ _ H1 _ _ rfl e1 (by rw [ints_len]; exact walk_range) (fun _ _ => True.intro) (fun Z' i d x H2 H3 hd hz kp z2 y => ?_)⟩
        obtain ⟨rfl, rfl⟩ := y
        rw [ints_get hd]
        exact ⟨Same.refl _, rfl⟩
      · rw [if_neg hj] at ns; exact absurd rfl ns
    · exact absurd rfl ns
  · rw [hf] at qe
    exact qe x H1 rfl e1
/-- zip of two lists -/
def zipPairs : List D → List D → List D
  | x :: xs, y :: ys => .tup [x, y] :: zipPairs xs ys
  | _, _ => []
theorem zip_len : ∀ xs ys : List D, (zipPairs xs ys).length = min xs.length ys.length
  | [], _ => by simp [zipPairs]
  | _ :: _, [] => by simp [zipPairs]
  | x :: xs, y :: ys => by simp [zipPairs, zip_len xs ys]; done
theorem zip_get : ∀ {xs ys : List D} {i : Nat} {d : D}, (zipPairs xs ys)[i]? = some d → ∃ x y, xs[i]? = some x ∧ ys[i]? = some y ∧ d = .tup [x, y]
  | [], _, _, _, h => by simp [zipPairs] at h
  | _ :: _, [], _, _, h => by simp [zipPairs] at h
  | x :: xs, y :: ys, 0, _, h => by simp [zipPairs] at h; exact ⟨x, y, rfl, rfl, h.symm⟩
  | x :: xs, y :: ys, i + 1, _, h => by
    obtain ⟨x', y', h1, h2, h3⟩ := zip_get (i := i) (by simpa [zipPairs] using h)
    exact ⟨x', y', by simpa using h1, by simpa using h2, h3⟩
def seqOf : D → Option (List D × Bool)
  | .lst ds => some (ds, true)
  | .scr ds => some (ds, true)
  | .tup ds => some (ds, false)
  | _ => none
def zipA (fs : DEnv → R (List D)) : DEnv → R (List D) := fun δ => (fs δ).bind fun ds => match ds with
  | [.lst xs, .lst ys] => .ok (zipPairs xs ys)
  | [.tup xs, .tup ys] => .ok (zipPairs xs ys)
  | _ => .stk
theorem walk_zipT {K : PySem.W.Frag} {a b : Addr} {xs ys : List V} {n : Nat} (hn : n = min xs.length ys.length) : Walk (RZ.ItzT K a b) n (fun H => SqT K H a xs ∧ SqT K H b ys) (YPair (fun i => xs[i]?) (fun i => ys[i]?)) := by
  subst hn
  refine ⟨fun i _ hi q => ?_, fun _ q => ⟨xs, ys, q.1, q.2, by omega⟩, fun i H v H' _ q y => ?_⟩
  · have h1 : i < xs.length := by omega
    have h2 : i < ys.length := by omega
    exact ⟨xs, ys, xs[i], ys[i], q.1, q.2, by simp [h1], by simp [h2]⟩
  · obtain ⟨T, x, z, h1, h2, h3, h4, h5⟩ := y
    exact ⟨T, x, z, h1, h2, h3, h4 xs q.1, h5 ys q.2⟩
theorem rep_pair {K : PySem.W.Frag} {H : Hp} {Z : Addr → Prop} {T : Addr} {x y : V} {d e : D} (z : ZOk H Z) (hT : H T = none) (h1 : Rep K H Z d x) (h2 : Rep K H Z e y) : Ext H (upd H T (.tup [x, y])) ∧ Rep K (upd H T (.tup [x, y])) Z (.tup [d, e]) (.ref T) :=
  ⟨ext_upd hT, T, [x, y], rfl, .inl ⟨.inl upd_same, z.new hT⟩, x, [y], rfl, rep_upd z hT h1, y, [], rfl, rep_upd z hT h2, rfl⟩
theorem i_zip {elts : List Expr} {kk : Nat} {tpos : Pos} (F : Fit G S k X) (hg : S.sc.names.lookup (PySem.Str.ofString "zip") = some .globalImplicit) (hm : G.mg (PySem.Str.ofString "zip") = none) (ha : DA G X W own lk [a, b] t fs)
    (hs : starEach [a, b] X.env = (false, eval a X.env) :: starEach [b] X.env := by rfl) (hpl : (backTo pos (starEach [b] X.env)).any (·.1) = false := by rfl) :
    DI G X W own lk (.Tuple elts kk tpos) (.Call (.Name (PySem.Str.ofString "zip") p) [a, b] [] pos) (RZ.iZipA G.K t) (zipA fs) := by
  refine ⟨F.K ▸ RZ.pi_zipA (fit_gl F hg) (by rw [F.mg]; exact hm) ha.1 hs hpl, ?_⟩
  intro Z₀ α δ σ H R₀ E hX q qe ns
  unfold zipA at q qe ns
  refine ha.2 Z₀ α δ σ H _ E hX (fun ds vs H1 hf e1 r1 => ?_) (fun x H1 hf e1 => ?_) (R.notstk_bind ns)
  · rw [hf] at q ns
    simp only [R.bind_ok] at q ns
    have z : ZOk H1 (ZZ Z₀ α (minus own lk)) := (E.ext e1).zsub minus_sub
    split at ns
    · rename_i xs ys
      obtain ⟨v, u, rfl, ⟨p1, us, rfl, t1, n1, rr1⟩, v2, u2, rfl, ⟨p2, ws, rfl, t2, n2, rr2⟩, rfl⟩ := r1
      refine ⟨p1, p2, us, ws, rfl, .inl ⟨SqL.of t1, SqL.of t2, q _ _ H1 _ _ rfl e1 (walk_zip (K := G.K) (a := p1) (b := p2) (xs := us) (ys := ws) (by rw [zip_len, rr1.len, rr2.len])) (fun H' kp => ⟨SqL.of (kp _ _ n1 t1), SqL.of (kp _ _ n2 t2)⟩) (fun Z' i d x H2 H3 hd hz kp z2 y => ?_)⟩⟩
      obtain ⟨T, x1, x2, rfl, hT, rfl, f1, f2⟩ := y
      obtain ⟨d1, d2, g1, g2, rfl⟩ := zip_get hd
      obtain ⟨w1, h1, q1⟩ := rr1.get g1
      obtain ⟨w2, h2, q2⟩ := rr2.get g2
      have f1' : us[i]? = some x1 := f1
      have f2' : ws[i]? = some x2 := f2
      rw [h1] at f1'; cases f1'
      rw [h2] at f2'; cases f2'
      exact rep_pair z2 hT (Rep.step z hz kp _ _ q1) (Rep.step z hz kp _ _ q2)
    · rename_i xs ys
      obtain ⟨v, u, rfl, ⟨p1, us, rfl, t1, rr1⟩, v2, u2, rfl, ⟨p2, ws, rfl, t2, rr2⟩, rfl⟩ := r1
      refine ⟨p1, p2, us, ws, rfl, .inr ⟨t1.sqT, t2.sqT, q _ _ H1 _ _ rfl e1 (walk_zipT (K := G.K) (a := p1) (b := p2) (xs := us) (ys := ws) (by rw [zip_len, rr1.len, rr2.len])) (fun H' kp => ⟨t1.keep kp, t2.keep kp⟩) (fun Z' i d x H2 H3 hd hz kp z2 y => ?_)⟩⟩
      obtain ⟨T, x1, x2, rfl, hT, rfl, f1, f2⟩ := y
      obtain ⟨d1, d2, g1, g2, rfl⟩ := zip_get hd
      obtain ⟨w1, h1, q1⟩ := rr1.get g1
      obtain ⟨w2, h2, q2⟩ := rr2.get g2
      have f1' : us[i]? = some x1 := f1
      have f2' : ws[i]? = some x2 := f2
      rw [h1] at f1'; cases f1'
      rw [h2] at f2'; cases f2'
      exact rep_pair z2 hT (Rep.step z hz kp _ _ q1) (Rep.step z hz kp _ _ q2)
    · exact absurd rfl ns
  · rw [hf] at qe
    exact qe x H1 rfl e1
/-- enumerate of a list -/
def enumFrom' (i : Nat) : List D → List D
  | [] => []
  | d :: ds => .tup [.int (i : Nat), d] :: enumFrom' (i + 1) ds
theorem enum_len : ∀ (ds : List D) (i : Nat), (enumFrom' i ds).length = ds.length
  | [], _ => rfl
  | d :: ds, i => by simp [enumFrom', enum_len ds (i + 1)]
theorem enum_get : ∀ {ds : List D} {i j : Nat} {d : D}, (enumFrom' j ds)[i]? = some d → ∃ x, ds[i]? = some x ∧ d = .tup [.int ((j + i : Nat) : Int), x]
  | [], _, _, _, h => by simp [enumFrom'] at h
  | x :: ds, 0, j, _, h => by simp [enumFrom'] at h; exact ⟨x, rfl, by simpa using h.symm⟩
  | x :: ds, i + 1, j, _, h => by
    obtain ⟨y, h1, h2⟩ := enum_get (ds := ds) (i := i) (j := j + 1) (by simpa [enumFrom'] using h)
    refine ⟨y, by simpa using h1, ?_⟩
    rw [h2, show j + 1 + i = j + (i + 1) by omega]
def enumA (fs : DEnv → R (List D)) : DEnv → R (List D) := fun δ => (fs δ).bind fun ds => match ds with
  | [.lst xs] => .ok (enumFrom' 0 xs)
  | _ => .stk
theorem i_enum {elts : List Expr} {kk : Nat} {tpos : Pos} (F : Fit G S k X) (hg : S.sc.names.lookup (PySem.Str.ofString "enumerate") = some .globalImplicit) (hm : G.mg (PySem.Str.ofString "enumerate") = none) (ha : DA G X W own lk [a] t fs)
    (hs : starEach [a] X.env = [(false, eval a X.env)] := by rfl) :
    DI G X W own lk (.Tuple elts kk tpos) (.Call (.Name (PySem.Str.ofString "enumerate") p) [a] [] pos) (iEnum G.K t) (enumA fs) := by
  refine ⟨F.K ▸ pi_enum (fit_gl F hg) (by rw [F.mg]; exact hm) ha.1 hs, ?_⟩
  intro Z₀ α δ σ H R₀ E hX q qe ns
  unfold enumA at q qe ns
  refine ha.2 Z₀ α δ σ H _ E hX (fun ds vs H1 hf e1 r1 => ?_) (fun x H1 hf e1 => ?_) (R.notstk_bind ns)
  · rw [hf] at q ns
    simp only [R.bind_ok] at q ns
    have z : ZOk H1 (ZZ Z₀ α (minus own lk)) := (E.ext e1).zsub minus_sub
    split at ns
    · rename_i xs
      obtain ⟨v, u, rfl, ⟨p1, us, rfl, t1, n1, rr1⟩, rfl⟩ := r1
      refine ⟨p1, us, rfl, SqL.of t1, q _ _ H1 _ _ rfl e1 (by rw [enum_len, ← rr1.len]; exact walk_enum) (fun H' kp => SqL.of (kp _ _ n1 t1)) (fun Z' i d x H2 H3 hd hz kp z2 y => ?_)⟩
      obtain ⟨T, x1, x2, rfl, hT, rfl, f1, f2⟩ := y
      obtain ⟨d2, g2, rfl⟩ := enum_get hd
      obtain ⟨w2, h2, q2⟩ := rr1.get g2
      have f2' : us[i]? = some x2 := f2
      rw [h2] at f2'; cases f2'
      cases f1
      exact rep_pair z2 hT (by rw [Nat.zero_add]; rfl) (Rep.step z hz kp _ _ q2)
    · exact absurd rfl ns
  · rw [hf] at qe
    exact qe x H1 rfl e1

/-! ### targets -/
def SG (G : Cfg) (own ts : List Nat) (g : TG) (h : D → DEnv → R DEnv) : Prop := ∀ (Z₀ : Addr → Prop) (α : Nat → List Addr) (δ : DEnv) (σ : L2.St) (H : Hp) (v : V) (d : D) (Q : L2.St → Hp → Prop), EnvOk G.K Z₀ α own δ σ H → Rep G.K H (ZZ Z₀ α own) d v →
  (∀ δ' σ', h d δ = .ok δ' → EnvOk G.K Z₀ α own δ' σ' H → (∀ vs, (∀ i ∈ ts, i ∈ vs) → wipe σ' vs = wipe σ vs) → Q σ' H) → (∃ δ', h d δ = .ok δ') → g v σ H Q
def SGs (G : Cfg) (own ts : List Nat) (g : TGs) (h : List D → DEnv → R DEnv) : Prop := ∀ (Z₀ : Addr → Prop) (α : Nat → List Addr) (δ : DEnv) (σ : L2.St) (H : Hp) (vs : List V) (ds : List D) (Q : L2.St → Hp → Prop), EnvOk G.K Z₀ α own δ σ H → RepL G.K H (ZZ Z₀ α own) ds vs →
  (∀ δ' σ', h ds δ = .ok δ' → EnvOk G.K Z₀ α own δ' σ' H → (∀ vs, (∀ i ∈ ts, i ∈ vs) → wipe σ' vs = wipe σ vs) → Q σ' H) → (∃ δ', h ds δ = .ok δ') → g vs σ H Q
def DG (G : Cfg) (X : Cx) (own ts : List Nat) (tg : Expr) (g : TG) (h : D → DEnv → R DEnv) : Prop := PG X tg g ∧ SG G own ts g h
def DGs (G : Cfg) (X : Cx) (own ts : List Nat) (tg : List Expr) (g : TGs) (h : List D → DEnv → R DEnv) : Prop := PGs X tg g ∧ SGs G own ts g h
def putD (i : Nat) : D → DEnv → R DEnv := fun d δ => if i < δ.length then .ok (δ.set i (some d)) else .stk
theorem wipe_set {σ : L2.St} {i : Nat} {x : Option V} : ∀ {vs : List Nat}, i ∈ vs → wipe (σ.set i x) vs = wipe σ vs
  | v :: vs, h => by
    unfold wipe
    by_cases e : i ∈ vs
    · rw [wipe_set e]
    · rcases List.mem_cons.mp h with rfl | h'
      · have : wipe (σ.set i x) vs = (wipe σ vs).set i x := by
          clear h
          induction vs with
          | nil => rfl
          | cons w ws ih =>
            have hne : i ≠ w := fun z => e (by rw [z]; exact List.mem_cons_self)
            unfold wipe
            rw [ih (fun z => e (List.mem_cons_of_mem _ z)), List.set_comm _ _ hne]
        rw [this, List.set_set]
      · exact absurd h' e
theorem g_name {i : Nat} (F : Fit G S k X) (hN : S.N.Nodup) (hi : S.N[i]? = some x) (hx : L2.Loc S.sc x) (hf : S.fn x = true ∨ S.sc.names.lookup x = some .local) (ho : i ∉ own) : DG G X own [i] (.Name x pos) (gName i) (putD i) := by
  refine ⟨pg_name (by rw [F.N]; exact hN) (by rw [F.N]; exact hi) (by rw [F.sc]; exact hx) (by rw [F.fn, F.sc]; exact hf), ?_⟩
  intro Z₀ α δ σ H v d Q E r q hq
  unfold putD at q hq
  by_cases hl : i < δ.length
  · rw [if_pos hl] at q
    exact q _ _ rfl (E.put hl ho r) (fun vs h => wipe_set (h i (by simp)))
  · rw [if_neg hl] at hq
    obtain ⟨_, h⟩ := hq; cases h
def nilT : List D → DEnv → R DEnv := fun ds δ => match ds with
  | [] => .ok δ
  | _ => .stk
def consT (h : D → DEnv → R DEnv) (hs : List D → DEnv → R DEnv) : List D → DEnv → R DEnv := fun ds δ => match ds with
  | d :: r => (h d δ).bind fun δ1 => hs r δ1
  | [] => .stk
def tupT (hs : List D → DEnv → R DEnv) : D → DEnv → R DEnv := fun d δ => match d with
  | .tup ds => hs ds δ
  | _ => .stk
theorem gs_nil : DGs G X own [] [] gNil nilT := by
  refine ⟨pgs_nil, ?_⟩
  intro Z₀ α δ σ H vs ds Q E r q hq
  unfold nilT at q hq
  cases ds with
  | nil => cases (show vs = [] from r); exact ⟨rfl, q _ _ rfl E (fun _ _ => rfl)⟩
  | cons d ds => obtain ⟨_, h⟩ := hq; cases h
theorem gs_cons {e : Expr} {es : List Expr} {g : TG} {gs : TGs} {h : D → DEnv → R DEnv} {hs : List D → DEnv → R DEnv} (h1 : DG G X own l1 e g h) (h2 : DGs G X own l2 es gs hs) (hst : (assignEach (e :: es) X.env).map (·.2) = assign e X.env :: (assignEach es X.env).map (·.2) := by rfl) :
    DGs G X own (l1 ++ l2) (e :: es) (gCons g gs) (consT h hs) := by
  refine ⟨pgs_cons h1.1 h2.1 hst, ?_⟩
  intro Z₀ α δ σ H vs ds Q E r q hq
  unfold consT at q hq
  cases ds with
  | nil => obtain ⟨_, h⟩ := hq; cases h
  | cons d ds =>
    obtain ⟨v, u, rfl, r1, r2⟩ := r
    simp only at q hq
    cases hh : h d δ with
    | ok δ1 =>
      rw [hh] at q hq
      simp only [R.bind_ok] at q hq
      refine ⟨v, u, rfl, h1.2 Z₀ α δ σ H v d _ E r1 (fun δ' σ' e1 E1 w1 => ?_) ⟨δ1, hh⟩⟩
      rw [hh] at e1; cases e1
      exact h2.2 Z₀ α δ1 σ' H u ds Q E1 r2 (fun δ2 σ2 e2 E2 w2 => q δ2 σ2 e2 E2 fun vs hv => (w2 vs fun i hi => hv i (List.mem_append_right _ hi)).trans (w1 vs fun i hi => hv i (List.mem_append_left _ hi))) hq
    | err _ => rw [hh] at hq; obtain ⟨_, h⟩ := hq; cases h
    | stk => rw [hh] at hq; obtain ⟨_, h⟩ := hq; cases h
theorem hs_len : ∀ {ds : List D} {es : List Expr} {gs : TGs} {hs : List D → DEnv → R DEnv} {ts : List Nat} {δ δ' : DEnv}, True → True := fun _ => True.intro
/-- (a, b, ..) from a tuple -/
theorem g_tup {es : List Expr} {kk n : Nat} {gs : TGs} {hs : List D → DEnv → R DEnv} (F : Fit G S k X) (h : DGs G X own l1 es gs hs) (hn : (assignEach es X.env).length = n) (hst : (assignEach es X.env).findIdx? (·.1) = none := by rfl) (hl : ∀ ds δ δ', hs ds δ = .ok δ' → ds.length = n) (hh : S.hot = false := by rfl) :
    DG G X own l1 (.Tuple es kk pos) (gTup G.K n gs) (tupT hs) := by
  refine ⟨F.K ▸ pg_tup (F.calm hh) h.1 hn hst, ?_⟩
  intro Z₀ α δ σ H v d Q E r q hq
  unfold tupT at q hq
  cases d with
  | tup ds =>
    obtain ⟨p, vs, rfl, t, rr⟩ := r
    obtain ⟨δ', hd⟩ := hq
    exact ⟨p, vs, rfl, t.sqT, by rw [rr.len]; exact hl _ _ _ hd, h.2 Z₀ α δ σ H vs ds Q E rr q ⟨δ', hd⟩⟩
  | _ => obtain ⟨_, h⟩ := hq; cases h
theorem lenT_nil : ∀ ds δ δ', nilT ds δ = .ok δ' → ds.length = 0 := fun ds δ δ' h => by
  cases ds with
  | nil => rfl
  | cons _ _ => cases h
theorem lenT_cons {h : D → DEnv → R DEnv} {hs : List D → DEnv → R DEnv} {n : Nat} (hl : ∀ ds δ δ', hs ds δ = .ok δ' → ds.length = n) : ∀ ds δ δ', consT h hs ds δ = .ok δ' → ds.length = n + 1 := fun ds δ δ' q => by
  cases ds with
  | nil => cases q
  | cons d ds =>
    unfold consT at q
    simp only at q
    cases hh : h d δ with
    | ok δ1 => rw [hh] at q; simp [hl _ _ _ q]
    | err _ => rw [hh] at q; cases q
    | stk => rw [hh] at q; cases q
end
end DL

set_option maxRecDepth 100001
set_option maxHeartbeats 1000001
namespace DL
open PySem PySem.Spec PyProof.Rows L2

abbrev W0 : WX := fun _ _ _ _ => False
def Sco.blk (S : Sco) (scope : Scope) : Sco := { N := S.N, sc := relS scope S.sc, fn := fun x => scope.names.lookup x == some .cell, hot := S.hot, top := false }
theorem Fit.blk {G : Cfg} {S : Sco} {k : Nat} {X : Cx} (F : Fit G S k X) (s : Shared) (H : Hp) (scope : Scope) (C : Addr) (cl : List (PySem.Str × Addr)) (fp : List Addr) : Fit G (S.blk scope) k (X.blk s H scope (compEnvC scope cl C X.env) fp) where
  prog := F.prog
  w := F.w
  K := F.K
  mg := F.mg
  base := F.base
  N := F.N
  sc := by
    show relS scope X.env.scope = relS scope S.sc
    rw [F.sc]
  fn := rfl
  room' := F.room'
  calm' := F.calm'
  xi' := F.xi'
  tp' := fun h => nomatch h
def wipeD (δ : DEnv) : List Nat → DEnv
  | [] => δ
  | v :: vs => (wipeD δ vs).set v none
section
variable {K : PySem.W.Frag} {H H' : Hp} {Z₀ : Addr → Prop} {α : Nat → List Addr} {own own' : List Nat} {δ : DEnv} {σ : L2.St}
theorem EnvOk.wipe (E : EnvOk K Z₀ α own δ σ H) : ∀ (vs : List Nat), (∀ i ∈ vs, i ∉ own) → EnvOk K Z₀ α own (wipeD δ vs) (L2.wipe σ vs) H
  | [], _ => E
  | v :: vs, h => by
    unfold wipeD L2.wipe
    exact (EnvOk.wipe E vs fun i hi => h i (List.mem_cons_of_mem _ hi)).unset (h v List.mem_cons_self)
theorem EnvOk.guard1 (E : EnvOk K Z₀ α own δ σ H) {p : Addr} (hp : H p = none) (e : Ext H H') (hm : ∃ o, H' p = some o ∧ Mut (some o)) : EnvOk K (fun b => Z₀ b ∨ b = p) α own δ σ H' := by
  have h := E.guard (φ := [p]) (H' := H') (fun a q => by rw [List.mem_singleton.mp q]; exact hp) e (fun a q => by rw [List.mem_singleton.mp q]; exact hm)
  have e : (fun b => Z₀ b ∨ b ∈ [p]) = fun b => Z₀ b ∨ b = p := by funext b; simp
  rwa [e] at h
theorem ZZ.guard1 {p : Addr} : ∀ b, (ZZ Z₀ α own b ∨ b = p) → ZZ (fun b => Z₀ b ∨ b = p) α own b := fun b => by
  rintro ((q | ⟨j, hj, q⟩) | q)
  · exact .inl (.inl q)
  · exact .inr ⟨j, hj, q⟩
  · exact .inl (.inr q)
theorem wipe_idem (σ : L2.St) : ∀ vs : List Nat, L2.wipe (L2.wipe σ vs) vs = L2.wipe σ vs := fun vs => by
  have h : ∀ (ws : List Nat), (∀ i ∈ ws, i ∈ vs) → L2.wipe (L2.wipe σ ws) vs = L2.wipe σ vs := by
    intro ws
    induction ws with
    | nil => intro _; rfl
    | cons w ws ih =>
      intro h
      show L2.wipe ((L2.wipe σ ws).set w none) vs = _
      rw [wipe_set (h w List.mem_cons_self)]
      exact ih fun i hi => h i (List.mem_cons_of_mem _ hi)
  exact h vs fun _ hi => hi
end
def DTs (G : Cfg) (X : Cx) (W : WX) (own : List Nat) (es : List Expr) (t : TT) (f : DEnv → R Bool) : Prop := PTs X es t ∧ ST G W own t f
def yesB : DEnv → R Bool := fun _ => .ok true
theorem ts_nil {G : Cfg} {X : Cx} {W : WX} {own : List Nat} : DTs G X W own [] tYes yesB := ⟨pts_nil, fun Z₀ α δ σ H Q E hX q qe ns => q true H rfl (Same.refl H)⟩
theorem ts_one {G : Cfg} {X : Cx} {W : WX} {own : List Nat} {c : Expr} {t : TT} {f : DEnv → R Bool} (h : DT G X W own c t f) : DTs G X W own [c] t f := ⟨pts_one h.1, h.2⟩
def R.ne {β : Type} : R β → R β
  | .ok a => .ok a
  | _ => .stk
@[simp] theorem R.ne_ok {β : Type} (a : β) : (R.ok a).ne = .ok a := rfl
def compD (vs : List Nat) (h : D → DEnv → R DEnv) (c : DEnv → R Bool) (el : DEnv → R D) (δ : DEnv) : List D → R (List D)
  | [] => .ok []
  | d :: ds => (h d (wipeD δ vs)).bind fun δ1 => (c δ1).bind fun b => if b = true then (el δ1).bind fun y => (compD vs h c el δ ds).bind fun r => .ok (y :: r) else compD vs h c el δ ds
def lcD (vs : List Nat) (f : DEnv → R (List D)) (h : D → DEnv → R DEnv) (c : DEnv → R Bool) (el : DEnv → R D) : DEnv → R D := fun δ => (f δ).bind fun items => (compD vs h c el δ items).ne.bind fun r => if r.length ≤ sizeLine then .ok (.lst r) else .stk
theorem compD_step {vs : List Nat} {h : D → DEnv → R DEnv} {c : DEnv → R Bool} {el : DEnv → R D} {δ : DEnv} {d : D} {ds r : List D} (q : compD vs h c el δ (d :: ds) = .ok r) :
    ∃ δ1 b, h d (wipeD δ vs) = .ok δ1 ∧ c δ1 = .ok b ∧ ((b = true ∧ ∃ y r', el δ1 = .ok y ∧ compD vs h c el δ ds = .ok r' ∧ r = y :: r') ∨ (b = false ∧ compD vs h c el δ ds = .ok r)) := by
  unfold compD at q
  cases e1 : h d (wipeD δ vs) with
  | ok δ1 =>
    rw [e1] at q
    simp only [R.bind_ok] at q
    cases e2 : c δ1 with
    | ok b =>
      rw [e2] at q
      simp only [R.bind_ok] at q
      refine ⟨δ1, b, rfl, e2, ?_⟩
      cases b with
      | true =>
        rw [if_pos rfl] at q
        cases e3 : el δ1 with
        | ok y =>
          rw [e3] at q
          simp only [R.bind_ok] at q
          cases e4 : compD vs h c el δ ds with
          | ok r' => rw [e4] at q; cases q; exact .inl ⟨rfl, y, r', rfl, rfl, rfl⟩
          | err _ => rw [e4] at q; cases q
          | stk => rw [e4] at q; cases q
        | err _ => rw [e3] at q; cases q
        | stk => rw [e3] at q; cases q
      | false =>
        rw [if_neg Bool.false_ne_true] at q
        exact .inr ⟨rfl, q⟩
    | err _ => rw [e2] at q; cases q
    | stk => rw [e2] at q; cases q
  | err _ => rw [e1] at q; cases q
  | stk => rw [e1] at q; cases q
section
variable {G : Cfg} {S : Sco} {k : Nat} {X : Cx} {W : WX} {own lk lk2 : List Nat} {pos : Pos} {elt tg iter : Expr} {ifs : List Expr} {scope : Scope} {bo : List (PySem.Str × Nat)} {wi : TI} {g : TG} {tt : TT} {te : TE} {f : DEnv → R (List D)} {h : D → DEnv → R DEnv} {c : DEnv → R Bool} {el : DEnv → R D} {ts : List Nat}
theorem SF.lc (hxi : ∀ σ, G.xi σ) (hi : SI G W own lk wi f) (hg : SG G (minus own lk) ts g h) (ht : ST G W0 (minus own lk) tt c) (he : SE G W0 (minus own lk) lk2 te el) (hts : ∀ i ∈ ts, i ∈ bo.map (·.2)) (hvs : ∀ i ∈ bo.map (·.2), i ∉ minus own lk) :
    SF G W own (lk ++ lk2) (tLc wi g tt te (bo.map (·.2))) (lcD (bo.map (·.2)) f h c el) := by
  intro Z₀ α δ σ H Q E hX q qe ns
  unfold lcD at q qe ns
  refine hi Z₀ α δ σ H _ E hX (fun ds J H1 Gd Y hf e1 wk hG hY => ?_) (fun x H1 hf e1 => ?_) (R.notstk_bind ns)
  · rw [hf] at q ns
    simp only [R.bind_ok] at q ns
    cases hc : compD (bo.map (·.2)) h c el δ ds with
    | err _ => rw [hc] at ns; exact absurd rfl ns
    | stk => rw [hc] at ns; exact absurd rfl ns
    | ok res =>
      rw [hc] at q ns
      simp only [R.ne_ok, R.bind_ok] at q ns
      by_cases hz : res.length ≤ sizeLine
      · rw [if_pos hz] at q
        intro Dd hD
        have E1 := (E.ext e1).weak (own' := minus own lk) minus_sub
        have zr : ∀ i, i ∈ minus own (lk ++ lk2) → i ∈ minus (minus own lk) lk2 := fun i hi => mem_minus.mpr ⟨minus_l hi, fun z => (mem_minus.mp (minus_r hi)).2 z⟩
        refine lc_it wk (fun i H2 => ∃ (acc rest : List D) (av : List V), res = acc ++ rest ∧ compD (bo.map (·.2)) h c el δ (ds.drop i) = .ok rest ∧ H2 Dd = some (.lst av) ∧ RepL G.K H2 (fun b => ZZ Z₀ α (minus own (lk ++ lk2)) b ∨ b = Dd) acc av ∧ Ext H1 H2)
          ⟨[], res, [], rfl, hc, upd_same, rfl, ext_upd hD⟩ (fun i H2 hi p => ?_) (fun i x H2 H3 hi p y => ?_) (fun H2 p => ?_)
        · obtain ⟨acc, rest, av, _, _, _, _, ex⟩ := p
          exact hG H2 (.of ex)
        · obtain ⟨acc, rest, av, er, hr, hDd, ra, ex⟩ := p
          have hd : ds[i]? = some ds[i] := List.getElem?_eq_getElem hi
          have z2 : ZOk H2 (ZZ Z₀ α (minus own lk)) := E1.zok.ext ex
          have zg : ZOk H2 (ZZ (fun b => Z₀ b ∨ b = Dd) α (minus own lk)) := (E1.guard1 hD ex ⟨_, hDd, True.intro⟩).zok
          obtain ⟨e3, rx'⟩ := hY (ZZ (fun b => Z₀ b ∨ b = Dd) α (minus own lk)) i _ x H2 H3 hd (fun a q => by
            rcases q with (q | rfl) | q
            · exact .inl (.inl q)
            · exact .inr hD
            · exact .inl (.inr q)) (.of ex) zg y
          rw [List.drop_eq_getElem_cons hi] at hr
          obtain ⟨δ1, b, h1, h2, hb⟩ := compD_step hr
          have e13 := ex.trans e3
          have hm3 : ∃ o, H3 Dd = some o ∧ Mut (some o) := ⟨_, e3 _ _ hDd, True.intro⟩
          have E3 := (E1.guard1 hD e13 hm3).wipe (bo.map (·.2)) hvs
          refine hg _ α _ _ H3 x _ _ E3 rx' (fun δ' σ' hh E4 w4 => ?_) ⟨δ1, h1⟩
          rw [h1] at hh; cases hh
          refine ⟨(w4 _ hts).trans (wipe_idem _ _), ht _ α _ _ H3 _ E4 (hxi _) (fun b' H4 hb' e4 => ?_) (fun x H4 hx e4 => ?_) (fun z => by rw [h2] at z; cases z)⟩
          · rw [h2] at hb'; cases hb'
            rcases hb with ⟨rfl, y, r', hy, hr', rfl⟩ | ⟨rfl, hr'⟩
            · rw [if_pos rfl]
              have E5 := E4.ext e4
              refine he _ α _ _ H4 _ E5 (hxi _) (fun y' v H5 hy' e5 r5 => ?_) (fun x H5 hx e5 => ?_) (fun z => by rw [hy] at z; cases z)
              · rw [hy] at hy'; cases hy'
                have e35 := e4.trans e5
                have hD5 : H5 Dd = some (.lst av) := e35 _ _ (e3 _ _ hDd)
                have zd2 : ZOk H2 (fun b => ZZ Z₀ α (minus own (lk ++ lk2)) b ∨ b = Dd) := fun b hb => by
                  rcases hb with hb | rfl
                  · exact z2 b (ZZ.mono (fun i hi => minus_l hi) b hb)
                  · exact ⟨_, hDd, True.intro⟩
                have zd5 : ZOk H5 (fun b => ZZ Z₀ α (minus own (lk ++ lk2)) b ∨ b = Dd) := zd2.ext (e3.trans e35)
                have kp : Keeps (fun b => ZZ Z₀ α (minus own (lk ++ lk2)) b ∨ b = Dd) H5 (upd H5 Dd (.lst (av ++ [v]))) := fun b o n hb => by
                  rw [upd_ne (fun z => n (.inr z))]
                  exact hb
                refine ⟨av, hD5, ?_, acc ++ [y], r', av ++ [v], by rw [er]; simp, hr', upd_same, ?_, ?_⟩
                · rw [ra.len]
                  rw [er, List.length_append, List.length_cons] at hz
                  omega
                · refine RepL.app (RepL.mono zd5.nofrz kp (fun _ q => q) _ _ (ra.ext zd2 (e3.trans e35))) ⟨v, [], rfl, ?_, rfl⟩
                  refine Rep.mono zd5.nofrz kp (fun _ q => q) _ _ (r5.less ((E5.ext e5).zsub minus_sub) fun b hb => ZZ.guard1 b ?_)
                  rcases hb with hb | hb
                  · exact .inl (ZZ.mono zr b hb)
                  · exact .inr hb
                · intro b o hb
                  have : b ≠ Dd := fun z => by rw [z, hD] at hb; cases hb
                  rw [upd_ne this]
                  exact e35 _ _ (e13 _ _ hb)
              · rw [hy] at hx; cases hx
            · rw [if_neg Bool.false_ne_true]
              have zd2 : ZOk H2 (fun b => ZZ Z₀ α (minus own (lk ++ lk2)) b ∨ b = Dd) := fun b hb => by
                rcases hb with hb | rfl
                · exact z2 b (ZZ.mono (fun i hi => minus_l hi) b hb)
                · exact ⟨_, hDd, True.intro⟩
              exact ⟨acc, rest, av, er, hr', (e3.trans e4) _ _ hDd, ra.ext zd2 (e3.trans e4), e13.trans e4⟩
          · rw [h2] at hx; cases hx
        · obtain ⟨acc, rest, av, er, hr, hDd, ra, ex⟩ := p
          rw [List.drop_length] at hr
          cases (show R.ok [] = R.ok rest from hr)
          rw [List.append_nil] at er
          subst er
          exact q _ _ _ H2 rfl (e1.trans ex) (New.lst (e1.free hD) hDd (RepL.map (.of .refl fun b hb => hb.imp id fun h => List.mem_singleton.mp h) _ _ ra))
      · rw [if_neg hz] at ns; exact absurd rfl ns
  · rw [hf] at qe
    exact qe x H1 rfl e1
end
end DL

set_option maxRecDepth 100001
set_option maxHeartbeats 1000001
namespace DL
open PySem PySem.Spec PyProof.Rows L2

inductive Fl where
  | nx (δ : DEnv) | rt (d : D) | bk (δ : DEnv) | ct (δ : DEnv) | ex (x : Exn) (δ : DEnv) | stk
def OZ (α : Nat → List Addr) (own : List Nat) : Addr → Prop := fun a => ∃ i, i ∈ own ∧ a ∈ α i
/-- from one state to a later one -/
structure Step (α : Nat → List Addr) (own : List Nat) (H : Hp) (α' : Nat → List Addr) (own' : List Nat) (H' : Hp) : Prop where
  keep : Keeps (OZ α own) H H'
  new : ∀ i ∈ own', ∀ a ∈ α' i, OZ α own a ∨ H a = none
def RetS (fr : Bool) (K : PySem.W.Frag) (α : Nat → List Addr) (own : List Nat) (H H' : Hp) (Z : Addr → Prop) (d : D) (v : V) : Prop :=
  (fr = true ∧ ∃ φ, (∀ a ∈ φ, OZ α own a ∨ H a = none) ∧ φ.Nodup ∧ TopT K H' (fun b => Z b ∨ b ∈ φ) d v φ) ∨ (fr = true ∧ imm d = true ∧ Rep K H' Z d v) ∨ (fr = false ∧ Rep K H' Z d v)
section
variable {α α1 α2 : Nat → List Addr} {own own1 own2 : List Nat} {H H1 H2 : Hp}
theorem Step.free {a : Addr} (s : Step α own H α1 own1 H1) (h : OZ α1 own1 a ∨ H1 a = none) : OZ α own a ∨ H a = none := by
  rcases h with ⟨i, hi, ha⟩ | h
  · exact s.new i hi a ha
  · by_cases q : OZ α own a
    · exact .inl q
    · cases e : H a with
      | none => exact .inr rfl
      | some o => rw [s.keep a o q e] at h; cases h
theorem Step.trans (s : Step α own H α1 own1 H1) (r : Step α1 own1 H1 α2 own2 H2) : Step α own H α2 own2 H2 := by
  refine ⟨fun a o n h => ?_, fun i hi a ha => s.free (r.new i hi a ha)⟩
  refine r.keep a o (fun q => ?_) (s.keep a o n h)
  rcases s.free (.inl q) with q | q
  · exact n q
  · rw [q] at h; cases h
theorem Step.keeps {own' : List Nat} (s : Step α own H α1 own1 H1) (e : Keeps (OZ α1 own1) H1 H2) : Keeps (OZ α own) H H2 := (s.trans (r := (⟨e, fun i hi => nomatch hi⟩ : Step α1 own1 H1 α1 [] H2))).keep
theorem Step.refl (h : ∀ i ∈ own1, i ∈ own) : Step α own H α own1 H := ⟨fun _ _ _ h => h, fun i hi a ha => .inl ⟨i, h i hi, ha⟩⟩
theorem Step.ext (e : Ext H H1) (h : ∀ i ∈ own1, i ∈ own) : Step α own H α own1 H1 := ⟨.of e, fun i hi a ha => .inl ⟨i, h i hi, ha⟩⟩
theorem Step.ret {fr : Bool} {K : PySem.W.Frag} {Z : Addr → Prop} {d : D} {v : V} (s : Step α own H α1 own1 H1) (r : RetS fr K α1 own1 H1 H2 Z d v) : RetS fr K α own H H2 Z d v := by
  rcases r with ⟨h, φ, q, t⟩ | r
  · exact .inl ⟨h, φ, fun a ha => s.free (q a ha), t⟩
  · exact .inr r
end
def SS (G : Cfg) (W : WX) (fr : Bool) (own own' ol ox : List Nat) (t : TS) (g : DEnv → Fl) : Prop := ∀ (Z₀ : Addr → Prop) (α : Nat → List Addr) (δ : DEnv) (σ : L2.St) (H : Hp) (Dn : Ends), EnvOk G.K Z₀ α own δ σ H → G.xi σ →
  (∀ δ' α' σ' H', g δ = .nx δ' → EnvOk G.K Z₀ α' own' δ' σ' H' → Step α own H α' own' H' → Dn.nx σ' H') →
  (∀ d v H', g δ = .rt d → Keeps (OZ α own) H H' → RetS fr G.K α own H H' Z₀ d v → Dn.rt v H') →
  (∀ δ' α' σ' H', g δ = .bk δ' → EnvOk G.K Z₀ α' ol δ' σ' H' → Step α own H α' ol H' → Dn.bk σ' H') →
  (∀ δ' α' σ' H', g δ = .ct δ' → EnvOk G.K Z₀ α' ol δ' σ' H' → Step α own H α' ol H' → Dn.ct σ' H') →
  (∀ x δ' α' σ' H', g δ = .ex x δ' → EnvOk G.K Z₀ α' ox δ' σ' H' → Step α own H α' ox H' → W (G.cv x.cls) none σ' H') →
  g δ ≠ .stk → t Dn σ H
def DS (G : Cfg) (X : Cx) (W : WX) (fr : Bool) (own own' ol ox : List Nat) (st : Stmt) (t : TS) (g : DEnv → Fl) : Prop := PS X st t ∧ SS G W fr own own' ol ox t g
def DSs (G : Cfg) (X : Cx) (W : WX) (fr : Bool) (own own' ol ox : List Nat) (st : List Stmt) (t : TS) (g : DEnv → Fl) : Prop := PSs X st t ∧ SS G W fr own own' ol ox t g
def sub (l m : List Nat) : Bool := l.all fun i => m.contains i
theorem sub_mem {l m : List Nat} (h : sub l m = true) : ∀ i ∈ l, i ∈ m := fun i hi => by
  have := List.all_eq_true.mp h i hi
  simpa using this
/-- what stays owned behind the evaluation of a value that may hold the lists of lk, stored at i -/
def left (own' own lk : List Nat) : Bool := own'.all fun j => own.contains j && !(lk.contains j)
theorem left_mem {own' own lk : List Nat} (h : left own' own lk = true) : ∀ j ∈ own', j ∈ minus own lk := fun j hj => by
  have := List.all_eq_true.mp h j hj
  simp at this
  exact mem_minus.mpr ⟨this.1, this.2⟩
def nxD : DEnv → Fl := fun δ => .nx δ
def seqF (g h : DEnv → Fl) : DEnv → Fl := fun δ => match g δ with
  | .nx δ' => h δ'
  | .rt d => .rt d
  | .bk δ' => .bk δ'
  | .ct δ' => .ct δ'
  | .ex x δ' => .ex x δ'
  | .stk => .stk
section
variable {G : Cfg} {S : Sco} {k : Nat} {X : Cx} {W : WX} {fr : Bool} {own own' own1 ol ox lk l1 l2 : List Nat} {pos pos' : Pos} {st : Stmt} {rest : List Stmt} {t u : TS} {g h : DEnv → Fl} {e a b : Expr} {te ta tb : TE} {f f2 : DEnv → R D} {x y : PySem.Str} {i j : Nat}
theorem ss_nil (hs : sub own' own = true) : DSs G X W fr own own' ol ox [] tNext nxD := by
  refine ⟨pss_nil, ?_⟩
  intro Z₀ α δ σ H Dn E hX qn qr qb qc qe ns
  exact qn δ α σ H rfl (E.weak (sub_mem hs)) (.refl (sub_mem hs))
theorem SS.seq (hxi : ∀ σ, G.xi σ) (h1 : SS G W fr own own1 ol ox t g) (h2 : SS G W fr own1 own' ol ox u h) : SS G W fr own own' ol ox (tSeq t u) (seqF g h) := by
  intro Z₀ α δ σ H Dn E hX qn qr qb qc qe ns
  unfold seqF at qn qr qb qc qe ns
  refine h1 Z₀ α δ σ H { Dn with nx := u Dn } E hX (fun δ' α' σ' H' hg E' s => ?_) (fun d v H' hg kp r => ?_) (fun δ' α' σ' H' hg E' s => ?_) (fun δ' α' σ' H' hg E' s => ?_) (fun x δ' α' σ' H' hg E' s => ?_) (fun hg => by rw [hg] at ns; exact ns rfl)
  · rw [hg] at qn qr qb qc qe ns
    exact h2 Z₀ α' δ' σ' H' Dn E' (hxi _) (fun δ2 α2 σ2 H2 hh E2 s2 => qn δ2 α2 σ2 H2 hh E2 (s.trans s2)) (fun d v H2 hh kp r => qr d v H2 hh (s.keeps (own' := []) kp) (s.ret r)) (fun δ2 α2 σ2 H2 hh E2 s2 => qb δ2 α2 σ2 H2 hh E2 (s.trans s2)) (fun δ2 α2 σ2 H2 hh E2 s2 => qc δ2 α2 σ2 H2 hh E2 (s.trans s2)) (fun x δ2 α2 σ2 H2 hh E2 s2 => qe x δ2 α2 σ2 H2 hh E2 (s.trans s2)) ns
  · rw [hg] at qr; exact qr d v H' rfl kp r
  · rw [hg] at qb; exact qb δ' α' σ' H' rfl E' s
  · rw [hg] at qc; exact qc δ' α' σ' H' rfl E' s
  · rw [hg] at qe; exact qe x δ' α' σ' H' rfl E' s
theorem ss_cons (hxi : ∀ σ, G.xi σ) (h1 : DS G X W fr own own1 ol ox st t g) (h2 : DSs G X W fr own1 own' ol ox rest u h) : DSs G X W fr own own' ol ox (st :: rest) (tSeq t u) (seqF g h) := ⟨pss_cons h1.1 h2.1, SS.seq hxi h1.2 h2.2⟩
theorem ss_one (h1 : DS G X W fr own own' ol ox st t g) : DSs G X W fr own own' ol ox [st] t g := ⟨pss_one h1.1, h1.2⟩
theorem s_pass (hs : sub own' own = true) : DS G X W fr own own' ol ox (.Pass pos) tNext nxD := ⟨ps_pass, (ss_nil (X := X) hs).2⟩
/-- a value, then something with it -/
def withF (f : DEnv → R D) (h : D → DEnv → Fl) : DEnv → Fl := fun δ => match f δ with
  | .ok d => h d δ
  | .err x => .ex x δ
  | .stk => .stk
def setF (i : Nat) (f : DEnv → R D) : DEnv → Fl := withF f fun d δ => if i < δ.length then .nx (δ.set i (some d)) else .stk
theorem SS.set (he : SE G W own lk te f) (hl : left own' own (i :: lk) = true) (hx : sub ox own = true) : SS G W fr own own' ol ox (tAsg te (gName i)) (setF i f) := by
  intro Z₀ α δ σ H Dn E hX qn qr qb qc qe ns
  unfold setF withF at qn qr qb qc qe ns
  refine he Z₀ α δ σ H _ E hX (fun d v H1 hf e1 r1 => ?_) (fun x H1 hf e1 => ?_) (fun hf => by rw [hf] at ns; exact ns rfl)
  · rw [hf] at qn ns
    simp only at qn ns
    have hm : ∀ j ∈ own', j ∈ minus own lk := fun j hj => minus_sub2 (fun z hz => List.mem_cons_of_mem _ hz) j (left_mem hl j hj)
    have ho : ∀ j ∈ own', j ∈ own := fun j hj => minus_sub j (hm j hj)
    have hi : i ∉ own' := fun q => (mem_minus.mp (left_mem hl i q)).2 List.mem_cons_self
    by_cases hlen : i < δ.length
    · rw [if_pos hlen] at qn
      have E1 := (E.ext e1).weak ho
      exact qn _ α _ H1 rfl (E1.put hlen hi (r1.less ((E.ext e1).zsub minus_sub) (ZZ.mono hm))) (.ext e1 ho)
    · rw [if_neg hlen] at ns; exact absurd rfl ns
  · rw [hf] at qe
    exact qe x δ α σ H1 rfl ((E.ext e1).weak (sub_mem hx)) (.ext e1 (sub_mem hx))
theorem s_set (F : Fit G S k X) (hN : S.N.Nodup) (hi : S.N[i]? = some x) (hv : L2.Loc S.sc x) (hf : S.fn x = true ∨ S.sc.names.lookup x = some .local) (he : DE G X W own lk e te f) (hl : left own' own (i :: lk) = true) (hx : sub ox own = true)
    (hs : swapsWith e (some (.Name x pos')) pos.line X.env = pure false := by rfl) : DS G X W fr own own' ol ox (.Assign [.Name x pos'] e pos) (tAsg te (gName i)) (setF i f) :=
  ⟨ps_set (by rw [F.N]; exact hN) (by rw [F.N]; exact hi) (by rw [F.sc]; exact hv) he.1 hs (by rw [F.fn, F.sc]; exact hf), SS.set he.2 hl hx⟩
theorem SS.setF (he : SF G W own lk te f) (hl : left own' own (i :: lk) = true) (hx : sub ox own = true) : SS G W fr own (i :: own') ol ox (tAsg te (gName i)) (setF i f) := by
  intro Z₀ α δ σ H Dn E hX qn qr qb qc qe ns
  unfold DL.setF withF at qn qr qb qc qe ns
  refine he Z₀ α δ σ H _ E hX (fun d v φ H1 hf e1 n => ?_) (fun x H1 hf e1 => ?_) (fun hf => by rw [hf] at ns; exact ns rfl)
  · rw [hf] at qn ns
    simp only at qn ns
    have hm : ∀ j ∈ own', j ∈ minus own lk := fun j hj => minus_sub2 (fun z hz => List.mem_cons_of_mem _ hz) j (left_mem hl j hj)
    have ho : ∀ j ∈ own', j ∈ own := fun j hj => minus_sub j (hm j hj)
    have hi : i ∉ own' := fun q => (mem_minus.mp (left_mem hl i q)).2 List.mem_cons_self
    by_cases hlen : i < δ.length
    · rw [if_pos hlen] at qn
      refine qn _ _ _ H1 rfl ((E.weak ho).putOwn hlen hi e1 (n.less (ZZ.mono hm))) ⟨.of e1, fun j hj a ha => ?_⟩
      by_cases q : j = i
      · subst q; exact .inr (n.free a (by simpa using ha))
      · refine .inl ⟨j, ho j ?_, by rw [if_neg q] at ha; exact ha⟩
        rcases List.mem_cons.mp hj with h | h
        · exact absurd h q
        · exact h
    · rw [if_neg hlen] at ns; exact absurd rfl ns
  · rw [hf] at qe
    exact qe x δ α σ H1 rfl ((E.ext e1).weak (sub_mem hx)) (.ext e1 (sub_mem hx))
theorem s_setF (F : Fit G S k X) (hN : S.N.Nodup) (hi : S.N[i]? = some x) (hv : L2.Loc S.sc x) (hf : S.fn x = true ∨ S.sc.names.lookup x = some .local) (he : DF G X W own lk e te f) (hl : left own' own (i :: lk) = true) (hx : sub ox own = true)
    (hs : swapsWith e (some (.Name x pos')) pos.line X.env = pure false := by rfl) : DS G X W fr own (i :: own') ol ox (.Assign [.Name x pos'] e pos) (tAsg te (gName i)) (setF i f) :=
  ⟨ps_set (by rw [F.N]; exact hN) (by rw [F.N]; exact hi) (by rw [F.sc]; exact hv) he.1 hs (by rw [F.fn, F.sc]; exact hf), SS.setF he.2 hl hx⟩
/-- return -/
def retF (f : DEnv → R D) : DEnv → Fl := withF f fun d _ => .rt d
theorem EnvOk.zz0 {K : PySem.W.Frag} {Z₀ : Addr → Prop} {α : Nat → List Addr} {own : List Nat} : ∀ b, Z₀ b → ZZ Z₀ α own b := fun _ h => .inl h
theorem s_ret (he : DE G X W own lk e te f) (hfr : fr = false) (hx : sub ox own = true) : DS G X W fr own own' ol ox (.Return (some e) pos) (tRet te) (retF f) := by
  refine ⟨ps_ret he.1, ?_⟩
  intro Z₀ α δ σ H Dn E hX qn qr qb qc qe ns
  unfold retF withF at qn qr qb qc qe ns
  refine he.2 Z₀ α δ σ H _ E hX (fun d v H1 hf e1 r1 => ?_) (fun x H1 hf e1 => ?_) (fun hf => by rw [hf] at ns; exact ns rfl)
  · rw [hf] at qr
    exact qr d v H1 rfl (.of e1) (.inr (.inr ⟨hfr, r1.less ((E.ext e1).zsub minus_sub) fun b hb => .inl hb⟩))
  · rw [hf] at qe
    exact qe x δ α σ H1 rfl ((E.ext e1).weak (sub_mem hx)) (.ext e1 (sub_mem hx))
/-- .. of what cannot be changed, from a def that gives new lists -/
theorem s_retI (he : DE G X W own lk e te f) (hfr : fr = true) (hx : sub ox own = true) : DS G X W fr own own' ol ox (.Return (some e) pos) (tRet te) (retF (chkImm f)) := by
  refine ⟨ps_ret he.1, ?_⟩
  intro Z₀ α δ σ H Dn E hX qn qr qb qc qe ns
  unfold retF withF at qn qr qb qc qe ns
  have h := he.2.chk
  refine h Z₀ α δ σ H _ E hX (fun d v H1 hf e1 r1 => ?_) (fun x H1 hf e1 => ?_) (fun hf => by rw [hf] at ns; exact ns rfl)
  · rw [hf] at qr
    have hi : imm d = true := by
      unfold chkImm at hf
      cases q : f δ with
      | ok d' =>
        rw [q] at hf
        simp only [R.bind_ok] at hf
        by_cases hi : imm d' = true
        · rw [if_pos hi] at hf; cases hf; exact hi
        · rw [if_neg hi] at hf; cases hf
      | err _ => rw [q] at hf; cases hf
      | stk => rw [q] at hf; cases hf
    exact qr d v H1 rfl (.of e1) (.inr (.inl ⟨hfr, hi, r1.less ((E.ext e1).zsub minus_sub) fun b hb => .inl hb⟩))
  · rw [hf] at qe
    exact qe x δ α σ H1 rfl ((E.ext e1).weak (sub_mem hx)) (.ext e1 (sub_mem hx))
theorem s_retF (he : DF G X W own lk e te f) (hfr : fr = true) (hx : sub ox own = true) : DS G X W fr own own' ol ox (.Return (some e) pos) (tRet te) (retF f) := by
  refine ⟨ps_ret he.1, ?_⟩
  intro Z₀ α δ σ H Dn E hX qn qr qb qc qe ns
  unfold retF withF at qn qr qb qc qe ns
  refine he.2 Z₀ α δ σ H _ E hX (fun d v φ H1 hf e1 n => ?_) (fun x H1 hf e1 => ?_) (fun hf => by rw [hf] at ns; exact ns rfl)
  · rw [hf] at qr
    exact qr d _ H1 rfl (.of e1) (.inl ⟨hfr, φ, fun a ha => .inr (n.free a ha), n.nd, TopT.of (n.less (Z' := Z₀) fun b hb => .inl hb).top⟩)
  · rw [hf] at qe
    exact qe x δ α σ H1 rfl ((E.ext e1).weak (sub_mem hx)) (.ext e1 (sub_mem hx))
/-- return x, x owning its list -/
theorem s_retO (F : Fit G S k X) (hN : S.N[i]? = some x) (hv : Vis S.sc x) (ho : i ∈ own) (hfr : fr = true) (h1 : (x == ("__debug__" : PySem.Str)) = false := by decide) (h2 : (x == ("__classdict__" : PySem.Str)) = false := by decide) :
    DS G X W fr own own' ol ox (.Return (some (.Name x pos')) pos) (tRet (tVar i)) (retF (nmD i)) := by
  refine ⟨ps_ret (pe_var (by rw [F.N]; exact hN) (by rw [F.sc]; exact hv) h1 h2), ?_⟩
  intro Z₀ α δ σ H Dn E hX qn qr qb qc qe ns
  obtain ⟨d, v, g1, g2, g3⟩ := E.top i ho
  refine ⟨_, g2, qr d _ H ?_ (.of (Same.refl H)) (.inl ⟨hfr, _, fun a ha => .inl ⟨i, ho, ha⟩, E.nd i ho, TopT.of (g3.less fun b hb => ?_)⟩)⟩
  · unfold retF withF nmD
    rw [g1]
  · rcases hb with hb | hb
    · exact .inl hb
    · exact .inr ⟨i, ho, hb⟩
def retNF : DEnv → Fl := fun _ => .rt .non
theorem s_retN : DS G X W fr own own' ol ox (.Return none pos) tRetN retNF := by
  refine ⟨ps_retN, ?_⟩
  intro Z₀ α δ σ H Dn E hX qn qr qb qc qe ns
  refine qr .non .non H rfl (.of (Same.refl H)) ?_
  cases fr with
  | true => exact .inr (.inl ⟨rfl, rfl, rfl⟩)
  | false => exact .inr (.inr ⟨rfl, rfl⟩)
/-- an expression whose value is dropped -/
def dropF (f : DEnv → R D) : DEnv → Fl := withF f fun _ δ => .nx δ
theorem s_expr (he : DE G X W own lk e te f) (hs' : sub own' own = true) (hx : sub ox own = true) (hs : swapsWith e none pos.line X.env = pure false := by rfl) : DS G X W fr own own' ol ox (.Expr e pos) (tDrop te) (dropF f) := by
  refine ⟨ps_expr he.1 hs, ?_⟩
  intro Z₀ α δ σ H Dn E hX qn qr qb qc qe ns
  unfold dropF withF at qn qr qb qc qe ns
  refine he.2 Z₀ α δ σ H _ E hX (fun d v H1 hf e1 r1 => ?_) (fun x H1 hf e1 => ?_) (fun hf => by rw [hf] at ns; exact ns rfl)
  · rw [hf] at qn
    exact qn δ α σ H1 rfl ((E.ext e1).weak (sub_mem hs')) (.ext e1 (sub_mem hs'))
  · rw [hf] at qe
    exact qe x δ α σ H1 rfl ((E.ext e1).weak (sub_mem hx)) (.ext e1 (sub_mem hx))
/-- if -/
def ifF (c : DEnv → R Bool) (g h : DEnv → Fl) : DEnv → Fl := fun δ => match c δ with
  | .ok b => if b = true then g δ else h δ
  | .err x => .ex x δ
  | .stk => .stk
theorem s_if {c : Expr} {aa bb : List Stmt} {tc : TT} {fc : DEnv → R Bool} (hc : DT G X W own c tc fc) (ha : DSs G X W fr own own' ol ox aa t g) (hb : DSs G X W fr own own' ol ox bb u h) (hx : sub ox own = true) :
    DS G X W fr own own' ol ox (.If c aa bb pos) (tIfS tc t u) (ifF fc g h) := by
  refine ⟨ps_if hc.1 ha.1 hb.1, ?_⟩
  intro Z₀ α δ σ H Dn E hX qn qr qb qc qe ns
  unfold ifF at qn qr qb qc qe ns
  refine hc.2 Z₀ α δ σ H _ E hX (fun d H1 hf e1 => ?_) (fun x H1 hf e1 => ?_) (fun hf => by rw [hf] at ns; exact ns rfl)
  · rw [hf] at qn qr qb qc qe ns
    simp only at qn qr qb qc qe ns
    have st : Step α own H α own H1 := .ext e1 fun _ h => h
    cases d with
    | true =>
      rw [if_pos rfl] at qn qr qb qc qe ns ⊢
      exact ha.2 Z₀ α δ σ H1 Dn (E.ext e1) hX (fun δ2 α2 σ2 H2 hh E2 s2 => qn δ2 α2 σ2 H2 hh E2 (st.trans s2)) (fun d v H2 hh kp r => qr d v H2 hh (st.keeps (own' := []) kp) (st.ret r)) (fun δ2 α2 σ2 H2 hh E2 s2 => qb δ2 α2 σ2 H2 hh E2 (st.trans s2)) (fun δ2 α2 σ2 H2 hh E2 s2 => qc δ2 α2 σ2 H2 hh E2 (st.trans s2)) (fun x δ2 α2 σ2 H2 hh E2 s2 => qe x δ2 α2 σ2 H2 hh E2 (st.trans s2)) ns
    | false =>
      rw [if_neg Bool.false_ne_true] at qn qr qb qc qe ns ⊢
      exact hb.2 Z₀ α δ σ H1 Dn (E.ext e1) hX (fun δ2 α2 σ2 H2 hh E2 s2 => qn δ2 α2 σ2 H2 hh E2 (st.trans s2)) (fun d v H2 hh kp r => qr d v H2 hh (st.keeps (own' := []) kp) (st.ret r)) (fun δ2 α2 σ2 H2 hh E2 s2 => qb δ2 α2 σ2 H2 hh E2 (st.trans s2)) (fun δ2 α2 σ2 H2 hh E2 s2 => qc δ2 α2 σ2 H2 hh E2 (st.trans s2)) (fun x δ2 α2 σ2 H2 hh E2 s2 => qe x δ2 α2 σ2 H2 hh E2 (st.trans s2)) ns
  · rw [hf] at qe
    exact qe x δ α σ H1 rfl ((E.ext e1).weak (sub_mem hx)) (.ext e1 (sub_mem hx))
/-- a, b = e1, e2 -/
def parF (i j : Nat) (fs : DEnv → R (List D)) : DEnv → Fl := fun δ => match fs δ with
  | .ok [d, e] => if i < δ.length ∧ j < δ.length then .nx ((δ.set i (some d)).set j (some e)) else .stk
  | .ok _ => .stk
  | .err x => .ex x δ
  | .stk => .stk
theorem s_par {px py pt : Pos} {kt k2 : Nat} {pt2 : Pos} {tt : TA} {fs : DEnv → R (List D)} (F : Fit G S k X) (hN : S.N.Nodup) (hi : S.N[i]? = some x) (hj : S.N[j]? = some y) (hij : i ≠ j) (hvx : S.sc.names.lookup x = some .local) (hvy : S.sc.names.lookup y = some .local)
    (ha : DA G X W own lk [a, b] tt fs) (hl : left own' own (i :: j :: lk) = true) (hx : sub ox own = true)
    (hw : swappedStores [.Tuple [.Name x px, .Name y py] kt pt] (.Tuple [a, b] k2 pt2) X.env = pure (some [x, y]))
    (hs : swapsWithSole [.Tuple [.Name x px, .Name y py] kt pt] (.Tuple [a, b] k2 pt2) pos.line X.env = pure false := by rfl) (hh : S.hot = false := by rfl) :
    DS G X W fr own own' ol ox (.Assign [.Tuple [.Name x px, .Name y py] kt pt] (.Tuple [a, b] k2 pt2) pos) (tPar i j tt) (parF i j fs) := by
  refine ⟨ps_par (F.calm hh) (by rw [F.N]; exact hN) (by rw [F.N]; exact hi) (by rw [F.N]; exact hj) hij (by rw [F.sc]; exact hvx) (by rw [F.sc]; exact hvy) ha.1 hw hs, ?_⟩
  intro Z₀ α δ σ H Dn E hX qn qr qb qc qe ns
  unfold parF at qn qr qb qc qe ns
  refine ha.2 Z₀ α δ σ H _ E hX (fun ds vs H1 hf e1 r1 => ?_) (fun x H1 hf e1 => ?_) (fun hf => by rw [hf] at ns; exact ns rfl)
  · rw [hf] at qn ns
    have hm : ∀ j ∈ own', j ∈ minus own lk := fun z hz => minus_sub2 (fun w hw => List.mem_cons_of_mem _ (List.mem_cons_of_mem _ hw)) z (left_mem hl z hz)
    have ho : ∀ j ∈ own', j ∈ own := fun j hj => minus_sub j (hm j hj)
    have hi' : i ∉ own' := fun q => (mem_minus.mp (left_mem hl i q)).2 List.mem_cons_self
    have hj' : j ∉ own' := fun q => (mem_minus.mp (left_mem hl j q)).2 (List.mem_cons_of_mem _ List.mem_cons_self)
    match ds, r1, qn, ns with
    | [d, e], r1, qn, ns =>
      simp only at qn ns
      obtain ⟨v, u, rfl, rv, v2, u2, rfl, rv2, rfl⟩ := r1
      by_cases hlen : i < δ.length ∧ j < δ.length
      · rw [if_pos hlen] at qn
        have z := (E.ext e1).zsub (own' := minus own lk) minus_sub
        have E1 := (((E.ext e1).weak ho).put hlen.1 hi' (rv.less z (ZZ.mono hm))).put (i := j) (by simpa using hlen.2) hj' (rv2.less z (ZZ.mono hm))
        exact ⟨v, v2, rfl, qn _ α _ H1 rfl E1 (.ext e1 ho)⟩
      · rw [if_neg hlen] at ns; exact absurd rfl ns
    | [], _, _, ns => exact absurd rfl ns
    | [_], _, _, ns => exact absurd rfl ns
    | _ :: _ :: _ :: _, _, _, ns => exact absurd rfl ns
  · rw [hf] at qe
    exact qe x δ α σ H1 rfl ((E.ext e1).weak (sub_mem hx)) (.ext e1 (sub_mem hx))
/-- target = value, any target -/
def asgF (f : DEnv → R D) (h : D → DEnv → R DEnv) : DEnv → Fl := fun δ => match f δ with
  | .ok d => (match h d δ with | .ok δ' => .nx δ' | _ => .stk)
  | .err x => .ex x δ
  | .stk => .stk
theorem s_asg {tg : Expr} {gt : TG} {ts : List Nat} {hh : D → DEnv → R DEnv} (he : DE G X W own lk e te f) (hg : DG G X own' ts tg gt hh) (hl : left own' own (ts ++ lk) = true) (hx : sub ox own = true)
    (hs : swapsWithSole [tg] e pos.line X.env = pure false := by rfl) (hw : swappedStores [tg] e X.env = pure none := by rfl) (h1 : (assignEach [tg] X.env).map (·.2) = [assign tg X.env] := by rfl) :
    DS G X W fr own own' ol ox (.Assign [tg] e pos) (tAsg te gt) (asgF f hh) := by
  refine ⟨ps_asg he.1 hg.1 hs hw h1, ?_⟩
  intro Z₀ α δ σ H Dn E hX qn qr qb qc qe ns
  unfold asgF at qn qr qb qc qe ns
  refine he.2 Z₀ α δ σ H _ E hX (fun d v H1 hf e1 r1 => ?_) (fun x H1 hf e1 => ?_) (fun hf => by rw [hf] at ns; exact ns rfl)
  · rw [hf] at qn ns
    simp only at qn ns
    have hm : ∀ j ∈ own', j ∈ minus own lk := fun z hz => minus_sub2 (fun w hw => List.mem_append_right _ hw) z (left_mem hl z hz)
    have ho : ∀ j ∈ own', j ∈ own := fun j hj => minus_sub j (hm j hj)
    cases hd : hh d δ with
    | ok δ1 =>
      rw [hd] at qn
      exact hg.2 Z₀ α δ σ H1 v d _ ((E.ext e1).weak ho) (r1.less ((E.ext e1).zsub minus_sub) (ZZ.mono hm)) (fun δ' σ' h2 E2 _ => qn δ' α σ' H1 (by rw [hd] at h2; cases h2; rfl) E2 (.ext e1 ho)) ⟨δ1, hd⟩
    | err _ => rw [hd] at ns; exact absurd rfl ns
    | stk => rw [hd] at ns; exact absurd rfl ns
  · rw [hf] at qe
    exact qe x δ α σ H1 rfl ((E.ext e1).weak (sub_mem hx)) (.ext e1 (sub_mem hx))
/-- name op= e -/
def augF (i : Nat) (h : D → D → R D) (f : DEnv → R D) : DEnv → Fl := withF (b2 h (nmD i) f) fun d δ => if i < δ.length then .nx (δ.set i (some d)) else .stk
theorem s_aug {op : Operator} {r : R2} {hh : D → D → R D} (F : Fit G S k X) (hN : S.N.Nodup) (hi : S.N[i]? = some x) (hv : L2.Loc S.sc x) (hf : S.fn x = true ∨ S.sc.names.lookup x = some .local) (ho : OpR X (inplaceOp op) r) (os : OpS G.K hh r) (ne : ∀ d e z, hh d e ≠ .err z)
    (he : DE G X W own lk e te f) (hio : i ∉ own) (hl : left own' own (i :: lk) = true) (hx : sub ox own = true) :
    DS G X W fr own own' ol ox (.AugAssign (.Name x pos') op e pos) (tAug i te r) (augF i hh f) := by
  refine ⟨ps_aug (by rw [F.N]; exact hN) (by rw [F.N]; exact hi) (by rw [F.sc]; exact hv) he.1 (fun pins s σ H x y v u Q I r1 r2 h => ho pins s σ H x y v u Q I r1 r2 h) (by rw [F.fn, F.sc]; exact hf), ?_⟩
  intro Z₀ α δ σ H Dn E hX qn qr qb qc qe ns
  unfold augF at qn qe ns
  have h2 := SS.set (G := G) (W := W) (fr := fr) (own := own) (own' := own') (ol := ol) (ox := ox) (i := i) (SE.op (SE.nm0 (G := G) (W := W) hio) he.2 os ne) (by simpa using hl) hx Z₀ α δ σ H Dn E hX qn (fun d v H' hg kp r => qr d v H' hg kp r) qb qc qe ns
  exact h2
/-- xs.append(e), the name xs owning its list -/
def appF (i : Nat) (f : DEnv → R D) : DEnv → Fl := fun δ => match δ[i]? with
  | some (some (.lst ds)) => withF f (fun d δ => if ds.length < sizeLine then .nx (δ.set i (some (.lst (ds ++ [d])))) else .stk) δ
  | _ => .stk
/-- the list that slot i owns is changed -/
theorem EnvOk.write {K : PySem.W.Frag} {Z₀ : Addr → Prop} {α : Nat → List Addr} {own : List Nat} {δ : DEnv} {σ : L2.St} {H : Hp} (E : EnvOk K Z₀ α own δ σ H) {i : Nat} (hi : i ∈ own) {p : Addr} (hp : α i = [p]) (hσ : σ[i]? = some (some (.ref p))) {ds : List D} {vs : List V} (r : RepL K H (ZZ Z₀ α own) ds vs) :
    EnvOk K Z₀ α own (δ.set i (some (.lst ds))) σ (upd H p (.lst vs)) := by
  have k : ∀ a o, a ∉ α i → H a = some o → upd H p (.lst vs) a = some o := fun a o n h => by
    rw [upd_ne (fun z => n (by rw [hp, z]; exact List.mem_singleton_self _))]
    exact h
  have h := E.change (φ := [p]) hi k (fun a ha => .inl (by rw [hp]; exact ha)) (by simp) hσ (d := .lst ds) (fun Z' hz => ⟨p, vs, rfl, rfl, upd_same, RepL.map (.of (fun a o n h => k a o (fun z => n (.inr ⟨i, hi, z⟩)) h) fun b hb => by
    rcases hz b hb with q | q
    · exact q
    · exact .inr ⟨i, hi, by rw [hp]; exact q⟩) _ _ r⟩)
  have e : (fun j => if j = i then [p] else α j) = α := by
    funext j
    by_cases q : j = i
    · rw [if_pos q, q, hp]
    · rw [if_neg q]
  rwa [e] at h
theorem s_app {apos cpos p1 : Pos} (F : Fit G S k X) (hN : S.N[i]? = some x) (hv : Vis S.sc x) (he : DE G X W own lk e te f) (hi : i ∈ own') (hl : left own' own lk = true) (hx : sub ox own = true)
    (hbase : attributeBase (.Name x p1) (PySem.Str.ofString "append") X.env (eval (.Name x p1) X.env) = eval (.Name x p1) X.env := by rfl)
    (hfew : ((backTo cpos (starEach [e] X.env)).all (fun x => !x.1) && (backToKw cpos (keywordEach [] X.env)).all (fun x => x.1.isSome)
      && decide (([e] : List Expr).length + ([] : List Keyword).length + (if ([] : List Keyword).isEmpty then 0 else 1) < 30)) = true := by rfl)
    (hline : (apos.endLine == cpos.line) = true := by rfl) (hst : starEach [e] X.env = (false, eval e X.env) :: starEach [] X.env := by rfl) (hplain : (backTo cpos (starEach [] X.env)).any (·.1) = false := by rfl)
    (hs : swapsWith (.Call (.Attribute (.Name x p1) (PySem.Str.ofString "append") apos) [e] [] cpos) none pos.line X.env = pure false := by rfl) (h1 : (x == ("__debug__" : PySem.Str)) = false := by decide) (h2 : (x == ("__classdict__" : PySem.Str)) = false := by decide) :
    DS G X W fr own own' ol ox (.Expr (.Call (.Attribute (.Name x p1) (PySem.Str.ofString "append") apos) [e] [] cpos) pos) (tDrop (tBM G.K "list" rAppend (tVar i) (tCons te tNil))) (appF i f) := by
  refine ⟨ps_expr (F.K ▸ pe_bm PySem.F.plainAttrs_list PySem.F.slot_list_append PySem.F.type_list_append mt_append (pe_var (by rw [F.N]; exact hN) (by rw [F.sc]; exact hv) h1 h2) (pa_cons he.1 pa_nil hst) hbase hfew hline hst hplain) hs, ?_⟩
  intro Z₀ α δ σ H Dn E hX qn qr qb qc qe ns
  unfold appF at qn qr qb qc qe ns
  have hm := left_mem hl
  have ho : ∀ j ∈ own', j ∈ own := fun j hj => minus_sub j (hm j hj)
  obtain ⟨d0, v0, g1, g2, g3⟩ := E.top i (ho i hi)
  refine ⟨_, g2, ?_⟩
  cases d0 with
  | lst ds =>
    obtain ⟨p, us, rfl, hp, g4, g5⟩ := g3
    simp only [g1, withF] at qn qr qb qc qe ns
    refine ⟨.inl ⟨rfl, us, SqL.of g4⟩, he.2 Z₀ α δ σ H _ E hX (fun d v H1 hf e1 r1 => ?_) (fun x H1 hf e1 => ?_) (fun hf => by rw [hf] at ns; exact ns rfl)⟩
    · rw [hf] at qn ns
      simp only at qn ns
      by_cases hz : ds.length < sizeLine
      · rw [if_pos hz] at qn
        have E1 := (E.ext e1).weak ho
        have r5 := (g5.ex e1).ls (ZZ.mono ho)
        refine ⟨_, us, v, rfl, rfl, e1 _ _ g4, by rw [g5.len]; exact hz, qn _ α σ _ rfl (E1.write hi hp g2 (r5.app ⟨v, [], rfl, r1.ls (ZZ.mono hm), rfl⟩)) ⟨fun b o n hb => ?_, fun j hj a ha => .inl ⟨j, ho j hj, ha⟩⟩⟩
        rw [upd_ne (fun z => n ⟨i, ho i hi, by rw [hp, z]; exact List.mem_singleton_self _⟩)]
        exact e1 _ _ hb
      · rw [if_neg hz] at ns; exact absurd rfl ns
    · rw [hf] at qe
      exact qe x δ α σ H1 rfl ((E.ext e1).weak (sub_mem hx)) (.ext e1 (sub_mem hx))
  | tup _ => exact False.elim g3
  | _ => simp only [g1] at ns; exact absurd rfl ns
end
end DL

set_option maxRecDepth 100001
set_option maxHeartbeats 1000001
namespace DL
open PySem PySem.Spec PyProof.Rows L2
/-- does the interpreter swap the name's old value away ahead of the comprehension -/
def swB (sc scope : Scope) (pos py : Pos) (y : PySem.Str) : Bool := (sc.names.lookup y == some .local) && (py.line == pos.line) && !(scope.names.any fun (n, k) => n == y && (k == .local || k == .cell))
theorem sw_of {elt : Expr} {gs : List Comprehension} {sc scope : Scope} {pos py : Pos} {y : PySem.Str} {l : Nat} {env : Env} {b : Bool} (he : env.scope = sc) (hk : sc.kind = .function) (h : swB sc scope pos py y = b) : swapsWith (.ListComp elt gs scope pos) (some (.Name y py)) l env = pure b := by
  subst he
  have hb : env.blockKind = .function := by unfold Env.blockKind; rw [hk]; rfl
  have ky : env.kindOf y = env.scope.names.lookup y := rfl
  unfold swapsWith
  simp only [hb, ky, Expr.pos]
  unfold swB at h
  rw [← h]
  rfl
section
variable {G : Cfg} {S : Sco} {k : Nat} {X : Cx} {W : WX} {fr : Bool} {own own' olp ol ox lk lk2 l1 l2 : List Nat} {pos pos' spos py : Pos} {st : Stmt} {rest body : List Stmt} {t u tb : TS} {g h : DEnv → Fl} {e a b elt tg iter : Expr} {te : TE} {f : DEnv → R (List D)} {x y : PySem.Str} {i j : Nat}

/-! ### comprehensions -/
theorem d_lc {ifs : List Expr} {scope : Scope} {bo : List (PySem.Str × Nat)} {wi : TI} {gt : TG} {tt : TT} {h : D → DEnv → R DEnv} {c : DEnv → R Bool} {el : DEnv → R D} {ts : List Nat} (F : Fit G S k X) (hN : S.N.Nodup) (ok : blkC S.N S.sc scope bo = true)
    (hi : DI G X W own lk tg iter wi f) (hg : ∀ X', Fit G (S.blk scope) k X' → DG G X' (minus own lk) ts tg gt h) (ht : ∀ X', Fit G (S.blk scope) k X' → Takes X' W0 → DTs G X' W0 (minus own lk) ifs tt c) (he : ∀ X', Fit G (S.blk scope) k X' → Takes X' W0 → DE G X' W0 (minus own lk) lk2 elt te el)
    (hts : sub ts (bo.map (·.2)) = true) (hvs : (bo.map (·.2)).all (fun i => !((minus own lk).contains i)) = true) (hs : ∀ x, foldedSetIterable iter X.env x = pure x := by intro _; rfl) (hh : S.hot = false := by rfl) :
    DF G X W own (lk ++ lk2) (.ListComp elt [⟨tg, iter, ifs, 0⟩] scope pos) (tLc wi gt tt te (bo.map (·.2))) (lcD (bo.map (·.2)) f h c el) := by
  have hvs' : ∀ i ∈ bo.map (·.2), i ∉ minus own lk := fun i hi q => by
    have := List.all_eq_true.mp hvs i hi
    simp [q] at this
  refine ⟨pe_lc (F.calm hh) (by rw [F.N]; exact hN) hi.1 (by rw [F.N, F.sc]; exact blkOk_by ok) (fun s H C cl fp => (hg _ (F.blk s H scope C cl fp)).1) (fun s H C cl fp => (ht _ (F.blk s H scope C cl fp) takes0).1) (fun s H C cl fp => (he _ (F.blk s H scope C cl fp) takes0).1) hs, ?_⟩
  exact SF.lc (F.xi hh) hi.2 (hg _ (F.blk X.s_0 X.H_0 scope 0 [] [])).2 (ht _ (F.blk X.s_0 X.H_0 scope 0 [] []) takes0).2 (he _ (F.blk X.s_0 X.H_0 scope 0 [] []) takes0).2 (sub_mem hts) hvs'
/-- name = [..] on one line -/
theorem s_setLcF {ifs : List Expr} {scope : Scope} {bo : List (PySem.Str × Nat)} {wi : TI} {gt : TG} {tt : TT} {h : D → DEnv → R DEnv} {c : DEnv → R Bool} {el : DEnv → R D} {ts : List Nat} (F : Fit G S k X) (hN : S.N.Nodup) (hy : S.N[i]? = some y) (hyl : S.sc.names.lookup y = some .local) (ok : blkC S.N S.sc scope bo = true)
    (hi : DI G X W own lk tg iter wi f) (hg : ∀ X', Fit G (S.blk scope) k X' → DG G X' (minus own lk) ts tg gt h) (ht : ∀ X', Fit G (S.blk scope) k X' → Takes X' W0 → DTs G X' W0 (minus own lk) ifs tt c) (he : ∀ X', Fit G (S.blk scope) k X' → Takes X' W0 → DE G X' W0 (minus own lk) lk2 elt te el)
    (hts : sub ts (bo.map (·.2)) = true) (hvs : (bo.map (·.2)).all (fun i => !((minus own lk).contains i)) = true) (hl : left own' own (i :: (lk ++ lk2)) = true) (hx : sub ox own = true) (hkd : S.sc.kind = .function)
    (hsw : swB S.sc scope pos py y = true) (hs : ∀ x, foldedSetIterable iter X.env x = pure x := by intro _; rfl) (hh : S.hot = false := by rfl) :
    DS G X W fr own (i :: own') ol ox (.Assign [.Name y py] (.ListComp elt [⟨tg, iter, ifs, 0⟩] scope pos) spos) (tAsg (tLc wi gt tt te (bo.map (·.2))) (gName i)) (setF i (lcD (bo.map (·.2)) f h c el)) := by
  have hvs' : ∀ i ∈ bo.map (·.2), i ∉ minus own lk := fun i hi q => by
    have := List.all_eq_true.mp hvs i hi
    simp [q] at this
  refine ⟨ps_setLc (F.calm hh) (by rw [F.N]; exact hN) (by rw [F.N]; exact hy) (by rw [F.sc]; exact hyl) (sw_of F.sc hkd hsw) hi.1 (by rw [F.N, F.sc]; exact blkOk_by ok) (fun s H C cl fp => (hg _ (F.blk s H scope C cl fp)).1) (fun s H C cl fp => (ht _ (F.blk s H scope C cl fp) takes0).1) (fun s H C cl fp => (he _ (F.blk s H scope C cl fp) takes0).1) hs, ?_⟩
  exact SS.setF (SF.lc (F.xi hh) hi.2 (hg _ (F.blk X.s_0 X.H_0 scope 0 [] [])).2 (ht _ (F.blk X.s_0 X.H_0 scope 0 [] []) takes0).2 (he _ (F.blk X.s_0 X.H_0 scope 0 [] []) takes0).2 (sub_mem hts) hvs') hl hx
/-- the name is a cell, or its lines are apart: nothing is swapped -/
theorem s_setLcN {ifs : List Expr} {scope : Scope} {f' : DEnv → R D} (F : Fit G S k X) (hN : S.N.Nodup) (hi : S.N[i]? = some x) (hv : L2.Loc S.sc x) (hf : S.fn x = true ∨ S.sc.names.lookup x = some .local) (he : DF G X W own lk (.ListComp elt [⟨tg, iter, ifs, 0⟩] scope pos) te f') (hl : left own' own (i :: lk) = true) (hx : sub ox own = true)
    (hkd : S.sc.kind = .function) (hsw : swB S.sc scope pos py x = false) : DS G X W fr own (i :: own') ol ox (.Assign [.Name x py] (.ListComp elt [⟨tg, iter, ifs, 0⟩] scope pos) spos) (tAsg te (gName i)) (setF i f') :=
  s_setF F hN hi hv hf he hl hx (sw_of F.sc hkd hsw)

/-! ### for -/
def forD (h : D → DEnv → R DEnv) (b : DEnv → Fl) : List D → DEnv → Fl
  | [], δ => .nx δ
  | d :: ds, δ => match h d δ with
    | .ok δ1 => (match b δ1 with
      | .nx δ' => forD h b ds δ'
      | .ct δ' => forD h b ds δ'
      | .bk δ' => .nx δ'
      | .rt d => .rt d
      | .ex x δ' => .ex x δ'
      | .stk => .stk)
    | _ => .stk
def forF (f : DEnv → R (List D)) (h : D → DEnv → R DEnv) (b : DEnv → Fl) : DEnv → Fl := fun δ => match f δ with
  | .ok ds => forD h b ds δ
  | .err x => .ex x δ
  | .stk => .stk
theorem s_for {wi : TI} {gt : TG} {ts : List Nat} {h : D → DEnv → R DEnv} (F : Fit G S k X) (po : PassesOwn (model X.prog X.w) X.A X.env X.xe) (hi : DI G X W own lk tg iter wi f) (hg : DG G X olp ts tg gt h) (hb : DSs G X W fr olp olp olp ox body tb g) (hl : left olp own lk = true) (hs' : sub own' olp = true) (hx : sub ox own = true)
    (hs : ∀ x, foldedSetIterable iter X.env x = pure x := by intro _; rfl) (hh : S.hot = false := by rfl) :
    DS G X W fr own own' ol ox (.For tg iter body [] pos) (tFor wi gt tb) (forF f h g) := by
  refine ⟨ps_for po (F.calm hh) hi.1 hg.1 hb.1 hs, ?_⟩
  intro Z₀ α δ σ H Dn E hX qn qr qb qc qe ns
  unfold forF at qn qr qb qc qe ns
  refine hi.2 Z₀ α δ σ H _ E hX (fun ds J H1 Gd Y hf e1 wk hG hY => ?_) (fun x H1 hf e1 => ?_) (fun hf => by rw [hf] at ns; exact ns rfl)
  · rw [hf] at qn qr qb qc qe ns
    simp only at qn qr qb qc qe ns
    have hm := left_mem hl
    have ho : ∀ j ∈ olp, j ∈ own := fun j hj => minus_sub j (hm j hj)
    have E1 : EnvOk G.K Z₀ α olp δ σ H1 := (E.ext e1).weak ho
    have s1 : Step α own H α olp H1 := .ext e1 ho
    have zmem : ∀ {α' : Nat → List Addr} {H2 : Hp}, Step α olp H1 α' olp H2 → ∀ a, ZZ Z₀ α' olp a → ZZ Z₀ α (minus own lk) a ∨ H1 a = none := fun {α' H2} s a q => by
      rcases q with q | ⟨j, hj, hja⟩
      · exact .inl (.inl q)
      · rcases s.new j hj a hja with ⟨m, hm', e⟩ | q
        · exact .inl (.inr ⟨m, hm m hm', e⟩)
        · exact .inr q
    have kmem : ∀ {α' : Nat → List Addr} {H2 : Hp}, Step α olp H1 α' olp H2 → Keeps (ZZ Z₀ α (minus own lk)) H1 H2 := fun {α' H2} s => s.keep.mono fun a ⟨j, hj, e⟩ => .inr ⟨j, hm j hj, e⟩
    refine for_it wk (fun i σ2 H2 => ∃ (α' : Nat → List Addr) (δ2 : DEnv), EnvOk G.K Z₀ α' olp δ2 σ2 H2 ∧ Step α olp H1 α' olp H2 ∧ forD h g (ds.drop i) δ2 = forD h g ds δ)
      ⟨α, δ, E1, .refl (fun _ h => h), rfl⟩ (fun i σ2 H2 hi p => ?_) (fun i x σ2 H2 H3 hi p y => ?_) (fun σ2 H2 p => ?_)
    · obtain ⟨α', δ2, E2, s2, _⟩ := p
      exact hG H2 (kmem s2)
    · obtain ⟨α', δ2, E2, s2, hd2⟩ := p
      obtain ⟨e3, rx⟩ := hY (ZZ Z₀ α' olp) i _ x H2 H3 (List.getElem?_eq_getElem hi) (zmem s2) (kmem s2) E2.zok y
      rw [List.drop_eq_getElem_cons hi] at hd2
      rw [← hd2] at qn qr qb qc qe ns
      unfold forD at qn qr qb qc qe ns
      cases hq : h ds[i] δ2 with
      | ok δ1 =>
        rw [hq] at qn qr qb qc qe ns
        simp only at qn qr qb qc qe ns
        refine hg.2 Z₀ α' δ2 σ2 H3 x _ _ (E2.ext e3) rx (fun δ' σ' hh2 E4 _ => ?_) ⟨δ1, hq⟩
        rw [hq] at hh2; cases hh2
        have s3 : Step α olp H1 α' olp H3 := s2.trans (.ext e3 fun _ h => h)
        refine hb.2 Z₀ α' δ1 σ' H3 _ E4 (F.xi hh _) (fun δ5 α5 σ5 H5 h5 E5 s5 => ?_) (fun d v H5 h5 kp r => ?_) (fun δ5 α5 σ5 H5 h5 E5 s5 => ?_) (fun δ5 α5 σ5 H5 h5 E5 s5 => ?_) (fun x δ5 α5 σ5 H5 h5 E5 s5 => ?_) (fun h5 => by rw [h5] at ns; exact ns rfl)
        · refine ⟨α5, δ5, E5, s3.trans s5, ?_⟩
          rw [← hd2]
          show _ = forD h g (ds[i] :: ds.drop (i + 1)) δ2
          rw [forD, hq]
          simp only [h5]
        · rw [h5] at qr
          exact qr d v H5 rfl ((s1.trans s3).keeps (own' := []) kp) ((s1.trans s3).ret r)
        · rw [h5] at qn
          exact qn δ5 α5 σ5 H5 rfl (E5.weak (sub_mem hs')) ((s1.trans (s3.trans s5)).trans (.refl (sub_mem hs')))
        · refine ⟨α5, δ5, E5, s3.trans s5, ?_⟩
          rw [← hd2]
          show _ = forD h g (ds[i] :: ds.drop (i + 1)) δ2
          rw [forD, hq]
          simp only [h5]
        · rw [h5] at qe
          exact qe x δ5 α5 σ5 H5 rfl E5 ((s1.trans s3).trans s5)
      | err _ => rw [hq] at ns; exact absurd rfl ns
      | stk => rw [hq] at ns; exact absurd rfl ns
    · obtain ⟨α', δ2, E2, s2, hd2⟩ := p
      rw [List.drop_length] at hd2
      have : forD h g ds δ = .nx δ2 := hd2.symm
      exact qn δ2 α' σ2 H2 this (E2.weak (sub_mem hs')) ((s1.trans s2).trans (.refl (sub_mem hs')))
  · rw [hf] at qe
    exact qe x δ α σ H1 rfl ((E.ext e1).weak (sub_mem hx)) (.ext e1 (sub_mem hx))
end

/-! ### while -/
def whileN (c : DEnv → R Bool) (b : DEnv → Fl) : Nat → DEnv → Fl
  | 0, _ => .stk
  | n + 1, δ => match c δ with
    | .ok true => (match b δ with
      | .nx δ' => whileN c b n δ'
      | .ct δ' => whileN c b n δ'
      | .bk δ' => .nx δ'
      | .rt d => .rt d
      | .ex x δ' => .ex x δ'
      | .stk => .stk)
    | .ok false => .nx δ
    | .err x => .ex x δ
    | .stk => .stk
theorem whileN_up (c : DEnv → R Bool) (b : DEnv → Fl) : ∀ (n : Nat) (δ : DEnv), whileN c b n δ ≠ .stk → whileN c b (n + 1) δ = whileN c b n δ
  | 0, δ, h => absurd rfl h
  | n + 1, δ, h => by
    rw [whileN] at h
    rw [whileN, whileN]
    cases hc : c δ with
    | ok b' =>
      cases b' with
      | true =>
        rw [hc] at h
        simp only at h ⊢
        cases hb : b δ with
        | nx δ' => rw [hb] at h; exact whileN_up c b n δ' h
        | ct δ' => rw [hb] at h; exact whileN_up c b n δ' h
        | _ => rfl
      | false => rfl
    | err x => rfl
    | stk => rfl
theorem whileN_le (c : DEnv → R Bool) (b : DEnv → Fl) {n m : Nat} {δ : DEnv} (h : whileN c b n δ ≠ .stk) (hm : n ≤ m) : whileN c b m δ = whileN c b n δ := by
  obtain ⟨k, rfl⟩ := Nat.exists_eq_add_of_le hm
  clear hm
  induction k with
  | zero => rfl
  | succ k ih =>
    show whileN c b (n + k + 1) δ = _
    rw [whileN_up c b (n + k) δ (by rw [ih]; exact h), ih]
open Classical in
noncomputable def whileF (c : DEnv → R Bool) (b : DEnv → Fl) : DEnv → Fl := fun δ => if h : ∃ n, whileN c b n δ ≠ .stk then whileN c b h.choose δ else .stk
theorem whileF_of {c : DEnv → R Bool} {b : DEnv → Fl} {n : Nat} {δ : DEnv} {r : Fl} (h : whileN c b n δ = r) (hr : r ≠ .stk) : whileF c b δ = r := by
  have hn : whileN c b n δ ≠ .stk := by rw [h]; exact hr
  have hex : ∃ n, whileN c b n δ ≠ .stk := ⟨n, hn⟩
  unfold whileF
  rw [dif_pos hex]
  have h2 := hex.choose_spec
  rcases Nat.le_total n hex.choose with q | q
  · rw [whileN_le c b hn q, h]
  · rw [← whileN_le c b h2 q, h]
theorem whileF_ex {c : DEnv → R Bool} {b : DEnv → Fl} {δ : DEnv} (h : whileF c b δ ≠ .stk) : ∃ n, whileN c b n δ = whileF c b δ := by
  unfold whileF at h ⊢
  by_cases hex : ∃ n, whileN c b n δ ≠ .stk
  · rw [dif_pos hex]; exact ⟨_, rfl⟩
  · rw [dif_neg hex] at h; exact absurd rfl h
section
variable {G : Cfg} {S : Sco} {k : Nat} {X : Cx} {W : WX} {fr : Bool} {own own' olp ol ox : List Nat} {pos : Pos} {body : List Stmt} {tb : TS} {g : DEnv → Fl} {c : Expr} {tc : TT} {fc : DEnv → R Bool}
theorem s_while (F : Fit G S k X) (po : PassesOwn (model X.prog X.w) X.A X.env X.xe) (hc : DT G X W olp c tc fc) (hb : DSs G X W fr olp olp olp ox body tb g) (hl : sub olp own = true) (hs' : sub own' olp = true) (hx : sub ox olp = true) (hh : S.hot = false := by rfl) :
    DS G X W fr own own' ol ox (.While c body [] pos) (tWhile tc tb) (whileF fc g) := by
  refine ⟨ps_while po hc.1 hb.1, ?_⟩
  intro Z₀ α δ σ H Dn E hX qn qr qb qc qe ns
  obtain ⟨n0, h0⟩ := whileF_ex ns
  have ho := sub_mem hl
  refine ⟨fun n σ2 H2 => ∃ (α' : Nat → List Addr) (δ2 : DEnv), EnvOk G.K Z₀ α' olp δ2 σ2 H2 ∧ Step α own H α' olp H2 ∧ whileN fc g n δ2 = whileF fc g δ, ⟨n0, α, δ, E.weak ho, .refl ho, h0⟩, ?_⟩
  rintro n σ2 H2 ⟨α', δ2, E2, s2, h2⟩
  rw [← h2] at qn qr qe ns
  cases n with
  | zero => exact absurd rfl ns
  | succ n =>
    rw [whileN] at qn qr qe ns h2
    refine hc.2 Z₀ α' δ2 σ2 H2 _ E2 (F.xi hh _) (fun b H3 hf e3 => ?_) (fun x H3 hf e3 => ?_) (fun hf => by rw [hf] at ns; exact ns rfl)
    · rw [hf] at qn qr qe ns h2
      have s3 : Step α own H α' olp H3 := s2.trans (.ext e3 fun _ h => h)
      cases b with
      | true =>
        rw [if_pos rfl]
        simp only at qn qr qe ns h2
        refine ⟨fun σ5 H5 => ∃ m, m < n + 1 ∧ ∃ (α' : Nat → List Addr) (δ5 : DEnv), EnvOk G.K Z₀ α' olp δ5 σ5 H5 ∧ Step α own H α' olp H5 ∧ whileN fc g m δ5 = whileF fc g δ, fun _ _ h => h, ?_⟩
        refine hb.2 Z₀ α' δ2 σ2 H3 _ (E2.ext e3) (F.xi hh _) (fun δ5 α5 σ5 H5 h5 E5 s5 => ?_) (fun d v H5 h5 kp r => ?_) (fun δ5 α5 σ5 H5 h5 E5 s5 => ?_) (fun δ5 α5 σ5 H5 h5 E5 s5 => ?_) (fun x δ5 α5 σ5 H5 h5 E5 s5 => ?_) (fun h5 => by rw [h5] at ns; exact ns rfl)
        · rw [h5] at h2
          exact ⟨n, Nat.lt_succ_self n, α5, δ5, E5, s3.trans s5, h2⟩
        · rw [h5] at qr
          exact qr d v H5 rfl (s3.keeps (own' := []) kp) (s3.ret r)
        · rw [h5] at qn
          exact qn δ5 α5 σ5 H5 rfl (E5.weak (sub_mem hs')) ((s3.trans s5).trans (.refl (sub_mem hs')))
        · rw [h5] at h2
          exact ⟨n, Nat.lt_succ_self n, α5, δ5, E5, s3.trans s5, h2⟩
        · rw [h5] at qe
          exact qe x δ5 α5 σ5 H5 rfl E5 (s3.trans s5)
      | false =>
        rw [if_neg Bool.false_ne_true]
        exact qn δ2 α' σ2 H3 rfl ((E2.ext e3).weak (sub_mem hs')) (s3.trans (.refl (sub_mem hs')))
    · rw [hf] at qe
      exact qe x δ2 α' σ2 H3 rfl ((E2.ext e3).weak (sub_mem hx)) (s2.trans (.ext e3 (sub_mem hx)))
end
end DL

set_option maxRecDepth 100001
set_option maxHeartbeats 1000001
namespace DL
open PySem PySem.Spec PyProof.Rows L2

/-! ### exceptions of the program's own classes -/
structure ExK (G : Cfg) (x : PySem.Str) (nm : String) (C : Addr) : Prop where
  gC : G.mg x = some (.ref C)
  cv : G.cv nm = .ref C
  xC : PySem.W.excIn G.K C [.type "ValueError", .type "Exception", .type "BaseException", .type "object"] "ValueError.__new__" = true
  kC : PySem.W.keepIn G.K (.ref C) = true
  bC : PySem.W.subIn G.K (.ref C) (.type "BaseException") = some true
  tC : PySem.W.typeIn G.K (.ref C) = some (.type "type")
  hC : PySem.W.hasDictIn G.K C = true
  ec : ExcC G.K C
def raiseF (nm : String) : DEnv → Fl := fun δ => .ex ⟨nm⟩ δ
section
variable {G : Cfg} {S : Sco} {k : Nat} {X : Cx} {W : WX} {fr : Bool} {own own' ol ox oh : List Nat} {pos pos' p p2 np : Pos} {x n : PySem.Str} {nm : String} {C : Addr} {body suite : List Stmt} {b₀ : Stmt} {g : DEnv → Fl} {i : Nat}
theorem s_raise {m : PySem.Str} {j : Nat} (F : Fit G S k X) (tk : Takes X W) (K : ExK G x nm C) (hg : S.sc.names.lookup x = some .globalImplicit) (hx : sub ox own = true) (hdb : (x == ("__debug__" : PySem.Str)) = false := by decide) (hh : S.hot = false := by rfl) :
    DS G X W fr own own' ol ox (.Raise (some (.Call (.Name x p) [.Constant (.str m) j p2] [] pos)) none pos') (fun _ σ H => W (.ref C) none σ H) (raiseF nm) := by
  refine ⟨ps_raise (t := fun _ H Q => Q (.ref C) none H) (F.calm hh) tk (pmk_own PySem.F.excBase_ValueError (by rw [F.K]; exact K.xC) (by rw [F.mg]; exact K.gC) (by rw [F.K]; exact K.kC) (raises_own (by rw [F.K]; exact K.bC) (by rw [F.K]; exact K.tC)) (fit_gl F hg) hdb), ?_⟩
  intro Z₀ α δ σ H Dn E hX qn qr qb qc qe ns
  have := qe ⟨nm⟩ δ α σ H rfl (E.weak (sub_mem hx)) (.refl (sub_mem hx))
  rw [← K.cv]
  exact this

/-! ### try -/
def Cfg.held (G : Cfg) (i : Nat) (a : Addr) : Cfg := { G with xi := fun σ => σ[i]? = some (some (.ref a)) }
/-- what a suite may ask of the error that it holds -/
structure Held (G : Cfg) (X : Cx) (a D₀ : Addr) : Prop where
  isi : CallR X (.builtin "isinstance") (rIsE G.K D₀ a)
  isiT : CallR X (.builtin "isinstance") (fun xs H Q => ∃ (tp : Addr) (cs : List V) (us : List Value) (b : Bool), xs = [.ref a, .ref tp] ∧ H tp = some (.tup cs) ∧ Paired ClsV cs us ∧ PySem.W.kitAny G.K (.ref D₀) us = some b ∧ Q (.bl b) H)
theorem call_isET {X : Cx} {a D : Addr} {oe : Obj} {pn : List (Addr × Obj)} (C : ExcC X.K D) (hz : Zc (.ref D) none oe) (hf : ∃ vs, oe.data = .fields vs) :
    CallR (X.suite a ((a, oe) :: pn)) (.builtin "isinstance") (fun xs H Q => ∃ (tp : Addr) (cs : List V) (us : List Value) (b : Bool), xs = [.ref a, .ref tp] ∧ H tp = some (.tup cs) ∧ Paired ClsV cs us ∧ PySem.W.kitAny X.K (.ref D) us = some b ∧ Q (.bl b) H) := by
  intro pins s σ H xs us Q I r h
  obtain ⟨tp, cs, ws, b, rfl, hT, k, e, q⟩ := h
  obtain ⟨u1, u2, rfl, r1, r2⟩ := vals2 r
  cases (show u1 = Value.ref a from r1)
  cases (show u2 = Value.ref tp from r2)
  obtain ⟨hget, _⟩ := I.pin (a, oe) (List.mem_append.mpr (.inl List.mem_cons_self))
  obtain ⟨vs, hv⟩ := hf
  have J : PySem.W.InstAt s.heap a oe D none := by
    obtain ⟨oc, od, oda, osl⟩ := oe
    obtain ⟨h1, h2⟩ := hz
    dsimp only at h1 h2 hv
    subst h1 h2 hv
    exact ⟨hget, rfl, rfl, trivial⟩
  obtain ⟨_, its, rv, o, h1, h2, n, h3⟩ := (show ObjOk X.prog X.w H s.heap tp (.tup cs) from I.hok tp _ hT)
  have e3 := ClsV.all k rv
  subst e3
  obtain ⟨oc, od, dt, sl⟩ := o
  simp only at h2 h3
  subst h2 h3
  exact PySem.W.kia_tup (PySem.W.handS_kitx_exc C.hg C.hk C.hs C.hd C.ha C.hn C.ht C.hm) I.kIn J h1 e (fun z => nomatch z) fun tk => ⟨.bl b, H, I.kept (t' := tk) fun _ _ z => z, rfl, q⟩
def unsetF (i : Nat) : Fl → Fl
  | .nx δ => .nx (δ.set i none)
  | .bk δ => .bk (δ.set i none)
  | .ct δ => .ct (δ.set i none)
  | .rt d => .rt d
  | .ex _ _ => .stk
  | .stk => .stk
/-- ms: of each class of errors that may come, whether the clause takes it -/
def tryF (i : Nat) (ms : List (String × Bool)) (g : DEnv → Fl) (gs : String → DEnv → Fl) : DEnv → Fl := fun δ => match g δ with
  | .ex x δ' => (match ms.lookup x.cls with
    | some true => if i < δ'.length then unsetF i (gs x.cls (δ'.set i none)) else .stk
    | some false => .ex x δ'
    | none => .stk)
  | .nx δ' => .nx δ'
  | .bk δ' => .bk δ'
  | .ct δ' => .ct δ'
  | .rt d => .rt d
  | .stk => .stk
theorem EnvOk.junk {K : PySem.W.Frag} {Z₀ : Addr → Prop} {α : Nat → List Addr} {own : List Nat} {δ : DEnv} {σ : L2.St} {H : Hp} (E : EnvOk K Z₀ α own δ σ H) {i : Nat} {v : Option V} (hi : i ∉ own) : EnvOk K Z₀ α own (δ.set i none) (σ.set i v) H := by
  refine ⟨E.z0, E.nz0, E.nd, E.inj, by simp [E.len], fun j e hj he => ?_, fun j hj => ?_⟩
  · by_cases q : i = j
    · subst q
      by_cases hl : i < δ.length
      · rw [List.getElem?_set_self hl] at he; cases he
      · rw [List.getElem?_eq_none (by simpa using hl)] at he; cases he
    · rw [List.getElem?_set_ne q] at he ⊢
      exact E.free j e hj he
  · have q : i ≠ j := fun z => hi (z ▸ hj)
    rw [List.getElem?_set_ne q, List.getElem?_set_ne q]
    exact E.top j hj
theorem PSs.ex {X : Cx} {st : List Stmt} {ι : Type} {P : ι → Prop} {t : ι → TS} (h : ∀ z, P z → PSs X st (t z)) : PSs X st (fun D σ H => ∃ z, P z ∧ t z D σ H) :=
  ⟨fun pins s σ H D I ⟨z, hp, hq⟩ => (h z hp).run pins s σ H D I hq⟩
theorem lookup_mem {α : Type} : ∀ {l : List (String × α)} {n : String} {b : α}, l.lookup n = some b → (n, b) ∈ l
  | (k, v) :: r, n, b, h => by
    rw [List.lookup_cons] at h
    cases hb : n == k with
    | true =>
      rw [hb] at h
      cases h
      have : n = k := by simpa using hb
      subst this
      exact List.mem_cons_self
    | false =>
      rw [hb] at h
      exact List.mem_cons_of_mem _ (lookup_mem h)
theorem exk_held {X : Cx} (F : Fit G S k X) {nm' : String} {D₀ a : Addr} (hec : ExcC G.K D₀) {oe : Obj} {pn : List (Addr × Obj)} (hz : Zc (.ref D₀) none oe) (hf : ∃ vs, oe.data = .fields vs) : Held G (X.suite a ((a, oe) :: pn)) a D₀ := by
  have e : G.K = X.K := F.K.symm
  rw [e] at hec
  exact ⟨by rw [e]; exact call_isE hec hz hf, by rw [e]; exact call_isET hec hz hf⟩
theorem Fit.toSuite {X : Cx} {i : Nat} (F : Fit G S k X) (a : Addr) (pn : List (Addr × Obj)) : Fit (G.held i a) { S with hot := true, top := false } k (X.suite a pn) where
  prog := F.prog
  w := F.w
  K := F.K
  mg := F.mg
  base := F.base
  N := F.N
  sc := F.sc
  fn := F.fn
  room' := fun h => nomatch h
  calm' := fun h => nomatch h
  xi' := fun h => nomatch h
  tp' := fun h => nomatch h
theorem Fit.tr {X : Cx} (F : Fit G S k X) (pn : List (Addr × Obj)) (xe : Value → Shared → Prop) : Fit G S k (X.tr pn xe) where
  prog := F.prog
  w := F.w
  K := F.K
  mg := F.mg
  base := F.base
  N := F.N
  sc := F.sc
  fn := F.fn
  room' := F.room'
  calm' := F.calm'
  xi' := F.xi'
  tp' := F.tp'
/-- what is known of a suite's error: its class's name and address -/
def HeldP (G : Cfg) (cls : Value) (d : Option Addr) (z : String × Addr) : Prop := G.cv z.1 = .ref z.2 ∧ cls = .ref z.2 ∧ d = none ∧ ExcC G.K z.2
theorem s_tryAs {tb : WX → TS} {ts : Addr → Addr → TS} {gs : String → DEnv → Fl} {ms : List (String × Bool)} (F : Fit G S k X) (tk : Takes X W) (hN : S.N.Nodup) (hi : S.N[i]? = some n) (hln : S.sc.names.lookup n = some .local) (KX : ExK G x nm C) (hg : S.sc.names.lookup x = some .globalImplicit)
    (hms : ∀ q ∈ ms, ∃ D₀, G.cv q.1 = .ref D₀ ∧ ExcC G.K D₀ ∧ PySem.W.exmOne G.K (.ref D₀) (.ref C) = some q.2)
    (hb : ∀ X' W', Fit G S k X' → Takes X' W' → DSs G X' W' fr own own' ol oh body (tb W') g)
    (hsu : ∀ X' a D₀ nm', Fit (G.held i a) { S with hot := true, top := false } k X' → G.cv nm' = .ref D₀ → Held G X' a D₀ → DSs (G.held i a) X' W0 fr oh own' ol [] (b₀ :: suite) (ts a D₀) (gs nm'))
    (hio : i ∉ oh) (hi2 : i ∉ own') (hi3 : i ∉ ol) (hx : sub ox oh = true) (hdb : (x == ("__debug__" : PySem.Str)) = false := by decide) (hh : S.hot = false := by rfl) (ht : S.top = true := by rfl) :
    DS G X W fr own own' ol ox (.Try body [.ExceptHandler (some (.Name x np)) (some n) (b₀ :: suite) pos'] [] [] pos)
      (fun D σ H => tb (wAs G.K (.ref C) i (fun a cls d D σ H => ∃ z : String × Addr, HeldP G cls d z ∧ ts a z.2 D σ H) W D) D σ H) (tryF i ms g gs) := by
  obtain ⟨hs, hf⟩ := F.tp' ht
  refine ⟨?_, ?_⟩
  · have h := ps_try_as (X := X) (tb := tb) (ts := fun a cls d D σ H => ∃ z : String × Addr, HeldP G cls d z ∧ ts a z.2 D σ H) (Wout := W) (body := body) (b₀ := b₀) (suite := suite) (np := np) (pos := pos) (pos' := pos') (x := x) (n := n) (c := .ref C) (i := i) hs hf (by rw [F.N]; exact hN) (by rw [F.N]; exact hi)
      (by show X.env.scope.names.lookup n = _; rw [F.sc]; exact hln) ⟨fit_gl F hg, hdb, .inl (by rw [F.mg]; exact KX.gC)⟩ tk (fun W' pn xe tk' po => (hb _ W' (F.tr pn xe) tk').1) (fun a oe cls d pn hz hf => PSs.ex fun z hp => by
        obtain ⟨h1, rfl, rfl, h4⟩ := hp
        exact (hsu _ a z.2 z.1 (F.toSuite a _) h1 (exk_held (nm' := z.1) F h4 hz hf)).1)
    rw [F.K] at h
    exact h
  · intro Z₀ α δ σ H Dn E hX qn qr qb qc qe ns
    unfold tryF at qn qr qb qc qe ns
    have hbS := fun W' => (hb (X.tr X.pn (fun _ _ => True)) W' (F.tr X.pn _) (fun _ _ _ => trivial)).2
    refine hbS _ Z₀ α δ σ H Dn E hX (fun δ' α' σ' H' hg' E' s => ?_) (fun d v H' hg' kp r => ?_) (fun δ' α' σ' H' hg' E' s => ?_) (fun δ' α' σ' H' hg' E' s => ?_) (fun x δ' α' σ' H' hg' E' s => ?_) (fun hg' => by rw [hg'] at ns; exact ns rfl)
    · rw [hg'] at qn; exact qn δ' α' σ' H' rfl E' s
    · rw [hg'] at qr; exact qr d v H' rfl kp r
    · rw [hg'] at qb; exact qb δ' α' σ' H' rfl E' s
    · rw [hg'] at qc; exact qc δ' α' σ' H' rfl E' s
    · rw [hg'] at qn qr qb qc qe ns
      simp only at qn qr qb qc qe ns
      cases hm : ms.lookup x.cls with
      | none => rw [hm] at ns; exact absurd rfl ns
      | some b =>
        rw [hm] at qn qr qb qc qe ns
        obtain ⟨D₀, hcv, hec, hex⟩ := hms _ (lookup_mem hm)
        refine ⟨b, by rw [hcv]; exact hex, fun hbt a ha => ?_, fun hbf => ?_⟩
        · subst hbt
          dsimp only at qn qr qb qc ns
          by_cases hlen : i < δ'.length
          · rw [if_pos hlen] at qn qr qb qc ns
            refine ⟨(x.cls, D₀), ⟨hcv, hcv, rfl, hec⟩, ?_⟩
            have hsx : (σ'.set i (some (V.ref a)))[i]? = some (some (V.ref a)) := List.getElem?_set_self (by rw [E'.len]; exact hlen)
            have hS := (hsu _ a D₀ x.cls (F.toSuite (i := i) a ((a, { cls := .ref D₀, dict := none, data := .fields #[] }) :: [])) hcv (exk_held (nm' := "") F hec ⟨rfl, rfl⟩ ⟨_, rfl⟩)).2
            refine hS Z₀ α' (δ'.set i none) (σ'.set i (some (.ref a))) H' _ (E'.junk hio) hsx (fun δ5 α5 σ5 H5 h5 E5 s5 => ?_) (fun d v H5 h5 kp r => ?_) (fun δ5 α5 σ5 H5 h5 E5 s5 => ?_) (fun δ5 α5 σ5 H5 h5 E5 s5 => ?_) (fun x δ5 α5 σ5 H5 h5 E5 s5 => ?_) (fun h5 => by rw [h5] at ns; exact ns rfl)
            · rw [h5] at qn
              exact qn _ α5 _ H5 rfl (E5.unset hi2) (s.trans s5)
            · rw [h5] at qr
              exact qr d v H5 rfl (s.keeps (own' := []) kp) (s.ret r)
            · rw [h5] at qb
              exact qb _ α5 _ H5 rfl (E5.unset hi3) (s.trans s5)
            · rw [h5] at qc
              exact qc _ α5 _ H5 rfl (E5.unset hi3) (s.trans s5)
            · rw [h5] at ns; exact absurd rfl ns
          · rw [if_neg hlen] at ns; exact absurd rfl ns
        · subst hbf
          exact qe x δ' α' σ' H' rfl (E'.weak (sub_mem hx)) (s.trans (.refl (sub_mem hx)))
end
end DL

set_option maxRecDepth 100001
set_option maxHeartbeats 1000001
namespace DL
open PySem PySem.Spec PyProof.Rows L2
/-- try .. except X: (no name) -/
def tryOF (ms : List (String × Bool)) (g gs : DEnv → Fl) : DEnv → Fl := fun δ => match g δ with
  | .ex x δ' => (match ms.lookup x.cls with
    | some true => (match gs δ' with | .ex _ _ => .stk | r => r)
    | some false => .ex x δ'
    | none => .stk)
  | .nx δ' => .nx δ'
  | .bk δ' => .bk δ'
  | .ct δ' => .ct δ'
  | .rt d => .rt d
  | .stk => .stk
section
variable {G : Cfg} {S : Sco} {k : Nat} {X : Cx} {W : WX} {fr : Bool} {own own' ol ox oh : List Nat} {pos pos' p p2 np : Pos} {x n : PySem.Str} {nm : String} {C : Addr} {body suite : List Stmt} {b₀ : Stmt} {g gs : DEnv → Fl} {i : Nat}
theorem Fit.toSuite0 {X : Cx} (F : Fit G S k X) (a : Addr) (pn : List (Addr × Obj)) : Fit G { S with hot := true, top := false } k (X.suite a pn) where
  prog := F.prog
  w := F.w
  K := F.K
  mg := F.mg
  base := F.base
  N := F.N
  sc := F.sc
  fn := F.fn
  room' := fun h => nomatch h
  calm' := fun h => nomatch h
  xi' := fun h => nomatch h
  tp' := fun h => nomatch h
theorem s_tryOnly {tb : WX → TS} {ts : TS} {ms : List (String × Bool)} (F : Fit G S k X) (tk : Takes X W) (KX : ExK G x nm C) (hg : S.sc.names.lookup x = some .globalImplicit)
    (hms : ∀ q ∈ ms, PySem.W.exmOne G.K (G.cv q.1) (.ref C) = some q.2)
    (hb : ∀ X' W', Fit G S k X' → Takes X' W' → DSs G X' W' fr own own' ol oh body (tb W') g)
    (hsu : ∀ X', Fit G { S with hot := true, top := false } k X' → DSs G X' W0 fr oh own' ol [] (b₀ :: suite) ts gs)
    (hx : sub ox oh = true) (hdb : (x == ("__debug__" : PySem.Str)) = false := by decide) (hh : S.hot = false := by rfl) (ht : S.top = true := by rfl) :
    DS G X W fr own own' ol ox (.Try body [.ExceptHandler (some (.Name x np)) none (b₀ :: suite) pos'] [] [] pos)
      (fun D σ H => tb (wOnly G.K (.ref C) (fun _ _ _ => ts) W D) D σ H) (tryOF ms g gs) := by
  obtain ⟨hs, hf⟩ := F.tp' ht
  refine ⟨?_, ?_⟩
  · have h := ps_try_only (X := X) (tb := tb) (ts := fun _ _ _ => ts) (Wout := W) (body := body) (b₀ := b₀) (suite := suite) (np := np) (pos := pos) (pos' := pos') (x := x) (c := .ref C) hs hf ⟨fit_gl F hg, hdb, .inl (by rw [F.mg]; exact KX.gC)⟩ tk
      (fun W' pn xe tk' po => (hb _ W' (F.tr pn xe) tk').1) (fun a oe cls d pn hz hf => (hsu _ (F.toSuite0 a _)).1)
    rw [F.K] at h
    exact h
  · intro Z₀ α δ σ H Dn E hX qn qr qb qc qe ns
    unfold tryOF at qn qr qb qc qe ns
    have hbS := fun W' => (hb (X.tr X.pn (fun _ _ => True)) W' (F.tr X.pn _) (fun _ _ _ => trivial)).2
    refine hbS _ Z₀ α δ σ H Dn E hX (fun δ' α' σ' H' hg' E' s => ?_) (fun d v H' hg' kp r => ?_) (fun δ' α' σ' H' hg' E' s => ?_) (fun δ' α' σ' H' hg' E' s => ?_) (fun x δ' α' σ' H' hg' E' s => ?_) (fun hg' => by rw [hg'] at ns; exact ns rfl)
    · rw [hg'] at qn; exact qn δ' α' σ' H' rfl E' s
    · rw [hg'] at qr; exact qr d v H' rfl kp r
    · rw [hg'] at qb; exact qb δ' α' σ' H' rfl E' s
    · rw [hg'] at qc; exact qc δ' α' σ' H' rfl E' s
    · rw [hg'] at qn qr qb qc qe ns
      simp only at qn qr qb qc qe ns
      cases hm : ms.lookup x.cls with
      | none => rw [hm] at ns; exact absurd rfl ns
      | some b =>
        rw [hm] at qn qr qb qc qe ns
        refine ⟨b, hms _ (lookup_mem hm), fun hbt a ha => ?_, fun hbf => ?_⟩
        · subst hbt
          dsimp only at qn qr qb qc ns
          refine (hsu _ (F.toSuite0 a [])).2 Z₀ α' δ' σ' H' Dn E' (F.xi hh _) (fun δ5 α5 σ5 H5 h5 E5 s5 => ?_) (fun d v H5 h5 kp r => ?_) (fun δ5 α5 σ5 H5 h5 E5 s5 => ?_) (fun δ5 α5 σ5 H5 h5 E5 s5 => ?_) (fun x δ5 α5 σ5 H5 h5 E5 s5 => ?_) (fun h5 => by rw [h5] at ns; exact ns rfl)
          · rw [h5] at qn
            exact qn _ α5 _ H5 rfl E5 (s.trans s5)
          · rw [h5] at qr
            exact qr d v H5 rfl (s.keeps (own' := []) kp) (s.ret r)
          · rw [h5] at qb
            exact qb _ α5 _ H5 rfl E5 (s.trans s5)
          · rw [h5] at qc
            exact qc _ α5 _ H5 rfl E5 (s.trans s5)
          · rw [h5] at ns; exact absurd rfl ns
        · subst hbf
          exact qe x δ' α' σ' H' rfl (E'.weak (sub_mem hx)) (s.trans (.refl (sub_mem hx)))
/-! isinstance(e, C), e the error that the suite holds -/
def isE (tbl : List (String × Bool)) (nm : String) : DEnv → R D := fun _ => match tbl.lookup nm with
  | some b => .ok (.bl b)
  | none => .stk
/-- a class as a value: one of the program's own, or a built-in one -/
structure ClsA (G : Cfg) (S : Sco) (x : PySem.Str) (c : V) (u : Value) : Prop where
  cv : ClsV c u
  pe : ∀ {k : Nat} {X : Cx} {pos : Pos}, Fit G S k X → PE X (.Name x pos) (tC c)
theorem clsOwn {C : Addr} (hg : S.sc.names.lookup x = some .globalImplicit) (hm : G.mg x = some (.ref C)) (hd : (x == ("__debug__" : PySem.Str)) = false := by decide) : ClsA G S x (.ref C) (.ref C) :=
  ⟨.own C, fun F => pe_glob (fit_gl F hg) (by rw [F.mg]; exact hm) rfl hd⟩
theorem clsTy {T : String} (hg : S.sc.names.lookup x = some .globalImplicit) (hm : G.mg x = none) (hv : bootBuiltins x = some (.type T)) (hn : x ≠ "__name__" := by decide) (hd : (x == ("__debug__" : PySem.Str)) = false := by decide) : ClsA G S x (.ty T) (.type T) :=
  ⟨.ty T, fun F => pe_bltn (fit_gl F hg) (by rw [F.mg]; exact hm) hv rfl hn hd⟩
theorem d_isE {tbl : List (String × Bool)} {a D₀ : Addr} {c : V} {u : Value} {p1 p3 : Pos} {W : WX} {y : PySem.Str} (F : Fit (G.held i a) S k X) (HH : Held G X a D₀) (hnm : G.cv nm = .ref D₀) (hg : S.sc.names.lookup (PySem.Str.ofString "isinstance") = some .globalImplicit) (hm : G.mg (PySem.Str.ofString "isinstance") = none)
    (hN : S.N[i]? = some n) (hv : Vis S.sc n) (hc : ClsA (G.held i a) S y c u) (htb : ∀ q ∈ tbl, PySem.W.kitOne G.K (G.cv q.1) u = some q.2)
    (h1 : (n == ("__debug__" : PySem.Str)) = false := by decide) (h2 : (n == ("__classdict__" : PySem.Str)) = false := by decide)
    (he : starEach [.Name n p1, .Name y p3] X.env = (false, eval (.Name n p1) X.env) :: starEach [.Name y p3] X.env := by rfl) (hpl : (backTo pos (starEach [.Name y p3] X.env)).any (·.1) = false := by rfl) :
    DE (G.held i a) X W own [] (.Call (.Name (PySem.Str.ofString "isinstance") p) [.Name n p1, .Name y p3] [] pos) (tCB (rIsE G.K D₀ a) (tCons (tVar i) (tCons (tC c) tNil))) (isE tbl nm) := by
  refine ⟨pe_callB HH.isi (fit_gl F hg) (by rw [F.mg]; exact hm) (by decide +kernel) (pa_cons (pe_var (by rw [F.N]; exact hN) (by rw [F.sc]; exact hv) h1 h2) (pa_cons (hc.pe F) pa_nil) he) (by decide) (by decide) he hpl, ?_⟩
  intro Z₀ α δ σ H Q E hX q qe ns
  unfold isE at q ns
  cases hl : tbl.lookup nm with
  | none => rw [hl] at ns; exact absurd rfl ns
  | some b =>
    rw [hl] at q
    refine ⟨_, hX, c, u, b, rfl, fun w hw => hc.cv.eq hw, ?_, q _ _ H rfl (Same.refl H) rfl⟩
    rw [← hnm]
    exact htb _ (lookup_mem hl)
/-! isinstance(e, (C1, C2)) -/
theorem d_isE2 {tbl : List (String × Bool)} {a D₀ : Addr} {c c' : V} {u u' : Value} {p1 p3 p4 p5 : Pos} {W : WX} {y y' : PySem.Str} {x1 : Nat} (F : Fit (G.held i a) S k X) (HH : Held G X a D₀) (hnm : G.cv nm = .ref D₀) (hg : S.sc.names.lookup (PySem.Str.ofString "isinstance") = some .globalImplicit) (hm : G.mg (PySem.Str.ofString "isinstance") = none)
    (hN : S.N[i]? = some n) (hv : Vis S.sc n) (hc : ClsA (G.held i a) S y c u) (hc' : ClsA (G.held i a) S y' c' u') (htb : ∀ q ∈ tbl, PySem.W.kitAny G.K (G.cv q.1) [u, u'] = some q.2)
    (h1 : (n == ("__debug__" : PySem.Str)) = false := by decide) (h2 : (n == ("__classdict__" : PySem.Str)) = false := by decide)
    (he : starEach [.Name n p1, .Tuple [.Name y p3, .Name y' p4] x1 p5] X.env = (false, eval (.Name n p1) X.env) :: starEach [.Tuple [.Name y p3, .Name y' p4] x1 p5] X.env := by rfl)
    (hpl : (backTo pos (starEach [.Tuple [.Name y p3, .Name y' p4] x1 p5] X.env)).any (·.1) = false := by rfl) :
    DE (G.held i a) X W own [] (.Call (.Name (PySem.Str.ofString "isinstance") p) [.Name n p1, .Tuple [.Name y p3, .Name y' p4] x1 p5] [] pos)
      (tCB (fun xs H Q => ∃ (tp : Addr) (cs : List V) (us : List Value) (b : Bool), xs = [.ref a, .ref tp] ∧ H tp = some (.tup cs) ∧ Paired ClsV cs us ∧ PySem.W.kitAny G.K (.ref D₀) us = some b ∧ Q (.bl b) H) (tCons (tVar i) (tCons (tTup (tCons (tC c) (tCons (tC c') tNil))) tNil))) (isE tbl nm) := by
  refine ⟨pe_callB HH.isiT (fit_gl F hg) (by rw [F.mg]; exact hm) (by decide +kernel) (pa_cons (pe_var (by rw [F.N]; exact hN) (by rw [F.sc]; exact hv) h1 h2) (pa_cons (pe_tup (pa_cons (hc.pe F) (pa_cons (hc'.pe F) pa_nil))) pa_nil) he) (by decide) (by decide) he hpl, ?_⟩
  intro Z₀ α δ σ H Q E hX q qe ns
  unfold isE at q ns
  cases hl : tbl.lookup nm with
  | none => rw [hl] at ns; exact absurd rfl ns
  | some b =>
    rw [hl] at q
    refine ⟨_, hX, by show 2 ≤ sizeLine; rw [sizeLine_eq]; decide, fun tp ht => ⟨tp, _, [u, u'], b, rfl, upd_same, .cons hc.cv (.cons hc'.cv .nil), ?_, q _ _ _ rfl (ext_upd ht) rfl⟩⟩
    rw [← hnm]
    exact htb _ (lookup_mem hl)
end

/-! ### a def -/
def startD (m : Nat) (ds : List D) : DEnv := ds.map some ++ List.replicate (m - ds.length) none
def fnRes : Fl → R D
  | .nx _ => .ok .non
  | .rt d => .ok d
  | .ex x _ => .err x
  | _ => .stk
def runD (m : Nat) (g : DEnv → Fl) : List D → R D := fun ds => fnRes (g (startD m ds))
def bodyS (N : List PySem.Str) (st : Stmt) : Sco := { N := N, sc := defScope st, fn := fun _ => true }
theorem start_env {K : PySem.W.Frag} {H : Hp} {Z : Addr → Prop} {ds : List D} {vs : List V} {N : List PySem.Str} (z : ZOk H Z) (r : RepL K H Z ds vs) (α : Nat → List Addr) : EnvOk K Z α [] (startD N.length ds) (L2.start N vs) H := by
  refine ⟨z, (fun i h => nomatch h), (fun i h => nomatch h), (fun i h => nomatch h), ?_, fun i d _ hd => ?_, (fun i h => nomatch h)⟩
  · unfold L2.start startD
    simp [r.len]
  · unfold startD at hd
    by_cases hi : i < ds.length
    · rw [List.getElem?_append_left (by simpa using hi), List.getElem?_map] at hd
      cases e : ds[i]? with
      | none => rw [e] at hd; cases hd
      | some d' =>
        rw [e] at hd
        cases hd
        obtain ⟨v, h1, h2⟩ := r.get e
        refine ⟨v, ?_, h2.less z fun b hb => ?_⟩
        · unfold L2.start
          rw [List.getElem?_append_left (by simp [r.len]; exact hi), List.getElem?_map, h1]
          rfl
        · rcases hb with hb | ⟨j, hj, _⟩
          · exact hb
          · cases hj
    · rw [List.getElem?_append_right (by simp; omega), List.getElem?_replicate] at hd
      split at hd <;> cases hd
section
variable {G : Cfg}
theorem fn_mk {x qual : PySem.Str} {st : Stmt} {f : Addr} {fd : FuncData} {N ps : List PySem.Str} {k n : Nat} {fr : Bool} {own' : List Nat} {t : WX → TS} {g : DEnv → Fl} (hxi : ∀ σ, G.xi σ) (F : Fun G.K x qual st f fd) (SC : FnScope N ps (defScope st)) (hps : ps.length = n)
    (hb : ∀ X W, Fit G (bodyS N st) k X → Takes X W → PassesOwn (model X.prog X.w) X.A X.env X.xe → DSs G X W fr [] own' [] [] (defBody st) (t W) g) :
    FnOk G.P G.w G.K G.mg G.base (L2.CX G.P G.w) (k + 1) f fd ps (spD G n fr (runD N.length g)) := by
  refine F.okX SC (fun vs H Q E h => ?_) (fun cdv A outer s H vs Q E hr h => ?_)
  · obtain ⟨Z, ds, hl, _, r, _⟩ := h
    rw [r.len, hl, hps]
  · obtain ⟨Z, ds, hl, z, r, q, qe, ns⟩ := h
    have fit : Fit G (bodyS N st) k (cxOf (L2.CX G.P G.w) G.P G.w G.K G.mg G.base N qual (defScope st) f cdv A outer s H E) :=
      { prog := rfl, w := rfl, K := rfl, mg := rfl, base := rfl, N := rfl, sc := rfl, fn := rfl, room' := fun _ => hr, calm' := fun _ => rfl, xi' := fun _ => hxi, tp' := fun _ => ⟨rfl, rfl⟩ }
    have hd := hb _ (fun cls d _ H' => E cls d H') fit (takes_of rfl rfl rfl rfl) (passes_of rfl)
    refine ⟨_, hd.1, ?_⟩
    unfold runD fnRes at q qe ns
    refine hd.2 Z (fun _ => []) (startD N.length ds) (L2.start N vs) H _ (start_env z r _) (hxi _) (fun δ' α' σ' H' hg E' s => ?_) (fun d v H' hg kp rr => ?_) (fun δ' α' σ' H' hg E' s => ?_) (fun δ' α' σ' H' hg E' s => ?_) (fun x δ' α' σ' H' hg E' s => ?_) (fun hg => by rw [hg] at ns; exact ns rfl)
    · rw [hg] at q
      refine q .non .non H' rfl (fun b o h => s.keep b o (fun ⟨j, hj, _⟩ => nomatch hj) h) ?_
      cases fr with
      | true => exact .inr (.inl ⟨rfl, rfl, rfl⟩)
      | false => exact .inr (.inr ⟨rfl, rfl⟩)
    · rw [hg] at q
      refine q d v H' rfl (fun b o h => kp b o (fun ⟨j, hj, _⟩ => nomatch hj) h) ?_
      rcases rr with ⟨h1, φ, h2, h3, h4⟩ | rr
      · refine .inl ⟨h1, φ, fun a ha => ?_, h3, h4⟩
        rcases h2 a ha with ⟨j, hj, _⟩ | h2
        · cases hj
        · exact h2
      · exact .inr rr
    · rw [hg] at ns; exact absurd rfl ns
    · rw [hg] at ns; exact absurd rfl ns
    · rw [hg] at qe
      exact qe x H' rfl (fun b o h => s.keep b o (fun ⟨j, hj, _⟩ => nomatch hj) h)
end
end DL

set_option maxRecDepth 100001
set_option maxHeartbeats 1000001
namespace DL
open PySem PySem.Spec PyProof.Rows L2
/-! a, b = x, y: which stores -/
def swSB (sc : Scope) (x y : PySem.Str) (px py : Pos) (a b : Expr) : Bool := (sc.names.lookup x == some .local) && (sc.names.lookup y == some .local) && (py.line == px.line) && !(x == y) && !(([a, b] : List Expr).any fun | .Starred .. => true | _ => false)
theorem sws_env {env : Env} {sc : Scope} (he : env.scope = sc) (hk : sc.kind = .function) : env.blockKind = .function ∧ ∀ y, env.kindOf y = sc.names.lookup y := by
  subst he
  exact ⟨by unfold Env.blockKind; rw [hk]; rfl, fun _ => rfl⟩
theorem sws_some {env : Env} {sc : Scope} {x y : PySem.Str} {px py pt pt2 : Pos} {kt k2 : Nat} {a b : Expr} (he : env.scope = sc) (hk : sc.kind = .function) (h : swSB sc x y px py a b = true) (hf : ([a, b] : List Expr).all (foldedForSure 8) = false) (hc : ([a, b] : List Expr).all (constantsAlone 8) = false) :
    swappedStores [.Tuple [.Name x px, .Name y py] kt pt] (.Tuple [a, b] k2 pt2) env = pure (some [x, y]) := by
  obtain ⟨hb, kd⟩ := sws_env he hk
  unfold swSB at h
  simp only [Bool.and_eq_true, Bool.not_eq_true'] at h
  obtain ⟨⟨⟨⟨h1, h2⟩, h3⟩, h4⟩, h5⟩ := h
  have e1 : (env.kindOf x == some .local) = true := by rw [kd]; exact h1
  have e2 : (env.kindOf y == some .local) = true := by rw [kd]; exact h2
  have e6 : (px.line == px.line) = true := by simp
  have e7 : ([x, y] : List PySem.Str).eraseDups.length = 2 := by
    have hne : ¬ (y == x) = true := by
      intro q
      have : y = x := by simpa using q
      subst this
      simp at h4
    simp [List.eraseDups_cons, hne]
  unfold swappedStores
  simp only [hb, List.head?, Option.map, Option.getD, Expr.pos, List.filterMap_cons, List.filterMap_nil, e1, e2, h3, e6, Bool.and_self, if_true, List.length_cons, List.length_nil, hf, hc, e7]
  rw [if_neg (by decide)]
  split
  · rename_i q
    exact absurd (q.symm.trans h5) (by decide)
  · rfl
theorem sws_none {env : Env} {ts : List Expr} {pt pt2 : Pos} {kt k2 : Nat} {vs : List Expr} (hf : vs.all (foldedForSure 8) = true) (hs : (vs.any fun | .Starred .. => true | _ => false) = false) : swappedStores [.Tuple ts kt pt] (.Tuple vs k2 pt2) env = pure none := by
  unfold swappedStores
  simp only [hf]
  repeat (first | rfl | split)
theorem sws_cell {env : Env} {sc : Scope} {x y : PySem.Str} {px py pt pt2 : Pos} {kt k2 : Nat} {vs : List Expr} (he : env.scope = sc) (hk : sc.kind = .function) (h : ((sc.names.lookup x == some .local) && (sc.names.lookup y == some .local) && (py.line == px.line)) = false) :
    swappedStores [.Tuple [.Name x px, .Name y py] kt pt] (.Tuple vs k2 pt2) env = pure none := by
  obtain ⟨hb, kd⟩ := sws_env he hk
  have e6 : (px.line == px.line) = true := by simp
  unfold swappedStores
  simp only [hb, List.head?, Option.map, Option.getD, Expr.pos, List.filterMap_cons, List.filterMap_nil, kd, e6, Bool.and_true, List.length_cons, List.length_nil]
  cases h1 : (sc.names.lookup x == some .local) <;> cases h2 : (sc.names.lookup y == some .local) <;> cases h3 : (py.line == px.line) <;> simp [h1, h2, h3] at h ⊢ <;> (repeat (first | rfl | split)) <;> simp_all
/-! name += e, of ints and of texts -/
def iaddD : D → D → R D
  | .int i, .int j => .ok (.int (i + j))
  | .str x, .str y => if x.length + y.length ≤ sizeLine then .ok (.str (x ++ y)) else .stk
  | _, _ => .stk
def rIAdd : R2 := fun x y H Q => rI0 (fun i j => .int (i + j)) x y H Q ∨ (∃ i j, x = .str i ∧ y = .str j ∧ i.length + j.length ≤ sizeLine ∧ Q (.str (i ++ j)) H)
theorem iop_addA {X : Cx} : OpR X (inplaceOp .Add) rIAdd := iop_add.or iop_add_str
theorem os_iadd {K : PySem.W.Frag} : OpS K iaddD rIAdd := by
  intro H Z x y d e Q z hx hy q
  obtain ⟨c, hc, q⟩ := q
  unfold iaddD at hc
  split at hc
  · cases hc; cases hx.int; cases hy.int
    exact .inl ⟨_, _, rfl, rfl, q _ H (Same.refl H) rfl⟩
  · split at hc
    · rename_i h; cases hc; cases hx.str; cases hy.str
      exact .inr ⟨_, _, rfl, rfl, h, q _ H (Same.refl H) rfl⟩
    · cases hc
  · cases hc
theorem noerr_iadd (d e : D) (z : Exn) : iaddD d e ≠ .err z := by
  intro h; unfold iaddD at h; repeat (first | contradiction | split at h)
section
variable {G : Cfg} {S : Sco} {k : Nat} {X : Cx} {W : WX} {own lk l1 l2 : List Nat} {pos p : Pos} {a e tg : Expr} {ta te : TE} {f : DEnv → R D} {x : PySem.Str}
theorem t_isN {j : Nat} {p' : Pos} (ha : DE G X W own l1 a ta f) : DT G X W own (.Compare a [.Is] [.Constant .none j p'] pos) (tB (tIsN ta)) (toB (u1 isND f)) :=
  ⟨pt_cmp (pc_isN ha.1) rfl, ST.bl (d_isN (pos := pos) (j := j) (p' := p') ha).2⟩
theorem t_notN {j : Nat} {p' : Pos} (ha : DE G X W own l1 a ta f) : DT G X W own (.Compare a [.IsNot] [.Constant .none j p'] pos) (tB (tNotN ta)) (toB (u1 notND f)) :=
  ⟨pt_cmp (pc_notN ha.1) rfl, ST.bl (d_notN (pos := pos) (j := j) (p' := p') ha).2⟩
/-- a list, a tuple walked -/
def itS (f : DEnv → R D) : DEnv → R (List D) := fun δ => (f δ).bind fun d => match d with
  | .lst ds => .ok ds
  | .scr ds => .ok ds
  | .tup ds => .ok ds
  | _ => .stk
theorem i_seq (F : Fit G S k X) (h : DE G X W own lk e te f) : DI G X W own lk tg e (fun σ H R => iList G.K te σ H R ∨ iTup G.K te σ H R) (itS f) := by
  have hl := i_list (tg := tg) F h
  have ht := i_tup (tg := tg) F h
  refine ⟨⟨fun pins s σ H R I q => q.elim (hl.1.run pins s σ H R I) (ht.1.run pins s σ H R I)⟩, ?_⟩
  intro Z₀ α δ σ H R₀ E hX q qe ns
  unfold itS at q qe ns
  cases hf : f δ with
  | stk => rw [hf] at ns; exact absurd rfl ns
  | err x =>
    rw [hf] at q qe ns
    refine .inl (hl.2 Z₀ α δ σ H R₀ E hX (fun ds J H1 Gd Y hd => ?_) (fun x H' hd => ?_) (fun hd => ?_))
    · unfold itL at hd; rw [hf] at hd; cases hd
    · unfold itL at hd; rw [hf] at hd; exact qe x H' hd
    · unfold itL at hd; rw [hf] at hd; cases hd
  | ok d =>
    rw [hf] at q qe ns
    simp only [R.bind_ok] at q qe ns
    cases d with
    | lst ds =>
      refine .inl (hl.2 Z₀ α δ σ H R₀ E hX (fun ds' J H1 Gd Y hd => ?_) (fun x H' hd => ?_) (fun hd => ?_))
      · unfold itL at hd; rw [hf] at hd; exact q ds' J H1 Gd Y hd
      · unfold itL at hd; rw [hf] at hd; cases hd
      · unfold itL at hd; rw [hf] at hd; cases hd
    | scr ds =>
      refine .inl (hl.2 Z₀ α δ σ H R₀ E hX (fun ds' J H1 Gd Y hd => ?_) (fun x H' hd => ?_) (fun hd => ?_))
      · unfold itL at hd; rw [hf] at hd; exact q ds' J H1 Gd Y hd
      · unfold itL at hd; rw [hf] at hd; cases hd
      · unfold itL at hd; rw [hf] at hd; cases hd
    | tup ds =>
      refine .inr (ht.2 Z₀ α δ σ H R₀ E hX (fun ds' J H1 Gd Y hd => ?_) (fun x H' hd => ?_) (fun hd => ?_))
      · unfold itT at hd; rw [hf] at hd; exact q ds' J H1 Gd Y hd
      · unfold itT at hd; rw [hf] at hd; cases hd
      · unfold itT at hd; rw [hf] at hd; cases hd
    | _ => exact absurd rfl ns
/-- a def with its name, its code and its place -/
theorem fnd_mk {qual : PySem.Str} {st : Stmt} {f : Addr} {fd : FuncData} {ps : List PySem.Str} {k n : Nat} {fr : Bool} {Φ : List D → R D} (F : Fun G.K x qual st f fd) (hm : G.mg x = some (.ref f)) (hb : Binds G.K fd ps [])
    (ok : FnOk G.P G.w G.K G.mg G.base (L2.CX G.P G.w) k f fd ps (spD G n fr Φ)) : FnD G k x n fr Φ := ⟨f, fd, ps, ok, hm, F.kp, hb⟩
theorem FnD.mono {n : Nat} {fr : Bool} {Φ : List D → R D} {j : Nat} (h : FnD G j x n fr Φ) (hk : j ≤ k) : FnD G k x n fr Φ := by
  obtain ⟨f, fd, ps, ok, r⟩ := h.ex
  exact ⟨f, fd, ps, ok.mono hk, r⟩
/-- a tuple of the module that was written of ints -/
theorem rep_ktup {K : PySem.W.Frag} {a : Addr} {o : Obj} {its : Array Value} {m : Nat} (hl : K.lookup a = some o) (hc : o.cls = .type "tuple") (hd : o.data = .seq its m) (hz : its.size ≤ sizeLine) {ns : List Int} (hv : Vals (ns.map V.int) its.toList) :
    ∀ (H : Hp) (Z : Addr → Prop), Rep K H Z (.tup (ns.map D.int)) (.ref a) := fun H Z => by
  refine ⟨a, ns.map V.int, rfl, .inr ⟨o, its, m, hl, hc, hd, hz, hv⟩, ?_⟩
  clear hv hz
  induction ns with
  | nil => rfl
  | cons n ns ih => exact ⟨_, _, rfl, rfl, ih⟩
/-- the law's own promise, from its def's -/
theorem law_sp {G : Cfg} {H : Hp} {a : Addr} {ns : List Int} {Φ : List D → R D} (hS : SqL G.K H a (ns.map V.int)) (h : Φ [.scr (ns.map D.int)] = .ok (.bl true)) : spD G 1 false Φ [.ref a] H (fun v _ => v = .bl true) (fun _ _ _ => False) := by
  refine ⟨fun _ => False, [.scr (ns.map D.int)], rfl, fun _ h => h.elim, ⟨.ref a, [], rfl, ⟨a, ns.map V.int, rfl, ?_, ?_⟩, rfl⟩, fun d v H' hd e r => ?_, fun x H' hx _ => ?_, fun hn => ?_⟩
  · rcases hS with h | h
    · exact .inl ⟨h, id⟩
    · exact .inr h
  · clear hS h
    induction ns with
    | nil => rfl
    | cons n ns ih => exact ⟨_, _, rfl, rfl, ih⟩
  · rw [h] at hd
    cases hd
    rcases r with ⟨q, _⟩ | ⟨q, _⟩ | ⟨_, r⟩
    · cases q
    · cases q
    · exact r.bl
  · rw [h] at hx; cases hx
  · rw [h] at hn; cases hn
end
end DL

set_option maxRecDepth 100001
set_option maxHeartbeats 1000001
namespace PySem
namespace HandSPX
open Builtin Builtin.ObjectAttr
section
variable {M : Model} {A : Around} {E : Value → Shared → Prop} {s : Shared} {base : Heap} {env : Env} {outer : List Env} {e L C : Addr} {Z : Obj → Prop}
/-- a frame of that address alone counts -/
theorem note_congr {x : Value} {a b : Env} (h : a.frame = b.frame) : noteFrame x a = noteFrame x b := by
  unfold noteFrame frameOf
  rw [h]
theorem rawNe {C L : Addr} (h : C ≠ L) : (rawInt C == rawInt L) = false := by
  have q : ¬ ((C : Int) = (L : Int)) := fun e => h (Int.ofNat.inj e)
  simpa [rawInt] using q
/-- as looks_onZ, whatever other mark stands in the entry -/
theorem looks_upZ {fl : Value} {Q : Unit → Shared → Prop} (hZ : Steady Z) (hne : (fl == rawInt L) = false) (hfr : A.frames = some (env :: outer)) (hf : env.frame = some L)
    (hkb : base.StaysIn s.heap) (hen : base.get? e = none) (hl : s.heap.FunFrames base (env :: outer)) (ht : TracedZ s.heap base e Z fl)
    (hQ : ∀ h', HeldZ base (env :: outer) e Z L h' → s.heap.UpToSlots h' → Q () { s with heap := h' }) : wpAny M A (noteFrame (.ref e) env) Q E s := by
  obtain ⟨oe, vs, T, oT, ts, he, hz, hd, h1, hnT, hTe, hT, hdT, h3⟩ := ht
  unfold noteFrame
  simp only [hf]
  refine wpAny_bind (wpAny_field he hd h1 ?_)
  rw [if_pos (by simp : (Value.ref T != Value.none) = true)]
  refine wpAny_bind (wpAny_field hT hdT h3 ?_)
  rw [if_neg (by rw [hne]; decide)]
  refine wpAny_bind (wpAny_setField hT hdT (Array.getElem?_eq_some_iff.mp h3).1 ?_)
  have oth : ∀ b, b ≠ T → (s.heap.update T (Obj.mapFields (·.setIfInBounds 3 Value.none))).get? b = s.heap.get? b := fun b hb =>
    Heap.get?_update_other _ _ (Ne.symm hb)
  have nrec : ∀ b o, s.heap.get? b = some o → (∀ vs, o.data ≠ .fields vs) → b ≠ T := fun b o hb hnf q => by
    rw [q, hT] at hb
    cases hb
    exact hnf ts hdT
  refine wpAny_entryZ hZ hfr (hl.of_keeps fun b o hb hnf => ⟨o, (oth b (nrec b o hb hnf)).trans hb, rfl⟩) hf ((oth e (Ne.symm hTe)).trans he)
    (fun b o hbo => (oth b fun q => by rw [q, hnT] at hbo; cases hbo).trans (hkb b o hbo)) hen hd (Array.getElem?_eq_some_iff.mp h1).1 hz fun h' hN => ?_
  obtain ⟨x1, x2, x3, x4⟩ := hN
  exact hQ h' ⟨x1, hen, x2, x3⟩ fun b o hb hnf =>
    x4 b o ((oth b (nrec b o hb hnf)).trans hb) hnf
end
end HandSPX
end PySem
namespace L2
open PySem PySem.Spec PyProof.Rows
/-- noted by the frame that runs, whatever block of it the exception comes from -/
theorem Sky.noted {M : Model} {A : Around} {E₁ : Value → Shared → Prop} {s : Shared} {B : Heap} {env ce : Env} {outer : List Env} {L C a : Addr} {Z : Obj → Prop} {Q : Unit → Shared → Prop} (hZ : HandSPX.Steady Z) (hfr : A.frames = some (env :: outer)) (hf : env.frame = some L)
    (hce : ce.frame = env.frame) (x : Sky B (env :: outer) a Z C s.heap) (hQ : ∀ h', HandSPX.HeldZ B (env :: outer) a Z L h' → s.heap.UpToSlots h' → Q () { s with heap := h' }) :
    wpAny M A (noteFrame (.ref a) ce) Q E₁ s := by
  rw [HandSPX.note_congr hce]
  rcases x with ⟨hB, hn, hl, oe, vs, he, hz, hd, h1⟩ | fl | hh
  · exact HandSPX.look_newZ hZ hfr hl hf he hB hn hd h1 hz hQ
  · exact HandSPX.looks_onZ hZ hfr hf fl hQ
  · obtain ⟨k1, k2, k3, k4⟩ := hh
    by_cases q : C = L
    · subst q
      exact HandSPX.againZ hf k4 (hQ s.heap ⟨k1, k2, k3, k4⟩ (Heap.UpToSlots.refl _))
    · exact HandSPX.looks_upZ hZ (HandSPX.rawNe q) hfr hf k1 k2 k3 k4 hQ
end L2
namespace L2
open PySem PySem.Spec PyProof.Rows
theorem ff_sub {base B h h' : Heap} {C : Addr} (hC : ∀ b o, b ≠ C → h.get? b = some o → h'.get? b = some o) (hB : ∀ b, base.get? b = none → B.get? b = none) : ∀ {l : List Env}, C ∉ frs l → h.FunFrames base l → h'.FunFrames B l
  | [], _, _ => trivial
  | env :: l, n, q => by
    obtain ⟨hk, ⟨L, o, hf, hn, ho, hd⟩, hr⟩ := q
    have n1 : L ≠ C := fun e => n (List.mem_filterMap.mpr ⟨env, List.mem_cons_self, by rw [hf, e]⟩)
    have n2 : C ∉ frs l := fun e => by
      obtain ⟨x, hx, r⟩ := List.mem_filterMap.mp e
      exact n (List.mem_filterMap.mpr ⟨x, List.mem_cons_of_mem _ hx, r⟩)
    exact ⟨hk, ⟨L, o, hf, hB L hn, hC L o n1 ho, hd⟩, ff_sub hC hB n2 hr⟩
section
variable {X : Cx} {pins : List (Addr × Obj)} {σ : St} {H : Hp} {s s' : Shared} {W : WX}
/-- an exception of a block is one of the def that the block runs in -/
theorem XE.unblock {scope : Scope} {ce : Env} {fp : List Addr} {xe' : Value → Shared → Prop} {W' : WX} (hs : X.stack = X.env :: X.outer) (hf : X.env.frame = some X.env.locals) (tk : Takes X W) (I : Inv X pins σ H s) (hce : ce.frame = X.env.frame) (cL : ce.locals = s.heap.objs.size)
    (hfp : ∀ b ∈ fp, (b ∈ X.ex ∨ X.s_0.heap.objs.size ≤ b) ∧ b ≠ X.env.locals ∧ (∀ x c, X.env.cells.lookup x = some c → c ≠ b) ∧ ∀ p ∈ X.pn ++ pins, p.1 ≠ b) (hW : ∀ cls d σ' H', W' cls d σ' H' → W cls d σ H')
    {E₂ : Value → Shared → Prop} {u : Value} (x : XE { X.blk s H scope ce fp with xe := xe' } W' u s') :
    wpAny (model X.prog X.w) X.A (noteFrame u ce) (fun _ s2 => ∃ m, s2.heap.Ns ce.locals m ∧ ∀ h', Heap.SameBut ce.locals s2.heap h' → wpAny (model X.prog X.w) X.A (passOn "comprehension.variables-let-go" u ce : Sem Value) (fun _ _ => False) X.xe { s2 with heap := h' }) E₂ s' := by
  obtain ⟨a, B, sI, pins', σ', H', cls, d, rfl, J, nb, up, sky, na, os, ag, w⟩ := x
  have hfr : X.A.frames = some (X.env :: X.outer) := by rw [I.ok.frames, hs]
  have sky : Sky B X.stack a (Zc cls d) ce.locals s'.heap := sky
  have nb : ∀ b o, sI.heap.get? b = some o → b ∉ frs X.stack → B.get? b = some o := nb
  rw [hs] at sky
  obtain ⟨m, hn, _⟩ := J.loc
  have hn : sI.heap.Ns ce.locals m := hn
  have nC : H' ce.locals = none := J.free
  have nfs : ce.locals ∉ frs X.stack := fun hm => by
    obtain ⟨_, o, e, _⟩ := I.stack.mem hm
    have := Heap.lt_size e
    rw [cL] at this
    exact Nat.lt_irrefl _ this
  have oC : ∀ o, sI.heap.get? ce.locals = some o → B.get? ce.locals = some o := fun o e => nb _ o e nfs
  obtain ⟨oc, es, ep, hoc, hdc, rc⟩ := hn
  have hn : sI.heap.Ns ce.locals m := ⟨oc, es, ep, hoc, hdc, rc⟩
  have ncf : ∀ vs, oc.data ≠ .fields vs := fun vs e => by rw [hdc] at e; cases e
  -- the def's state, without the block's names
  have I7 : Inv X pins σ H' sI := I.call' J.os J.base J.hok J.bare hfp
  have fpC := I.fpOk (H' := H') (b := ce.locals) (Nat.le_of_eq cL.symm) nC
  have gk : ∀ b o, b ≠ ce.locals → sI.heap.get? b = some o → (PySem.W.hideAll sI.heap [ce.locals]).get? b = some o := fun b o n e => PySem.W.hideAll_get _ e (by simpa using n)
  have I8 : Inv X pins σ H' { sI with heap := PySem.W.hideAll sI.heap [ce.locals] } := by
    refine I7.call' (ch := [ce.locals]) rfl ⟨fun b o e _ _ n => gk b o (by simpa using n) e, fun b o e _ _ n => ⟨o.slots, gk b o (by simpa using n) e⟩, fun _ _ _ n _ => n, fun b o e n => ⟨o, gk b o (by simpa using n) e⟩, fun _ _ e => e, fun _ _ _ e => e, fun b ps e => ⟨#[], by rw [e]; simp⟩⟩ (fun b o e => ?_) J.bare fun b hb => ?_
    · refine (J.hok b o e).stay (fun c v hc r => gk c v (fun z => ?_) r) (fun _ q => q) fun _ _ q => q
      rcases hc with hc | hc
      · rw [← hc, z, nC] at e; cases e
      · rw [z, nC] at hc; cases hc
    · rw [List.mem_singleton.mp hb]
      exact ⟨fpC.2.2.2.1, fpC.2.1, fpC.2.2.2.2.1, fpC.2.2.2.2.2⟩
  refine Sky.noted Zc.steady hfr hf hce sky fun h1 hh1 up1 => ?_
  obtain ⟨k1, k2, k3, oe, vs, T, oT, ts, he, hz, hd, e1, hnT, hTe, hT, hdT, e3⟩ := id hh1
  have hC1 : h1.get? ce.locals = some oc := k1 _ _ (oC _ hoc)
  have aC : a ≠ ce.locals := fun z => by
    rw [z, hC1] at he
    cases he
    exact ncf _ hd
  have TC : T ≠ ce.locals := fun z => by
    rw [z, hC1] at hT
    cases hT
    exact ncf _ hdT
  refine ⟨m, hn.at fun o e => k1 _ _ (oC o e), fun h' sb => ?_⟩
  have sb2 : ∀ b o, b ≠ ce.locals → h1.get? b = some o → h'.get? b = some o := fun b o n e => (sb.2 b n).trans e
  have B0 : ∀ b, B.get? b = none → (PySem.W.hideAll B [ce.locals]).get? b = none := fun b e => by
    cases q : (PySem.W.hideAll B [ce.locals]).get? b with
    | none => rfl
    | some o =>
      have := PySem.W.of_hideAll _ q
      rw [e] at this; cases this
  have hh2 : HandSPX.HeldZ (PySem.W.hideAll B [ce.locals]) (X.env :: X.outer) a (Zc cls d) X.env.locals h' := by
    refine ⟨fun b o e => ?_, B0 _ k2, ff_sub sb2 B0 (by rw [← hs]; exact nfs) k3, oe, vs, T, oT, ts, sb2 _ _ aC he, hz, hd, e1, B0 _ hnT, hTe, sb2 _ _ TC hT, hdT, e3⟩
    have n : b ≠ ce.locals := fun z => by
      rw [z, PySem.W.hideAll_none [ce.locals] (by simp)] at e
      cases e
    exact sb2 b o n (k1 b o (PySem.W.of_hideAll _ e))
  unfold PySem.passOn
  refine wpAny_bind (wpAny_field (sb2 _ _ aC he) hd e1 ?_)
  rw [if_neg (by simp : ¬ ((Value.ref T == Value.none) = true))]
  have fin : wpAny (model X.prog X.w) X.A (setFlight (.ref a) ce.frame) (fun _ s4 => wpAny (model X.prog X.w) X.A (throw (.ref a) : Sem Value) (fun _ _ => False) X.xe s4) X.xe { s' with heap := h' } := by
    rw [hce, hf]
    refine HandSPX.setFlight_onZ hh2 fun h4 hh4 up4 => wpAny_throw (tk _ _ ?_)
    refine ⟨a, PySem.W.hideAll B [ce.locals], { sI with heap := PySem.W.hideAll sI.heap [ce.locals] }, pins, σ, H', cls, d, rfl, I8, fun b o e hb => ?_, fun b o e hnf => ?_, .inr (.inr (by rw [hs]; exact hh4)), na, os, ag, hW _ _ _ _ w⟩
    · have n : b ≠ ce.locals := fun z => by
        have e : (PySem.W.hideAll sI.heap [ce.locals]).get? b = some o := e
        rw [z, PySem.W.hideAll_none [ce.locals] (by simp)] at e
        cases e
      exact PySem.W.hideAll_get _ (nb b o (PySem.W.of_hideAll _ e) hb) (by simpa using n)
    · have e : (PySem.W.hideAll sI.heap [ce.locals]).get? b = some o := e
      have n : b ≠ ce.locals := fun z => by
        rw [z, PySem.W.hideAll_none [ce.locals] (by simp)] at e
        cases e
      obtain ⟨sl, q1⟩ := up b o (PySem.W.of_hideAll _ e) hnf
      obtain ⟨sl1, q2⟩ := up1 b _ q1 hnf
      obtain ⟨sl2, q3⟩ := up4 b _ (sb2 _ _ n q2) hnf
      exact ⟨sl2, q3⟩
  first
    | exact wpAny_bind (wpAny_pure (wpAny_bind fin))
    | exact wpAny_bind fin
end
end L2
namespace PySem
section
variable {M : Model} {A : Around} {E : Value → Shared → Prop} {s : Shared} {env : Env}
/-- behind a comprehension's block: what it made is told, or the error goes on -/
def blkEnd (M : Model) (A : Around) (E : Value → Shared → Prop) (use : Option (Value → Sem Unit)) (Q : Value → Shared → Prop) (acc : Value) (ce : Env) (r : Result) (s2 : Shared) : Prop :=
  match r, use with
  | .ok _, none => ∃ m, s2.heap.Ns ce.locals m ∧ ∀ h2, Heap.SameBut ce.locals s2.heap h2 → Q acc { s2 with heap := h2 }
  | .ok _, some u => wpAny M A (u acc) (fun _ s3 => ∃ m, s3.heap.Ns ce.locals m ∧ ∀ h2, Heap.SameBut ce.locals s3.heap h2 → Q .none { s3 with heap := h2 }) E s2
  | .error x, _ => ∃ m, s2.heap.Ns ce.locals m ∧ ∀ h2, Heap.SameBut ce.locals s2.heap h2 → wpAny M A (passOn "comprehension.variables-let-go" x ce : Sem Value) (fun _ _ => False) E { s2 with heap := h2 }
theorem comp_hot {e : Expr} {scope : Scope} {pos : Pos} {newAcc first : Sem Value} {g : Comprehension} {gs : List Comprehension} {cl : List (Str × Addr)} {use : Option (Value → Sem Unit)} {Q : Value → Shared → Prop}
    (hcl : clausesOf e = g :: gs) (hs : ∀ x, foldedSetIterable g.iter env x = pure x) (hclos : closureFor scope env = pure cl) (hkind : scope.kind = .function) (hnames : ∀ x ∈ scope.names, x.2 = .local → scope.names.lookup x.1 = some .local)
    (h : wpAny M A first (fun x s1 => wpAny M A (pyIter x) (fun it s2 => wpAny M A newAcc (fun acc s3 => wpAny M A (newFunctionEnv scope env.globals cl [] env.qual none .none (some env))
      (fun cenv s4 => codeAny M A (.compStart e 0 it acc { cenv with scope := relabel scope env }) (blkEnd M A E use Q acc { cenv with scope := relabel scope env }) s4) E s3) E s2) E s1) E s) :
    wpAny M A (comprehension e scope env pos newAcc false first use) Q E s := by
  unfold comprehension
  rw [hclos, hcl]
  refine wpAny_bind (wpAny_mono h (fun x s1 h1 => wpAny_bind (wpAny_standAt (wpAny_bind (wpAny_of_eq (hs x) (wpAny_bind (wpAny_holding (wpAny_mono h1 (fun it s2 h2 =>
    wpAny_standIf (wpAny_bind (wpAny_mono h2 (fun acc s3 h3 => wpAny_bind (wpAny_pure (wpAny_bind (wpAny_mono h3 (fun cenv s4 h4 => ?_) fun _ _ z => z)))) fun _ _ z => z)))
      fun _ _ z => z))))))) fun _ _ z => z)
  dsimp only
  have hv : ∀ x ∈ (scope.names.filter fun x => (x.2 == .local || x.2 == .cell) && x.1 != (".0" : Str)).reverse, x.2 = .local → Env.kindOf { cenv with scope := relabel scope env } x.1 = some .local := fun x hx hl => by
    exact lookup_relabel_local (hnames x (List.mem_filter.mp (List.mem_reverse.mp hx)).1 hl)
  have hv2 : ∀ x ∈ (scope.names.filter fun x => (x.2 == .local || x.2 == .cell) && x.1 != (".0" : Str)).reverse.drop 1 ++ (scope.names.filter fun x => (x.2 == .local || x.2 == .cell) && x.1 != (".0" : Str)).reverse.take 1,
      x.2 = .local → Env.kindOf { cenv with scope := relabel scope env } x.1 = some .local := fun x hx hl => by
    rcases List.mem_append.mp hx with q | q
    · exact hv x (List.mem_of_mem_drop q) hl
    · exact hv x (List.mem_of_mem_take q) hl
  refine wpAny_holding (wpAny_bind (wpAny_attempt (wpAny_holding (wpAny_run (codeAny_mono h4 fun r t hr => ?_)))))
  cases r with
  | ok f =>
    cases use with
    | none =>
      obtain ⟨m, hn, hr⟩ := hr
      exact wpAny_bind (wpAny_holding (wpAny_comp_letGo (cenv := { cenv with scope := relabel scope env }) hkind _ t m hv hn fun h' m' _ q => wpAny_pure (hr h' q)))
    | some u =>
      refine wpAny_bind (wpAny_rule (wpAny_bind (wpAny_holding (wpAny_mono hr (fun _ t2 hr2 => ?_) fun _ _ z => z))))
      obtain ⟨m, hn, hr2⟩ := hr2
      exact wpAny_bind (wpAny_comp_letGo (cenv := { cenv with scope := relabel scope env }) hkind _ t2 m hv2 hn fun h' m' _ q => wpAny_pure (hr2 h' q))
  | error x =>
    have hr2 : ∃ m, t.heap.Ns cenv.locals m ∧ ∀ h2, Heap.SameBut cenv.locals t.heap h2 → wpAny M A (passOn "comprehension.variables-let-go" x { cenv with scope := relabel scope env } : Sem Value) (fun _ _ => False) E { t with heap := h2 } := by cases use <;> exact hr
    obtain ⟨m, hn, hr⟩ := hr2
    exact wpAny_bind (wpAny_holding (wpAny_comp_letGo (cenv := { cenv with scope := relabel scope env }) hkind _ t m hv hn fun h' m' _ q => wpAny_mono (hr h' q) (fun _ _ f => f.elim) fun _ _ y => y))
end
end PySem

namespace L2
open PySem PySem.Spec PyProof.Rows
/-- a block whose errors go to xe -/
abbrev Cx.blkX (X : Cx) (s : Shared) (H : Hp) (scope : Scope) (cenv : Env) (fp : List Addr) (xe : Value → Shared → Prop) : Cx := { X with s_0 := s, H_0 := H, env := cenv, outer := X.stack, ex := fp, fn := fun x => scope.names.lookup x == some .cell, pn := [], xe := xe }
theorem Inv.withX {X : Cx} {pins : List (Addr × Obj)} {σ : St} {H : Hp} {s : Shared} {xe : Value → Shared → Prop} (I : Inv X pins σ H s) : Inv { X with xe := xe } pins σ H s :=
  ⟨⟨I.ok.mod, I.ok.kind, I.ok.glob, I.ok.blt, I.ok.above, I.ok.inj, I.ok.has, I.ok.cab, I.ok.hd, I.ok.frames, I.ok.stk, I.ok.exf, I.ok.bs, I.ok.bsz, I.ok.noex, I.ok.exfs, I.ok.funs, I.ok.frf⟩, I.os, I.bare, I.base, I.loc, I.cell, I.free, I.freeC, I.pin, I.hok, I.len⟩
section
variable {X : Cx}
/-- the reading of a new list whose element may let an error out, W the wish of the def -/
def tLcH (wi : TI) (g : TG) (tt : TT) (te : WX → TE) (W : WX) (vs : List Nat) : TE := fun σ H Q => tLc wi g tt (te fun cls d _ H' => W cls d σ H') vs σ H Q
theorem lc_hot {pins : List (Addr × Obj)} {s : Shared} {σ : St} {H : Hp} {Q : VK} {elt tg iter : Expr} {ifs : List Expr} {scope : Scope} {own : List (Str × Nat)} {pos pos' : Pos} {wi : TI} {g : TG} {tt : TT} {te : WX → TE} {W : WX} {use : Option (Value → Sem Unit)} {Qf : Value → Shared → Prop}
    (hs : X.stack = X.env :: X.outer) (hf : X.env.frame = some X.env.locals) (tk : Takes X W) (hc : X.calm = true) (hN : X.N.Nodup) (I : Inv X pins σ H s) (hi : PI X tg iter wi) (ok : BlkOk X.N X.env.scope scope own)
    (hg : ∀ s H C cl fp xe, PG (X.blkX s H scope (compEnvC scope cl C X.env) fp xe) tg g) (ht : ∀ s H C cl fp xe, PTs (X.blkX s H scope (compEnvC scope cl C X.env) fp xe) ifs tt)
    (he : ∀ s H C cl fp xe W2, Takes (X.blkX s H scope (compEnvC scope cl C X.env) fp xe) W2 → PE (X.blkX s H scope (compEnvC scope cl C X.env) fp xe) elt (te W2)) (hfi : ∀ x, foldedSetIterable iter X.env x = pure x) (h : tLcH wi g tt te W (own.map (·.2)) σ H Q)
    (hR : ∀ D C s' m H', Inv X pins σ H' s' → Q (.ref D) H' → s'.heap.Ns C m → FpOk X pins H' C → ∀ ce : Env, ce.locals = C → blkEnd (model X.prog X.w) X.A X.xe use Qf (.ref D) ce (.ok .next) s') :
    wpAny (model X.prog X.w) X.A (comprehension (.ListComp elt [⟨tg, iter, ifs, 0⟩] scope pos) scope X.env pos' (newList []) false (eval iter X.env) use) Qf X.xe s := by
  have free : ∀ y ∈ scope.names, y.2 = .free → ∃ c, X.env.cells.lookup y.1 = some c := fun y hy e =>
    (ok.free y hy e).elim (fun k => I.ok.has _ (.inl k)) fun k => I.ok.has _ (.inr k)
  refine comp_hot (use := use) rfl hfi (closure_ok free) ok.kind (fun y hy e => by rw [ok.uniq y hy, e]) ?_
  refine thn (hi.run pins s σ H _ I h) fun xv s1 q1 => thn q1 fun itv s2 q2 => ?_
  obtain ⟨it, fp, tn, J, H2, e0, I2, T, st2, f2, q⟩ := q2
  subst e0
  refine wpAny_newObj_type (newEnv_comp ?_) (by show 0 ≤ sizeLine; decide)
  generalize hD : s2.heap.objs.size = D
  have nD : H2 D = none := I2.hok.fresh (Nat.le_of_eq hD)
  obtain ⟨Wn, ⟨m0, w0⟩, turn⟩ := q D nD
  generalize e3 : ({ s2 with heap := s2.heap.push { cls := .type "list", data := .seq ([] : List Value).toArray } } : Shared) = s3
  have p3 : s3.heap = s2.heap.push { cls := .type "list", data := .seq ([] : List Value).toArray } := by rw [← e3]
  have I3 : Inv X pins σ (upd H2 D (.lst [])) s3 := by
    rw [← e3]
    refine I2.laid (t' := s2.toks) (fun b o e => Heap.get?_push_of_some _ e) (Nat.le_of_eq hD) ⟨Nat.zero_le _, [], 0, .nil, ?_⟩
    exact hD ▸ Heap.get?_push_size _ rfl
  have lt2 : ∀ b ∈ fp, b < s2.heap.objs.size := fun b hb => let ⟨_, e, _⟩ := T.obj _ _ st2 b hb; Heap.lt_size e
  have f3 : ∀ b ∈ fp, FpOk X pins (upd H2 D (.lst [])) b ∧ b < s3.heap.objs.size := fun b hb =>
    ⟨⟨by rw [upd_ne (by rw [← hD]; exact Nat.ne_of_lt (lt2 b hb))]; exact (f2 b hb).1, (f2 b hb).2⟩, by rw [p3, Heap.size_push]; exact Nat.lt_succ_of_lt (lt2 b hb)⟩
  have st3 : tn 0 s3.heap := T.keep _ _ _ st2 fun b _ o e => by rw [p3]; exact Heap.get?_push_of_some _ e
  have I4 := block_start I3 ok hN f3
  show codeAny _ _ (.compStart (.ListComp elt [⟨tg, iter, ifs, 0⟩] scope pos) 0 (.ref it) (.ref D) (compEnvC scope (cellsFrom (s3.heap.objs.size + 1) scope.names (cloFrom X.env.cells scope.names [])) s3.heap.objs.size X.env))
    (blkEnd (model X.prog X.w) X.A X.xe use Qf (.ref D) (compEnvC scope (cellsFrom (s3.heap.objs.size + 1) scope.names (cloFrom X.env.cells scope.names [])) s3.heap.objs.size X.env)) { s3 with heap := pushCells (s3.heap.push { cls := .type "dict", data := .dict #[] }) scope.names }
  generalize hcl : cellsFrom (s3.heap.objs.size + 1) scope.names (cloFrom X.env.cells scope.names []) = cl at I4 ⊢
  have nfp : ∀ b ∈ fp, (upd H2 D (.lst [])) b = none := fun b hb => (f3 b hb).1.1
  generalize hH3 : upd H2 D (.lst []) = H3 at I3 I4 w0 nfp f3
  generalize hce : compEnvC scope cl s3.heap.objs.size X.env = ce at I4 ⊢
  have cL : ce.locals = s3.heap.objs.size := by subst hce; rfl
  have cF : ce.frame = X.env.frame := by subst hce; rfl
  generalize e4 : ({ s3 with heap := pushCells (s3.heap.push { cls := .type "dict", data := .dict #[] }) scope.names } : Shared) = s4 at I4 ⊢
  have st4 : tn 0 s4.heap := T.keep _ _ _ st3 fun b _ o e => by rw [← e4]; exact pushCells_keeps _ _ _ _ (Heap.get?_push_of_some _ e)
  -- where the block's errors go
  obtain ⟨xe, hxe⟩ : ∃ xe : Value → Shared → Prop, xe = notedBy (model X.prog X.w) X.A ce (fun x t => blkEnd (model X.prog X.w) X.A X.xe use Qf (.ref D) ce (.error x) t) := ⟨_, rfl⟩
  have hfp3 : ∀ b ∈ fp, (b ∈ X.ex ∨ X.s_0.heap.objs.size ≤ b) ∧ b ≠ X.env.locals ∧ (∀ x c, X.env.cells.lookup x = some c → c ≠ b) ∧ ∀ p ∈ X.pn ++ pins, p.1 ≠ b := fun b hb =>
    ⟨(f3 b hb).1.2.2.2.1, (f3 b hb).1.2.1, (f3 b hb).1.2.2.2.2.1, (f3 b hb).1.2.2.2.2.2⟩
  have tk2 : Takes (X.blkX s3 H3 scope ce fp xe) (fun cls d _ H' => W cls d σ H') := fun u t x => by
    show xe u t
    rw [hxe]
    have z := XE.unblock (E₂ := fun x t => blkEnd (model X.prog X.w) X.A X.xe use Qf (.ref D) ce (.error x) t) (W := W) hs hf tk I3 cF cL hfp3 (fun _ _ _ _ q => q) x
    refine wpAny_mono z (fun _ t2 q => ?_) fun _ _ q => q
    cases use <;> exact q
  have pg := hg s3 H3 s3.heap.objs.size cl fp xe
  have pt := ht s3 H3 s3.heap.objs.size cl fp xe
  have pe := he s3 H3 s3.heap.objs.size cl fp xe (fun cls d _ H' => W cls d σ H') (by rw [hce]; exact tk2)
  rw [hce] at pg pt pe
  have I4x : Inv (X.blkX s3 H3 scope ce fp xe) [] (wipe σ (own.map (·.2))) H3 s4 := I4.withX
  have stat : ∀ {σ' : St} {H' : Hp} {s' : Shared}, Inv (X.blkX s3 H3 scope ce fp xe) [] σ' H' s' → (∀ b ∈ fp, H' b = none) → ∀ b ∈ fp, FpOk (X.blkX s3 H3 scope ce fp xe) [] H' b := fun {σ' H' s'} J' hn b hb =>
    ⟨hn b hb, (J'.ok.exf b hb).1, J'.ok.exfs b hb, .inl hb, fun x c e => (J'.ok.exf b hb).2 x c e, fun p hp => absurd (show p ∈ ([] : List (Addr × Obj)) ++ [] from hp) (by simp)⟩
  have loop : codeAny (model X.prog X.w) X.A (.compLoop (.ListComp elt [⟨tg, iter, ifs, 0⟩] scope pos) 0 (.ref it) (.ref D) ce) (blkEnd (model X.prog X.w) X.A X.xe use Qf (.ref D) ce) s4 := by
    refine compLoop_any (fun n s' => ∃ i H', Inv (X.blkX s3 H3 scope ce fp xe) [] (wipe σ (own.map (·.2))) H' s' ∧ tn i s'.heap ∧ (∀ b ∈ fp, H' b = none) ∧ Wn i n H') ?_ m0 ⟨0, H3, I4x, st4, nfp, w0⟩
    rintro n s5 ⟨i, H5, I5, st5, n5, w5⟩
    rcases turn i n H5 w5 with ⟨stop, qq⟩ | ⟨go, Nx, hNx, step⟩
    · refine thnF (T.done (X.blkX s3 H3 scope ce fp xe) rfl rfl rfl hc i [] s5 _ H5 (fun _ _ => False) I5 (stat I5 n5) st5 stop) fun r s6 ⟨er, I6⟩ => ?_
      subst er
      have nC : H5 ce.locals = none := I6.free
      obtain ⟨m, hn, _⟩ := I6.loc
      exact hR D ce.locals s6 m H5 (I3.call' I6.os I6.base I6.hok I6.bare hfp3) qq hn (I3.fpOk (Nat.le_of_eq cL.symm) nC) ce rfl
    · refine thnF (T.item (X.blkX s3 H3 scope ce fp xe) rfl rfl rfl hc i [] s5 _ H5 (fun _ _ => False) I5 (stat I5 n5) st5 go) fun r s6 ⟨u, er, q6⟩ => ?_
      subst er
      refine thnF q6 fun _ s7 ⟨x, H7, I7, r7, y7, st7, n7⟩ => ?_
      have P7 := I7.pinned (stat I7 n7) (T.obj _ _ st7)
      have xeq : ∀ u t, xe u t → notedBy (model X.prog X.w) X.A ce (fun x t => blkEnd (model X.prog X.w) X.A X.xe use Qf (.ref D) ce (.error x) t) u t := fun u t z => by rw [← hxe]; exact z
      refine wpAny_mono (pg.run _ s7 _ H7 x u _ P7 r7 (step x H7 y7)) (fun _ s8 ⟨σ8, H8, I8, hw8, q8⟩ => ?_) xeq
      refine wpAny_mono (pt.run _ s8 σ8 H8 _ I8 q8) (fun b s9 ⟨H9, I9, q9⟩ => ?_) xeq
      have fin : ∀ {t : Shared} {H' : Hp}, Inv (X.blkX s3 H3 scope ce fp xe) ([] ++ pinsAt fp s7.heap) σ8 H' t → Nx H' → ∃ m, m < n ∧ ∃ i H', Inv (X.blkX s3 H3 scope ce fp xe) [] (wipe σ (own.map (·.2))) H' t ∧ tn i t.heap ∧ (∀ b ∈ fp, H' b = none) ∧ Wn i m H' := fun {t H'} J' nx => by
        obtain ⟨m', hm, w'⟩ := hNx H' nx
        have pin' : ∀ b ∈ fp, ∀ o, s7.heap.get? b = some o → t.heap.get? b = some o ∧ H' b = none := fun b hb o e =>
          let z := J'.pin (b, o) (List.mem_append_right _ (List.mem_append_right _ (mem_pinsAt hb e)))
          ⟨z.1, z.2.1⟩
        refine ⟨m', hm, i + 1, H', (J'.unpinned (pins := [])).weak (by rw [← hw8, wipe_length]) (fun j v e => ?_), T.keep _ _ _ st7 fun b hb o e => (pin' b hb o e).1, fun b hb => ?_, w'⟩
        · rw [← hw8] at e
          exact (wipe_some e).1
        · obtain ⟨o, e, _⟩ := T.obj _ _ st7 b hb
          exact (pin' b hb o e).2
      cases b with
      | false =>
        simp only [Bool.false_eq_true, if_false] at q9 ⊢
        exact fin I9 q9
      | true =>
        simp only [if_true] at q9 ⊢
        refine wpAny_mono (pe.run _ s9 σ8 H9 _ I9 q9) (fun z s10 ⟨yv, H10, I10, r10, acc, hD10, hz10, nx⟩ => ?_) xeq
        exact app_ok (X := X.blkX s3 H3 scope ce fp xe) I10 hD10 hz10 r10 fun s11 I11 => fin I11 nx
  exact codeAny_compStart_list loop (T.self X.A 0 _ _ _ st4 loop)
/-- [f(x) for x in xs], f may let an error out: as a value -/
theorem pe_lcH {elt tg iter : Expr} {ifs : List Expr} {scope : Scope} {own : List (Str × Nat)} {pos : Pos} {wi : TI} {g : TG} {tt : TT} {te : WX → TE} {W : WX}
    (hs : X.stack = X.env :: X.outer) (hf : X.env.frame = some X.env.locals) (tk : Takes X W) (hc : X.calm = true) (hN : X.N.Nodup) (hi : PI X tg iter wi) (ok : BlkOk X.N X.env.scope scope own)
    (hg : ∀ s H C cl fp xe, PG (X.blkX s H scope (compEnvC scope cl C X.env) fp xe) tg g) (ht : ∀ s H C cl fp xe, PTs (X.blkX s H scope (compEnvC scope cl C X.env) fp xe) ifs tt)
    (he : ∀ s H C cl fp xe W2, Takes (X.blkX s H scope (compEnvC scope cl C X.env) fp xe) W2 → PE (X.blkX s H scope (compEnvC scope cl C X.env) fp xe) elt (te W2)) (hfi : ∀ x, foldedSetIterable iter X.env x = pure x := by intro _; rfl) :
    PE X (.ListComp elt [⟨tg, iter, ifs, 0⟩] scope pos) (tLcH wi g tt te W (own.map (·.2))) := by
  refine ⟨fun pins s σ H Q I h => ?_⟩
  rw [eval_ListComp]
  refine lc_hot hs hf tk hc hN I hi ok hg ht he hfi h fun D C s' m H' J q hn f ce eC => ⟨m, by rw [eC]; exact hn, fun h2 sb => ?_⟩
  rw [eC] at sb
  exact ⟨.ref D, H', J.turned (t' := s'.toks) (fun b o hb e => (sb.2 b hb).trans e) f.1 f.2.1 f.2.2.2.1 f.2.2.2.2.1 f.2.2.2.2.2, rfl, q⟩
end
end L2

set_option maxRecDepth 100001
set_option maxHeartbeats 1000001
namespace DL
open PySem PySem.Spec PyProof.Rows L2
/-! ### a new list whose element may raise -/
def compHD (vs : List Nat) (h : D → DEnv → R DEnv) (el : DEnv → R D) (δ : DEnv) : List D → R (List D)
  | [] => .ok []
  | d :: ds => (h d (wipeD δ vs)).ne.bind fun δ1 => (el δ1).bind fun y => (compHD vs h el δ ds).bind fun r => .ok (y :: r)
def lcHD (vs : List Nat) (f : DEnv → R (List D)) (h : D → DEnv → R DEnv) (el : DEnv → R D) : DEnv → R D := fun δ => (f δ).bind fun items => if items.length ≤ sizeLine then (compHD vs h el δ items).bind fun r => .ok (.lst r) else .stk
theorem compHD_cons (vs : List Nat) (h : D → DEnv → R DEnv) (el : DEnv → R D) (δ : DEnv) (d : D) (ds : List D) : compHD vs h el δ (d :: ds) = (h d (wipeD δ vs)).ne.bind fun δ1 => (el δ1).bind fun y => (compHD vs h el δ ds).bind fun r => .ok (y :: r) := rfl
theorem compHD_step {vs : List Nat} {h : D → DEnv → R DEnv} {el : DEnv → R D} {δ : DEnv} {d : D} {ds : List D} (q : compHD vs h el δ (d :: ds) ≠ .stk) :
    ∃ δ1, h d (wipeD δ vs) = .ok δ1 ∧ ((∃ y, el δ1 = .ok y ∧ compHD vs h el δ (d :: ds) = (compHD vs h el δ ds).bind fun r => .ok (y :: r)) ∨ ∃ x, el δ1 = .err x ∧ compHD vs h el δ (d :: ds) = .err x) := by
  rw [compHD_cons] at q ⊢
  cases e1 : h d (wipeD δ vs) with
  | ok δ1 =>
    rw [e1] at q
    simp only [R.ne_ok, R.bind_ok] at q ⊢
    refine ⟨δ1, rfl, ?_⟩
    cases e2 : el δ1 with
    | ok y => exact .inl ⟨y, rfl, rfl⟩
    | err x => exact .inr ⟨x, rfl, rfl⟩
    | stk => rw [e2] at q; exact absurd rfl q
  | err _ => rw [e1] at q; exact absurd rfl q
  | stk => rw [e1] at q; exact absurd rfl q
section
variable {G : Cfg} {S : Sco} {k : Nat} {X : Cx} {W : WX} {own lk lk2 : List Nat} {pos : Pos} {elt tg iter : Expr} {scope : Scope} {bo : List (PySem.Str × Nat)} {wi : TI} {g : TG} {te : WX → TE} {f : DEnv → R (List D)} {h : D → DEnv → R DEnv} {el : DEnv → R D} {ts : List Nat}
theorem SF.lcH (hxi : ∀ σ, G.xi σ) (hi : SI G W own lk wi f) (hg : SG G (minus own lk) ts g h) (he : ∀ W2, SE G W2 (minus own lk) lk2 (te W2) el) (hts : ∀ i ∈ ts, i ∈ bo.map (·.2)) (hvs : ∀ i ∈ bo.map (·.2), i ∉ minus own lk) :
    SF G W own (lk ++ lk2) (tLcH wi g tYes te W (bo.map (·.2))) (lcHD (bo.map (·.2)) f h el) := by
  intro Z₀ α δ σ H Q E hX q qe ns
  unfold lcHD at q qe ns
  unfold tLcH
  refine hi Z₀ α δ σ H _ E hX (fun ds J H1 Gd Y hf e1 wk hG hY => ?_) (fun x H1 hf e1 => ?_) (R.notstk_bind ns)
  · rw [hf] at q qe ns
    simp only [R.bind_ok] at q qe ns
    by_cases hz : ds.length ≤ sizeLine
    · rw [if_pos hz] at q qe ns
      have nst : compHD (bo.map (·.2)) h el δ ds ≠ .stk := R.notstk_bind ns
      intro Dd hD
      have E1 := (E.ext e1).weak (own' := minus own lk) minus_sub
      have zr : ∀ i, i ∈ minus own (lk ++ lk2) → i ∈ minus (minus own lk) lk2 := fun i hi => mem_minus.mpr ⟨minus_l hi, fun z => (mem_minus.mp (minus_r hi)).2 z⟩
      refine lc_it wk (fun i H2 => ∃ (acc : List D) (av : List V), acc.length = i ∧ compHD (bo.map (·.2)) h el δ ds = (compHD (bo.map (·.2)) h el δ (ds.drop i)).bind (fun r => .ok (acc ++ r)) ∧ H2 Dd = some (.lst av) ∧
          RepL G.K H2 (fun b => ZZ Z₀ α (minus own (lk ++ lk2)) b ∨ b = Dd) acc av ∧ Ext H1 H2)
        ⟨[], [], rfl, ?_, upd_same, rfl, ext_upd hD⟩ (fun i H2 hi p => ?_) (fun i x H2 H3 hi p y => ?_) (fun H2 p => ?_)
      · show _ = (compHD (bo.map (·.2)) h el δ ds).bind _
        cases compHD (bo.map (·.2)) h el δ ds <;> rfl
      · obtain ⟨acc, av, _, _, _, _, ex⟩ := p
        exact hG H2 (.of ex)
      · obtain ⟨acc, av, el0, er, hDd, ra, ex⟩ := p
        have hd : ds[i]? = some ds[i] := List.getElem?_eq_getElem hi
        have z2 : ZOk H2 (ZZ Z₀ α (minus own lk)) := E1.zok.ext ex
        have zg : ZOk H2 (ZZ (fun b => Z₀ b ∨ b = Dd) α (minus own lk)) := (E1.guard1 hD ex ⟨_, hDd, True.intro⟩).zok
        obtain ⟨e3, rx'⟩ := hY (ZZ (fun b => Z₀ b ∨ b = Dd) α (minus own lk)) i _ x H2 H3 hd (fun a q => by
          rcases q with (q | rfl) | q
          · exact .inl (.inl q)
          · exact .inr hD
          · exact .inl (.inr q)) (.of ex) zg y
        rw [List.drop_eq_getElem_cons hi] at er
        have nst2 : compHD (bo.map (·.2)) h el δ (ds[i] :: ds.drop (i + 1)) ≠ .stk := fun z => nst (by rw [er, z]; rfl)
        obtain ⟨δ1, h1, hb⟩ := compHD_step nst2
        have e13 := ex.trans e3
        have hm3 : ∃ o, H3 Dd = some o ∧ Mut (some o) := ⟨_, e3 _ _ hDd, True.intro⟩
        have E3 := (E1.guard1 hD e13 hm3).wipe (bo.map (·.2)) hvs
        refine hg _ α _ _ H3 x _ _ E3 rx' (fun δ' σ' hh E4 w4 => ?_) ⟨δ1, h1⟩
        rw [h1] at hh; cases hh
        refine ⟨(w4 _ hts).trans (wipe_idem _ _), ?_⟩
        show tYes σ' H3 _
        unfold tYes
        dsimp only
        rw [if_pos rfl]
        refine he _ _ α _ _ H3 _ E4 (hxi _) (fun y' v H5 hy' e5 r5 => ?_) (fun x H5 hx e5 => ?_) (fun z => ?_)
        · rcases hb with ⟨yd, hy, hr⟩ | ⟨x, hx, _⟩
          · rw [hy] at hy'; cases hy'
            have hD5 : H5 Dd = some (.lst av) := e5 _ _ (e3 _ _ hDd)
            have zd2 : ZOk H2 (fun b => ZZ Z₀ α (minus own (lk ++ lk2)) b ∨ b = Dd) := fun b hb => by
              rcases hb with hb | rfl
              · exact z2 b (ZZ.mono (fun i hi => minus_l hi) b hb)
              · exact ⟨_, hDd, True.intro⟩
            have zd5 : ZOk H5 (fun b => ZZ Z₀ α (minus own (lk ++ lk2)) b ∨ b = Dd) := zd2.ext (e3.trans e5)
            have kp : Keeps (fun b => ZZ Z₀ α (minus own (lk ++ lk2)) b ∨ b = Dd) H5 (upd H5 Dd (.lst (av ++ [v]))) := fun b o n hb => by
              rw [upd_ne (fun z => n (.inr z))]
              exact hb
            refine ⟨av, hD5, by rw [ra.len]; omega, acc ++ [y'], av ++ [v], by simp [el0], ?_, upd_same, ?_, ?_⟩
            · rw [er, hr]
              cases compHD (bo.map (·.2)) h el δ (ds.drop (i + 1)) <;> simp
            · refine RepL.app (RepL.mono zd5.nofrz kp (fun _ q => q) _ _ (ra.ext zd2 (e3.trans e5))) ⟨v, [], rfl, ?_, rfl⟩
              refine Rep.mono zd5.nofrz kp (fun _ q => q) _ _ (r5.less ((E4.ext e5).zsub minus_sub) fun b hb => ZZ.guard1 b ?_)
              rcases hb with hb | hb
              · exact .inl (ZZ.mono zr b hb)
              · exact .inr hb
            · intro b o hb
              have : b ≠ Dd := fun z => by rw [z, hD] at hb; cases hb
              rw [upd_ne this]
              exact e5 _ _ (e13 _ _ hb)
          · rw [hx] at hy'; cases hy'
        · rcases hb with ⟨y, hy, _⟩ | ⟨x', hx', hr⟩
          · rw [hy] at hx; cases hx
          · rw [hx'] at hx; cases hx
            refine qe x H5 ?_ ((e1.trans e13).trans e5)
            rw [er, hr]
            rfl
        · rcases hb with ⟨y, hy, _⟩ | ⟨x', hx', _⟩
          · rw [hy] at z; cases z
          · rw [hx'] at z; cases z
      · obtain ⟨acc, av, el0, er, hDd, ra, ex⟩ := p
        rw [List.drop_length] at er
        have er : compHD (bo.map (·.2)) h el δ ds = .ok acc := by rw [er]; simp [compHD]
        exact q _ _ _ H2 (by rw [er]; rfl) (e1.trans ex) (New.lst (e1.free hD) hDd (RepL.map (.of .refl fun b hb => hb.imp id fun h => List.mem_singleton.mp h) _ _ ra))
    · rw [if_neg hz] at ns; exact absurd rfl ns
  · rw [hf] at qe
    exact qe x H1 rfl e1
theorem Fit.blkX (F : Fit G S k X) (s : Shared) (H : Hp) (scope : Scope) (C : Addr) (cl : List (PySem.Str × Addr)) (fp : List Addr) (xe : Value → Shared → Prop) : Fit G (S.blk scope) k (X.blkX s H scope (compEnvC scope cl C X.env) fp xe) :=
  let z := F.blk s H scope C cl fp
  ⟨z.prog, z.w, z.K, z.mg, z.base, z.N, z.sc, z.fn, z.room', z.calm', z.xi', fun h => nomatch h⟩
theorem d_lcH {bo : List (PySem.Str × Nat)} (F : Fit G S k X) (tk : Takes X W) (hN : S.N.Nodup) (ok : blkC S.N S.sc scope bo = true) (hi : DI G X W own lk tg iter wi f) (hg : ∀ X', Fit G (S.blk scope) k X' → DG G X' (minus own lk) ts tg g h)
    (he : ∀ X' W2, Fit G (S.blk scope) k X' → Takes X' W2 → DE G X' W2 (minus own lk) lk2 elt (te W2) el) (hts : sub ts (bo.map (·.2)) = true) (hvs : (bo.map (·.2)).all (fun i => !((minus own lk).contains i)) = true)
    (hs : ∀ x, foldedSetIterable iter X.env x = pure x := by intro _; rfl) (hh : S.hot = false := by rfl) (htp : S.top = true := by rfl) :
    DF G X W own (lk ++ lk2) (.ListComp elt [⟨tg, iter, [], 0⟩] scope pos) (tLcH wi g tYes te W (bo.map (·.2))) (lcHD (bo.map (·.2)) f h el) := by
  have hvs' : ∀ i ∈ bo.map (·.2), i ∉ minus own lk := fun i hi q => by
    have := List.all_eq_true.mp hvs i hi
    simp [q] at this
  obtain ⟨t1, t2⟩ := F.tp' htp
  refine ⟨pe_lcH t1 t2 tk (F.calm hh) (by rw [F.N]; exact hN) hi.1 (by rw [F.N, F.sc]; exact blkOk_by ok) (fun s H C cl fp xe => (hg _ (F.blkX s H scope C cl fp xe)).1) (fun s H C cl fp xe => pts_nil) (fun s H C cl fp xe W2 tk2 => (he _ W2 (F.blkX s H scope C cl fp xe) tk2).1) hs, ?_⟩
  refine SF.lcH (F.xi hh) hi.2 (hg _ (F.blk X.s_0 X.H_0 scope 0 [] [])).2 (fun W2 => ?_) (sub_mem hts) hvs'
  exact (he _ W2 (F.blkX X.s_0 X.H_0 scope 0 [] [] (fun _ _ => True)) (fun _ _ _ => True.intro)).2
end
end DL

set_option maxRecDepth 100001
set_option maxHeartbeats 1000001
namespace DL
open PySem PySem.Spec PyProof.Rows L2

/-! ### to evaluate: each word, on the values of its parts -/
def Fl.sq : Fl → (DEnv → Fl) → Fl
  | .nx δ, h => h δ
  | .rt d, _ => .rt d
  | .bk δ, _ => .bk δ
  | .ct δ, _ => .ct δ
  | .ex x δ, _ => .ex x δ
  | .stk, _ => .stk
@[simp] theorem e_seq (g h : DEnv → Fl) (δ : DEnv) : seqF g h δ = (g δ).sq h := by unfold seqF; cases g δ <;> rfl
@[simp] theorem e_nx (δ : DEnv) : nxD δ = .nx δ := rfl
@[simp] theorem sq_nx (δ : DEnv) (h : DEnv → Fl) : (Fl.nx δ).sq h = h δ := rfl
@[simp] theorem sq_rt (d : D) (h : DEnv → Fl) : (Fl.rt d).sq h = .rt d := rfl
@[simp] theorem sq_ex (x : Exn) (δ : DEnv) (h : DEnv → Fl) : (Fl.ex x δ).sq h = .ex x δ := rfl
@[simp] theorem sq_ct (δ : DEnv) (h : DEnv → Fl) : (Fl.ct δ).sq h = .ct δ := rfl
@[simp] theorem sq_bk (δ : DEnv) (h : DEnv → Fl) : (Fl.bk δ).sq h = .bk δ := rfl
def R.ite : R Bool → (DEnv → Fl) → (DEnv → Fl) → DEnv → Fl
  | .ok b, g, h, δ => if b = true then g δ else h δ
  | .err x, _, _, δ => .ex x δ
  | .stk, _, _, _ => .stk
@[simp] theorem e_if (c : DEnv → R Bool) (g h : DEnv → Fl) (δ : DEnv) : ifF c g h δ = (c δ).ite g h δ := by unfold ifF; cases c δ <;> rfl
@[simp] theorem ite_t (g h : DEnv → Fl) (δ : DEnv) : R.ite (.ok true) g h δ = g δ := rfl
@[simp] theorem ite_f (g h : DEnv → Fl) (δ : DEnv) : R.ite (.ok false) g h δ = h δ := rfl
theorem ite_b (b : Bool) (g h : DEnv → Fl) (δ : DEnv) : R.ite (.ok b) g h δ = if b = true then g δ else h δ := rfl
def R.wi : R D → (D → DEnv → Fl) → DEnv → Fl
  | .ok d, h, δ => h d δ
  | .err x, _, δ => .ex x δ
  | .stk, _, _ => .stk
theorem e_with (f : DEnv → R D) (h : D → DEnv → Fl) (δ : DEnv) : withF f h δ = (f δ).wi h δ := by unfold withF; cases f δ <;> rfl
def stK (i : Nat) : D → DEnv → Fl := fun d δ => if i < δ.length then .nx (δ.set i (some d)) else .stk
def rtK : D → DEnv → Fl := fun d _ => .rt d
def drK : D → DEnv → Fl := fun _ δ => .nx δ
def apK (i : Nat) : D → DEnv → Fl := fun d δ => match δ[i]? with
  | some (some (.lst ds)) => if ds.length < sizeLine then .nx (δ.set i (some (.lst (ds ++ [d])))) else .stk
  | _ => .stk
@[simp] theorem e_set (i : Nat) (f : DEnv → R D) (δ : DEnv) : setF i f δ = (f δ).wi (stK i) δ := e_with _ _ _
@[simp] theorem e_ret (f : DEnv → R D) (δ : DEnv) : retF f δ = (f δ).wi rtK δ := e_with _ _ _
@[simp] theorem e_retN (δ : DEnv) : retNF δ = .rt .non := rfl
@[simp] theorem e_drop (f : DEnv → R D) (δ : DEnv) : dropF f δ = (f δ).wi drK δ := e_with _ _ _
@[simp] theorem e_aug (i : Nat) (h : D → D → R D) (f : DEnv → R D) (δ : DEnv) : augF i h f δ = (b2 h (nmD i) f δ).wi (stK i) δ := e_with _ _ _
def apG (i : Nat) (f : DEnv → R D) (δ : DEnv) : Option (Option D) → Fl
  | some (some (.lst _)) => (f δ).wi (apK i) δ
  | _ => .stk
@[simp] theorem apG_lst (i : Nat) (f : DEnv → R D) (δ : DEnv) (ds : List D) : apG i f δ (some (some (.lst ds))) = (f δ).wi (apK i) δ := rfl
@[simp] theorem e_app (i : Nat) (f : DEnv → R D) (δ : DEnv) : appF i f δ = apG i f δ δ[i]? := by
  unfold appF apG
  cases h : δ[i]? with
  | none => rfl
  | some o =>
    cases o with
    | none => rfl
    | some d =>
      cases d with
      | lst ds =>
        show withF f _ δ = _
        unfold withF
        cases f δ with
        | ok d => show _ = apK i d δ; unfold apK; rw [h]
        | err x => rfl
        | stk => rfl
      | _ => rfl
@[simp] theorem wi_ok (d : D) (h : D → DEnv → Fl) (δ : DEnv) : R.wi (.ok d) h δ = h d δ := rfl
@[simp] theorem wi_err (x : Exn) (h : D → DEnv → Fl) (δ : DEnv) : R.wi (.err x) h δ = .ex x δ := rfl
@[simp] theorem e_stK (i : Nat) (d : D) (δ : DEnv) : stK i d δ = if i < δ.length then .nx (δ.set i (some d)) else .stk := rfl
@[simp] theorem e_rtK (d : D) (δ : DEnv) : rtK d δ = .rt d := rfl
@[simp] theorem e_drK (d : D) (δ : DEnv) : drK d δ = .nx δ := rfl
def apK2 (i : Nat) (d : D) (δ : DEnv) : Option (Option D) → Fl
  | some (some (.lst ds)) => if ds.length < sizeLine then .nx (δ.set i (some (.lst (ds ++ [d])))) else .stk
  | _ => .stk
@[simp] theorem e_apK (i : Nat) (d : D) (δ : DEnv) : apK i d δ = apK2 i d δ δ[i]? := rfl
theorem apK2_ok (i : Nat) (d : D) (δ : DEnv) {ds : List D} (hl : ds.length < sizeLine) : apK2 i d δ (some (some (.lst ds))) = .nx (δ.set i (some (.lst (ds ++ [d])))) := by unfold apK2; simp only; rw [if_pos hl]
def R.pr (i j : Nat) : R (List D) → DEnv → Fl
  | .ok [d, e], δ => if i < δ.length ∧ j < δ.length then .nx ((δ.set i (some d)).set j (some e)) else .stk
  | .ok _, _ => .stk
  | .err x, δ => .ex x δ
  | .stk, _ => .stk
@[simp] theorem e_par (i j : Nat) (fs : DEnv → R (List D)) (δ : DEnv) : parF i j fs δ = (fs δ).pr i j δ := by
  unfold parF
  rcases fs δ with ds | x | _
  · rcases ds with _ | ⟨d, _ | ⟨e, _ | ⟨_, _⟩⟩⟩ <;> rfl
  · rfl
  · rfl
@[simp] theorem pr_ok (i j : Nat) (d e : D) (δ : DEnv) : R.pr i j (.ok [d, e]) δ = if i < δ.length ∧ j < δ.length then .nx ((δ.set i (some d)).set j (some e)) else .stk := rfl
def R.nxt : R DEnv → Fl
  | .ok δ => .nx δ
  | _ => .stk
def R.ag (h : D → DEnv → R DEnv) : R D → DEnv → Fl
  | .ok d, δ => (h d δ).nxt
  | .err x, δ => .ex x δ
  | .stk, _ => .stk
@[simp] theorem e_asg (f : DEnv → R D) (h : D → DEnv → R DEnv) (δ : DEnv) : asgF f h δ = (f δ).ag h δ := by
  unfold asgF
  cases f δ with
  | ok d =>
    show _ = (h d δ).nxt
    cases hh : h d δ <;> simp [hh, R.nxt]
  | err x => rfl
  | stk => rfl
@[simp] theorem ag_ok (h : D → DEnv → R DEnv) (d : D) (δ : DEnv) : R.ag h (.ok d) δ = (h d δ).nxt := rfl
@[simp] theorem nxt_ok (δ : DEnv) : R.nxt (.ok δ) = .nx δ := rfl
def R.fr (h : D → DEnv → R DEnv) (b : DEnv → Fl) : R (List D) → DEnv → Fl
  | .ok ds, δ => forD h b ds δ
  | .err x, δ => .ex x δ
  | .stk, _ => .stk
@[simp] theorem e_for (f : DEnv → R (List D)) (h : D → DEnv → R DEnv) (b : DEnv → Fl) (δ : DEnv) : forF f h b δ = (f δ).fr h b δ := by unfold forF; cases f δ <;> rfl
@[simp] theorem fr_ok (h : D → DEnv → R DEnv) (b : DEnv → Fl) (ds : List D) (δ : DEnv) : R.fr h b (.ok ds) δ = forD h b ds δ := rfl
/-! expressions -/
def nmK : Option (Option D) → R D
  | some (some d) => .ok d
  | _ => .stk
@[simp] theorem e_nm (i : Nat) (δ : DEnv) : nmD i δ = nmK δ[i]? := rfl
@[simp] theorem e_nmK (d : D) : nmK (some (some d)) = .ok d := rfl
@[simp] theorem e_c (d : D) (δ : DEnv) : cD d δ = .ok d := rfl
def R.b2 (h : D → D → R D) : R D → R D → R D
  | .ok d, .ok e => h d e
  | .ok _, .err x => .err x
  | .ok _, .stk => .stk
  | .err x, _ => .err x
  | .stk, _ => .stk
@[simp] theorem e_b2 (h : D → D → R D) (f g : DEnv → R D) (δ : DEnv) : DL.b2 h f g δ = R.b2 h (f δ) (g δ) := by unfold DL.b2; cases f δ <;> simp [R.b2] <;> cases g δ <;> rfl
@[simp] theorem b2_ok (h : D → D → R D) (d e : D) : R.b2 h (.ok d) (.ok e) = h d e := rfl
@[simp] theorem b2_err1 (h : D → D → R D) (x : Exn) (r : R D) : R.b2 h (.err x) r = .err x := rfl
@[simp] theorem b2_err2 (h : D → D → R D) (d : D) (x : Exn) : R.b2 h (.ok d) (.err x) = .err x := rfl
@[simp] theorem e_u1 (h : D → R D) (f : DEnv → R D) (δ : DEnv) : u1 h f δ = (f δ).bind h := rfl
@[simp] theorem e_call (h : List D → R D) (g : DEnv → R (List D)) (δ : DEnv) : callF h g δ = (g δ).bind h := rfl
@[simp] theorem e_nil (δ : DEnv) : nilA δ = .ok [] := rfl
def R.cons : R D → R (List D) → R (List D)
  | .ok d, .ok ds => .ok (d :: ds)
  | .ok _, .err x => .err x
  | .ok _, .stk => .stk
  | .err x, _ => .err x
  | .stk, _ => .stk
@[simp] theorem e_cons (f : DEnv → R D) (g : DEnv → R (List D)) (δ : DEnv) : consA f g δ = R.cons (f δ) (g δ) := by unfold consA; cases f δ <;> simp [R.cons] <;> cases g δ <;> rfl
@[simp] theorem cons_ok (d : D) (ds : List D) : R.cons (.ok d) (.ok ds) = .ok (d :: ds) := rfl
@[simp] theorem cons_err1 (x : Exn) (ds : R (List D)) : R.cons (.err x) ds = .err x := rfl
@[simp] theorem cons_err2 (d : D) (x : Exn) : R.cons (.ok d) (.err x) = .err x := rfl
def tupK (ds : List D) : R D := if ds.length ≤ sizeLine then .ok (.tup ds) else .stk
def lstK (ds : List D) : R D := if ds.length ≤ sizeLine then .ok (.lst ds) else .stk
@[simp] theorem e_tup (g : DEnv → R (List D)) (δ : DEnv) : tupA g δ = (g δ).bind tupK := rfl
@[simp] theorem e_lst (g : DEnv → R (List D)) (δ : DEnv) : lstA g δ = (g δ).bind lstK := rfl
theorem tupK_ok {ds : List D} (h : ds.length ≤ 16777216) : tupK ds = .ok (.tup ds) := by unfold tupK; rw [if_pos (by rw [sizeLine_eq]; exact h)]
theorem lstK_ok {ds : List D} (h : ds.length ≤ 16777216) : lstK ds = .ok (.lst ds) := by unfold lstK; rw [if_pos (by rw [sizeLine_eq]; exact h)]
@[simp] theorem tupK0 : tupK [] = .ok (.tup []) := tupK_ok (by simp)
@[simp] theorem tupK1 (a : D) : tupK [a] = .ok (.tup [a]) := tupK_ok (by simp)
@[simp] theorem tupK2 (a b : D) : tupK [a, b] = .ok (.tup [a, b]) := tupK_ok (by simp)
@[simp] theorem tupK3 (a b c : D) : tupK [a, b, c] = .ok (.tup [a, b, c]) := tupK_ok (by simp)
@[simp] theorem tupK4 (a b c d : D) : tupK [a, b, c, d] = .ok (.tup [a, b, c, d]) := tupK_ok (by simp)
@[simp] theorem tupK6 (a b c d e f : D) : tupK [a, b, c, d, e, f] = .ok (.tup [a, b, c, d, e, f]) := tupK_ok (by simp)
@[simp] theorem lstK0 : lstK [] = .ok (.lst []) := lstK_ok (by simp)
@[simp] theorem lstK1 (a : D) : lstK [a] = .ok (.lst [a]) := lstK_ok (by simp)
@[simp] theorem lstK2 (a b : D) : lstK [a, b] = .ok (.lst [a, b]) := lstK_ok (by simp)
def boK : D → R Bool
  | .bl b => .ok b
  | _ => .stk
@[simp] theorem e_toB (f : DEnv → R D) (δ : DEnv) : toB f δ = (f δ).bind boK := by unfold toB; rcases f δ with (_|_|_|_|_|_|_) | _ | _ <;> rfl
@[simp] theorem e_boK (b : Bool) : boK (.bl b) = .ok b := rfl
@[simp] theorem e_toT (f : DEnv → R D) (δ : DEnv) : toT f δ = (f δ).bind truD := rfl
@[simp] theorem e_truB (b : Bool) : truD (.bl b) = .ok b := rfl
@[simp] theorem e_truI (i : Int) : truD (.int i) = .ok (i != 0) := rfl
@[simp] theorem e_truN : truD .non = .ok false := rfl
@[simp] theorem e_truL (ds : List D) : truD (.lst ds) = .ok (!ds.isEmpty) := rfl
@[simp] theorem e_truT (ds : List D) : truD (.tup ds) = .ok (!ds.isEmpty) := rfl
def R.an : R Bool → (DEnv → R Bool) → DEnv → R Bool
  | .ok b, g, δ => if b = true then g δ else .ok false
  | .err x, _, _ => .err x
  | .stk, _, _ => .stk
def R.orr : R Bool → (DEnv → R Bool) → DEnv → R Bool
  | .ok b, g, δ => if b = true then .ok true else g δ
  | .err x, _, _ => .err x
  | .stk, _, _ => .stk
@[simp] theorem e_andB (f g : DEnv → R Bool) (δ : DEnv) : andB f g δ = (f δ).an g δ := by unfold andB; cases f δ <;> rfl
@[simp] theorem e_orB (f g : DEnv → R Bool) (δ : DEnv) : orB f g δ = (f δ).orr g δ := by unfold orB; cases f δ <;> rfl
@[simp] theorem an_t (g : DEnv → R Bool) (δ : DEnv) : R.an (.ok true) g δ = g δ := rfl
@[simp] theorem an_f (g : DEnv → R Bool) (δ : DEnv) : R.an (.ok false) g δ = .ok false := rfl
@[simp] theorem orr_t (g : DEnv → R Bool) (δ : DEnv) : R.orr (.ok true) g δ = .ok true := rfl
@[simp] theorem orr_f (g : DEnv → R Bool) (δ : DEnv) : R.orr (.ok false) g δ = g δ := rfl
theorem an_b (b : Bool) (g : DEnv → R Bool) (δ : DEnv) : R.an (.ok b) g δ = if b = true then g δ else .ok false := rfl
theorem orr_b (b : Bool) (g : DEnv → R Bool) (δ : DEnv) : R.orr (.ok b) g δ = if b = true then .ok true else g δ := rfl
def R.nt : R Bool → R Bool
  | .ok b => .ok (!b)
  | .err x => .err x
  | .stk => .stk
@[simp] theorem e_notB (f : DEnv → R Bool) (δ : DEnv) : notB f δ = (f δ).nt := by unfold notB; cases f δ <;> rfl
@[simp] theorem nt_ok (b : Bool) : R.nt (.ok b) = .ok (!b) := rfl
def R.anV : R D → (DEnv → R D) → DEnv → R D
  | .ok (.bl true), g, δ => g δ
  | .ok (.bl false), _, _ => .ok (.bl false)
  | .err x, _, _ => .err x
  | _, _, _ => .stk
def R.orV : R D → (DEnv → R D) → DEnv → R D
  | .ok (.bl false), g, δ => g δ
  | .ok (.bl true), _, _ => .ok (.bl true)
  | .err x, _, _ => .err x
  | _, _, _ => .stk
@[simp] theorem e_andV (f g : DEnv → R D) (δ : DEnv) : andV f g δ = (f δ).anV g δ := by unfold andV; rcases f δ with (_|(_|_)|_|_|_|_|_) | _ | _ <;> rfl
@[simp] theorem e_orV (f g : DEnv → R D) (δ : DEnv) : DL.orV f g δ = (f δ).orV g δ := by unfold DL.orV; rcases f δ with (_|(_|_)|_|_|_|_|_) | _ | _ <;> rfl
@[simp] theorem anV_t (g : DEnv → R D) (δ : DEnv) : R.anV (.ok (.bl true)) g δ = g δ := rfl
@[simp] theorem anV_f (g : DEnv → R D) (δ : DEnv) : R.anV (.ok (.bl false)) g δ = .ok (.bl false) := rfl
@[simp] theorem orV_t (g : DEnv → R D) (δ : DEnv) : R.orV (.ok (.bl true)) g δ = .ok (.bl true) := rfl
@[simp] theorem orV_f (g : DEnv → R D) (δ : DEnv) : R.orV (.ok (.bl false)) g δ = g δ := rfl
theorem anV_b (b : Bool) (g : DEnv → R D) (δ : DEnv) : R.anV (.ok (.bl b)) g δ = if b = true then g δ else .ok (.bl false) := by cases b <;> rfl
theorem orV_b (b : Bool) (g : DEnv → R D) (δ : DEnv) : R.orV (.ok (.bl b)) g δ = if b = true then .ok (.bl true) else g δ := by cases b <;> rfl
@[simp] theorem e_notD (b : Bool) : notD (.bl b) = .ok (.bl (!b)) := rfl
def R.ifV : R Bool → (DEnv → R D) → (DEnv → R D) → DEnv → R D
  | .ok b, f, g, δ => if b = true then f δ else g δ
  | .err x, _, _, _ => .err x
  | .stk, _, _, _ => .stk
@[simp] theorem e_ifV (c : DEnv → R Bool) (f g : DEnv → R D) (δ : DEnv) : DL.ifV c f g δ = (c δ).ifV f g δ := by unfold DL.ifV; cases c δ <;> rfl
@[simp] theorem ifV_t (f g : DEnv → R D) (δ : DEnv) : R.ifV (.ok true) f g δ = f δ := rfl
@[simp] theorem ifV_f (f g : DEnv → R D) (δ : DEnv) : R.ifV (.ok false) f g δ = g δ := rfl
theorem ifV_b (b : Bool) (f g : DEnv → R D) (δ : DEnv) : R.ifV (.ok b) f g δ = if b = true then f δ else g δ := rfl
def R.ch (h h' : D → D → R D) : R D → R D → (DEnv → R D) → DEnv → R D
  | .ok d, .ok e, w, δ => (h d e).anV (fun δ => (w δ).bind fun z => h' e z) δ
  | .ok _, .err x, _, _ => .err x
  | .ok _, .stk, _, _ => .stk
  | .err x, _, _, _ => .err x
  | .stk, _, _, _ => .stk
@[simp] theorem e_chain (h h' : D → D → R D) (f g w : DEnv → R D) (δ : DEnv) : chainD h h' f g w δ = R.ch h h' (f δ) (g δ) w δ := by
  unfold chainD
  cases f δ with
  | ok d =>
    cases g δ with
    | ok e =>
      show (h d e).bind _ = R.anV _ _ _
      rcases h d e with (_|(_|_)|_|_|_|_|_) | _ | _ <;> rfl
    | err x => rfl
    | stk => rfl
  | err x => rfl
  | stk => rfl
@[simp] theorem ch_ok (h h' : D → D → R D) (d e : D) (w : DEnv → R D) (δ : DEnv) : R.ch h h' (.ok d) (.ok e) w δ = (h d e).anV (fun δ => (w δ).bind fun z => h' e z) δ := rfl
/-! operators on data -/
@[simp] theorem o_add (i j : Int) : addD (.int i) (.int j) = .ok (.int (i + j)) := rfl
@[simp] theorem o_iadd (i j : Int) : iaddD (.int i) (.int j) = .ok (.int (i + j)) := rfl
@[simp] theorem o_sub (i j : Int) : subD (.int i) (.int j) = .ok (.int (i - j)) := rfl
@[simp] theorem o_neg (i : Int) : negD (.int i) = .ok (.int (-i)) := rfl
@[simp] theorem o_int (i : Int) : intD [.int i] = .ok (.int i) := rfl
@[simp] theorem o_intb (b : Bool) : intD [.bl b] = .ok (.int (if b then 1 else 0)) := rfl
@[simp] theorem o_abs (i : Int) : absD [.int i] = .ok (.int (if i < 0 then -i else i)) := rfl
@[simp] theorem o_gcd (i j : Int) : gcdD [.int i, .int j] = .ok (.int ((Nat.gcd i.natAbs j.natAbs : Nat) : Int)) := rfl
@[simp] theorem o_lt (i j : Int) : ltD (.int i) (.int j) = .ok (.bl (decide (i < j))) := rfl
@[simp] theorem o_le (i j : Int) : leD (.int i) (.int j) = .ok (.bl (decide (i ≤ j))) := rfl
@[simp] theorem o_gt (i j : Int) : gtD (.int i) (.int j) = .ok (.bl (decide (j < i))) := rfl
@[simp] theorem o_ge (i j : Int) : geD (.int i) (.int j) = .ok (.bl (decide (j ≤ i))) := rfl
@[simp] theorem o_lenL (ds : List D) : lenD [.lst ds] = .ok (.int ds.length) := rfl
@[simp] theorem o_lenT (ds : List D) : lenD [.tup ds] = .ok (.int ds.length) := rfl
@[simp] theorem o_lenS (ds : List D) : lenD [.scr ds] = .ok (.int ds.length) := rfl
@[simp] theorem o_listL (ds : List D) : listD [.lst ds] = .ok (.lst ds) := rfl
@[simp] theorem o_isN : isND .non = .ok (.bl true) := rfl
@[simp] theorem o_notN : notND .non = .ok (.bl false) := rfl
@[simp] theorem o_isB (a b : Bool) : isBD (.bl a) (.bl b) = .ok (.bl (decide (a = b))) := rfl
@[simp] theorem o_notisB (a b : Bool) : notBD (.bl a) (.bl b) = .ok (.bl (!decide (a = b))) := rfl
theorem o_isi (T : String) (d : D) (h : tyOk d = true) : isiD T d = .ok (.bl (isTb (tyN d) T)) := by unfold isiD; rw [if_pos h]
@[simp] theorem isi_non (T : String) : isiD T .non = .ok (.bl (isTb "NoneType" T)) := rfl
@[simp] theorem isi_bl (T : String) (b : Bool) : isiD T (.bl b) = .ok (.bl (isTb "bool" T)) := rfl
@[simp] theorem isi_int (T : String) (b : Int) : isiD T (.int b) = .ok (.bl (isTb "int" T)) := rfl
@[simp] theorem isi_str (T : String) (b : PySem.Str) : isiD T (.str b) = .ok (.bl (isTb "str" T)) := rfl
@[simp] theorem isi_tup (T : String) (ds : List D) : isiD T (.tup ds) = .ok (.bl (isTb "tuple" T)) := rfl
@[simp] theorem isi_lst (T : String) (ds : List D) : isiD T (.lst ds) = .ok (.bl (isTb "list" T)) := rfl
@[simp] theorem isi_nst (T : String) (ds : List D) : isiD T (.nst ds) = .ok (.bl (isTb "list" T)) := rfl
@[simp] theorem isi_scr (T : String) (ds : List D) : isiD T (.scr ds) = .ok (.bl (isTb "list" T)) := rfl
@[simp] theorem ty_non : tyN .non = "NoneType" := rfl
@[simp] theorem ty_bl (b : Bool) : tyN (.bl b) = "bool" := rfl
@[simp] theorem ty_int (i : Int) : tyN (.int i) = "int" := rfl
@[simp] theorem ty_str (x : PySem.Str) : tyN (.str x) = "str" := rfl
@[simp] theorem ty_tup (ds : List D) : tyN (.tup ds) = "tuple" := rfl
@[simp] theorem ty_lst (ds : List D) : tyN (.lst ds) = "list" := rfl
@[simp] theorem ty_scr (ds : List D) : tyN (.scr ds) = "list" := rfl
@[simp] theorem isT_ii : isTb "int" "int" = true := by decide
@[simp] theorem isT_ib : isTb "int" "bool" = false := by decide
@[simp] theorem isT_it : isTb "int" "tuple" = false := by decide
@[simp] theorem isT_il : isTb "int" "list" = false := by decide
@[simp] theorem isT_tt : isTb "tuple" "tuple" = true := by decide
@[simp] theorem isT_ti : isTb "tuple" "int" = false := by decide
@[simp] theorem isT_tb : isTb "tuple" "bool" = false := by decide
@[simp] theorem isT_tl : isTb "tuple" "list" = false := by decide
@[simp] theorem isT_ll : isTb "list" "list" = true := by decide
@[simp] theorem isT_li : isTb "list" "int" = false := by decide
@[simp] theorem isT_lb : isTb "list" "bool" = false := by decide
@[simp] theorem isT_lt : isTb "list" "tuple" = false := by decide
@[simp] theorem isT_bb : isTb "bool" "bool" = true := by decide
@[simp] theorem isT_bi : isTb "bool" "int" = true := by decide
theorem o_mul {i j : Int} (h : mulOk i j = true) : mulD (.int i) (.int j) = .ok (.int (i * j)) := by show (if mulOk i j = true then _ else _) = _; rw [if_pos h]
theorem o_fdiv {i j : Int} (h : divOk j = true) : fdivD (.int i) (.int j) = .ok (.int (i.fdiv j)) := by show (if divOk j = true then _ else _) = _; rw [if_pos h]
theorem o_mod {i j : Int} (h : j ≠ 0) : modD (.int i) (.int j) = .ok (.int (i.fmod j)) := by show (if j ≠ 0 then _ else _) = _; rw [if_pos h]
theorem o_modp {i j : Int} (h : 0 < j) : modD (.int i) (.int j) = .ok (.int (i % j)) := by
  rw [o_mod (by omega), Int.fmod_eq_emod_of_nonneg _ (by omega)]
theorem o_fdivp {i j : Int} (h : divOk j = true) (h2 : 0 < j) : fdivD (.int i) (.int j) = .ok (.int (i / j)) := by
  rw [o_fdiv h, Int.fdiv_eq_ediv_of_nonneg _ (by omega)]
theorem mulOk_l {i j : Int} (h : -(2 ^ 64) < i) (h2 : i < 2 ^ 64) : mulOk i j = true := by unfold mulOk; simp; left; left; exact ⟨by simpa using h, by simpa using h2⟩
theorem mulOk_r {i j : Int} (h : -(2 ^ 64) < j) (h2 : j < 2 ^ 64) : mulOk i j = true := by unfold mulOk; simp; left; right; exact ⟨by simpa using h, by simpa using h2⟩
/-! equality -/
@[simp] theorem q_int (i j : Int) : eqv (.int i) (.int j) = decide (i = j) := by
  unfold eqv
  simp only [toPy]
  rw [PyData.eqv]
  rfl
@[simp] theorem o_eqI (i j : Int) : eqD (.int i) (.int j) = .ok (.bl (decide (i = j))) := by unfold eqD; rw [if_pos ⟨rfl, rfl⟩, q_int]
@[simp] theorem o_neI (i j : Int) : neD (.int i) (.int j) = .ok (.bl (!decide (i = j))) := by unfold neD; rw [if_pos ⟨rfl, rfl⟩, q_int]
@[simp] theorem q_bl (a b : Bool) : eqv (.bl a) (.bl b) = decide (a = b) := by
  unfold eqv
  simp only [toPy]
  rw [PyData.eqv]
  cases a <;> cases b <;> rfl
@[simp] theorem o_eqB (a b : Bool) : eqD (.bl a) (.bl b) = .ok (.bl (decide (a = b))) := by unfold eqD; rw [if_pos ⟨rfl, rfl⟩, q_bl]
@[simp] theorem o_neB (a b : Bool) : neD (.bl a) (.bl b) = .ok (.bl (!decide (a = b))) := by unfold neD; rw [if_pos ⟨rfl, rfl⟩, q_bl]
mutual
theorem eqv_refl' : ∀ d : D, PyData.eqv (toPy d) (toPy d) = true
  | .non => by simp [toPy, PyData.eqv]
  | .bl _ => by simp [toPy, PyData.eqv]
  | .int _ => by simp [toPy, PyData.eqv]
  | .str _ => by simp [toPy, PyData.eqv]
  | .tup ds => by simp [toPy, PyData.eqv, eqvL_refl ds]
  | .lst ds => by simp [toPy, PyData.eqv, eqvL_refl ds]
  | .scr ds => by simp [toPy, PyData.eqv, eqvL_refl ds]
  | .nst ds => by simp [toPy, PyData.eqv, eqvL_refl ds]
  | .dic _ _ => by simp [toPy, PyData.eqv]
  | .ndc _ _ => by simp [toPy, PyData.eqv]
  | .obj _ _ _ => by simp [toPy, PyData.eqv]
theorem eqvL_refl : ∀ ds : List D, PyData.eqvAll (toPyL ds) (toPyL ds) = true
  | [] => by simp [toPyL, PyData.eqvAll]
  | d :: ds => by simp [toPyL, PyData.eqvAll, eqv_refl' d, eqvL_refl ds]
end
@[simp] theorem eqv_refl (d : D) : eqv d d = true := eqv_refl' d
theorem eqv_tup (xs ys : List D) : eqv (.tup xs) (.tup ys) = PyData.eqvAll (toPyL xs) (toPyL ys) := by unfold eqv; simp only [toPy]; rw [PyData.eqv]
theorem eqv_lst (xs ys : List D) : eqv (.lst xs) (.lst ys) = PyData.eqvAll (toPyL xs) (toPyL ys) := by unfold eqv; simp only [toPy]; rw [PyData.eqv]
theorem eqvAll_cons (x y : D) (xs ys : List D) : PyData.eqvAll (toPyL (x :: xs)) (toPyL (y :: ys)) = (eqv x y && PyData.eqvAll (toPyL xs) (toPyL ys)) := by simp only [toPyL]; rw [PyData.eqvAll]; rfl
@[simp] theorem q_ii (a b c d : Int) : eqv (.tup [.int a, .int b]) (.tup [.int c, .int d]) = decide (a = c ∧ b = d) := by
  rw [eqv_tup, eqvAll_cons, eqvAll_cons, q_int, q_int]
  simp only [toPyL, PyData.eqvAll, Bool.and_true]
  by_cases h1 : a = c <;> by_cases h2 : b = d <;> simp [h1, h2]
@[simp] theorem o_eqII (a b c d : Int) : eqD (.tup [.int a, .int b]) (.tup [.int c, .int d]) = .ok (.bl (decide (a = c ∧ b = d))) := by unfold eqD; rw [if_pos ⟨rfl, rfl⟩, q_ii]
@[simp] theorem o_neII (a b c d : Int) : neD (.tup [.int a, .int b]) (.tup [.int c, .int d]) = .ok (.bl (!decide (a = c ∧ b = d))) := by unfold neD; rw [if_pos ⟨rfl, rfl⟩, q_ii]
theorem eqD_refl {d : D} (h : shp d 8 = true) : eqD d d = .ok (.bl true) := by unfold eqD; rw [if_pos ⟨h, h⟩, eqv_refl]
theorem neD_refl {d : D} (h : shp d 8 = true) : neD d d = .ok (.bl false) := by unfold neD; rw [if_pos ⟨h, h⟩, eqv_refl]; rfl
/-! places -/
@[simp] theorem e_put (i : Nat) (d : D) (δ : DEnv) : putD i d δ = if i < δ.length then .ok (δ.set i (some d)) else .stk := rfl
@[simp] theorem e_nilT (δ : DEnv) : nilT [] δ = .ok δ := rfl
@[simp] theorem e_consT (h : D → DEnv → R DEnv) (hs : List D → DEnv → R DEnv) (d : D) (r : List D) (δ : DEnv) : consT h hs (d :: r) δ = (h d δ).bind fun δ1 => hs r δ1 := rfl
@[simp] theorem e_tupT (hs : List D → DEnv → R DEnv) (ds : List D) (δ : DEnv) : tupT hs (.tup ds) δ = hs ds δ := rfl
theorem idx_lst {ds : List D} {i : Int} {d : D} (h : 0 ≤ i) (h2 : ds[i.toNat]? = some d) : idxD (.lst ds) (.int i) = .ok d := by
  have hl : i.toNat < ds.length := by
    rcases Nat.lt_or_ge i.toNat ds.length with q | q
    · exact q
    · rw [List.getElem?_eq_none q] at h2; cases h2
  have e : atI ds i = some d := by
    have e2 : i = (i.toNat : Nat) := by omega
    rw [e2]
    exact atI_nat h2
  show (match atI ds i with | some d => R.ok d | none => R.stk) = _
  rw [e]
theorem idx_tup {ds : List D} {i : Int} {d : D} (h : 0 ≤ i) (h2 : ds[i.toNat]? = some d) : idxD (.tup ds) (.int i) = .ok d := by
  exact (show idxD (.lst ds) (.int i) = .ok d from idx_lst h h2)
@[simp] theorem idx_t0 (a : D) (ds : List D) : idxD (.tup (a :: ds)) (.int 0) = .ok a := idx_tup (by decide) rfl
@[simp] theorem idx_t1 (a b : D) (ds : List D) : idxD (.tup (a :: b :: ds)) (.int 1) = .ok b := idx_tup (by decide) rfl
@[simp] theorem idx_t2 (a b c : D) (ds : List D) : idxD (.tup (a :: b :: c :: ds)) (.int 2) = .ok c := idx_tup (by decide) rfl
/-! the body -/
theorem e_run (m : Nat) (g : DEnv → Fl) (ds : List D) : runD m g ds = fnRes (g (startD m ds)) := rfl
@[simp] theorem fn_nx (δ : DEnv) : fnRes (.nx δ) = .ok .non := rfl
@[simp] theorem fn_rt (d : D) : fnRes (.rt d) = .ok d := rfl
@[simp] theorem fn_ex (x : Exn) (δ : DEnv) : fnRes (.ex x δ) = .err x := rfl
@[simp] theorem e_start (m : Nat) (ds : List D) : startD m ds = ds.map some ++ List.replicate (m - ds.length) none := rfl
@[simp] theorem e_raise (nm : String) (δ : DEnv) : raiseF nm δ = .ex ⟨nm⟩ δ := rfl
@[simp] theorem e_yes (δ : DEnv) : yesB δ = .ok true := rfl
theorem itS_l (f : DEnv → R D) (δ : DEnv) (ds : List D) (h : f δ = .ok (.lst ds)) : itS f δ = .ok ds := by unfold itS; rw [h]; rfl
theorem itS_t (f : DEnv → R D) (δ : DEnv) (ds : List D) (h : f δ = .ok (.tup ds)) : itS f δ = .ok ds := by unfold itS; rw [h]; rfl
theorem itS_s (f : DEnv → R D) (δ : DEnv) (ds : List D) (h : f δ = .ok (.scr ds)) : itS f δ = .ok ds := by unfold itS; rw [h]; rfl
def sqK : D → R (List D)
  | .lst ds => .ok ds
  | .scr ds => .ok ds
  | .tup ds => .ok ds
  | _ => .stk
@[simp] theorem e_itS (f : DEnv → R D) (δ : DEnv) : itS f δ = (f δ).bind sqK := by unfold itS; rcases f δ with (_|_|_|_|_|_|_) | _ | _ <;> rfl
@[simp] theorem sqK_l (ds : List D) : sqK (.lst ds) = .ok ds := rfl
@[simp] theorem sqK_t (ds : List D) : sqK (.tup ds) = .ok ds := rfl
@[simp] theorem sqK_s (ds : List D) : sqK (.scr ds) = .ok ds := rfl
def zpK : List D → R (List D)
  | [.lst xs, .lst ys] => .ok (zipPairs xs ys)
  | [.tup xs, .tup ys] => .ok (zipPairs xs ys)
  | _ => .stk
@[simp] theorem e_zip (fs : DEnv → R (List D)) (δ : DEnv) : zipA fs δ = (fs δ).bind zpK := rfl
@[simp] theorem zpK_l (xs ys : List D) : zpK [.lst xs, .lst ys] = .ok (zipPairs xs ys) := rfl
@[simp] theorem zpK_t (xs ys : List D) : zpK [.tup xs, .tup ys] = .ok (zipPairs xs ys) := rfl
open Classical in
noncomputable def rgK : List D → R (List D)
  | [.int j] => if smR j then .ok (intsFrom 0 j.toNat) else .stk
  | _ => .stk
@[simp] theorem e_rng1 (fs : DEnv → R (List D)) (δ : DEnv) : rng1 fs δ = (fs δ).bind rgK := by unfold rng1; cases fs δ <;> rfl
theorem rgK_ok {j : Int} (h : -(2 ^ 62) ≤ j) (h2 : j < 2 ^ 62) : rgK [.int j] = .ok (intsFrom 0 j.toNat) := by unfold rgK; simp only; rw [if_pos ⟨h, h2⟩]
/-! loops -/
theorem forD_nil (h : D → DEnv → R DEnv) (b : DEnv → Fl) (δ : DEnv) : forD h b [] δ = .nx δ := rfl
/-- a loop that runs through -/
theorem for_thru {h : D → DEnv → R DEnv} {b : DEnv → Fl} (I : List D → DEnv → Prop) (step : ∀ d ds δ, I (d :: ds) δ → ∃ δ1 δ2, h d δ = .ok δ1 ∧ (b δ1 = .nx δ2 ∨ b δ1 = .ct δ2) ∧ I ds δ2) : ∀ (items : List D) (δ : DEnv), I items δ → ∃ δ', forD h b items δ = .nx δ' ∧ I [] δ'
  | [], δ, hI => ⟨δ, rfl, hI⟩
  | d :: ds, δ, hI => by
    obtain ⟨δ1, δ2, h1, h2, h3⟩ := step d ds δ hI
    obtain ⟨δ', h4, h5⟩ := for_thru I step ds δ2 h3
    refine ⟨δ', ?_, h5⟩
    unfold forD
    rw [h1]
    rcases h2 with h2 | h2 <;> simp only [h2] <;> exact h4
/-- a loop: it runs through, or returns on its way -/
theorem for_ret {h : D → DEnv → R DEnv} {b : DEnv → Fl} (I : List D → DEnv → Prop) (P : D → Prop) (step : ∀ d ds δ, I (d :: ds) δ → ∃ δ1, h d δ = .ok δ1 ∧ ((∃ δ2, (b δ1 = .nx δ2 ∨ b δ1 = .ct δ2) ∧ I ds δ2) ∨ ∃ v, b δ1 = .rt v ∧ P v)) :
    ∀ (items : List D) (δ : DEnv), I items δ → (∃ δ', forD h b items δ = .nx δ' ∧ I [] δ') ∨ ∃ v, forD h b items δ = .rt v ∧ P v
  | [], δ, hI => .inl ⟨δ, rfl, hI⟩
  | d :: ds, δ, hI => by
    obtain ⟨δ1, h1, h2⟩ := step d ds δ hI
    rcases h2 with ⟨δ2, h2, h3⟩ | ⟨v, h2, h3⟩
    · rcases for_ret I P step ds δ2 h3 with ⟨δ', h4, h5⟩ | ⟨v, h4, h5⟩
      · refine .inl ⟨δ', ?_, h5⟩
        unfold forD
        rw [h1]
        rcases h2 with h2 | h2 <;> simp only [h2] <;> exact h4
      · refine .inr ⟨v, ?_, h5⟩
        unfold forD
        rw [h1]
        rcases h2 with h2 | h2 <;> simp only [h2] <;> exact h4
    · refine .inr ⟨v, ?_, h3⟩
      unfold forD
      rw [h1]
      simp only [h2]
/-- a while loop under a measure -/
theorem while_run {c : DEnv → R Bool} {b : DEnv → Fl} (I : Nat → DEnv → Prop) (step : ∀ n δ, I n δ → (c δ = .ok false) ∨ (c δ = .ok true ∧ ∃ δ2 m, (b δ = .nx δ2 ∨ b δ = .ct δ2) ∧ m < n ∧ I m δ2)) :
    ∀ (n : Nat) (δ : DEnv), I n δ → ∃ δ' m, whileF c b δ = .nx δ' ∧ c δ' = .ok false ∧ I m δ' := by
  have key : ∀ (n : Nat) (δ : DEnv), I n δ → ∃ δ' m k, whileN c b k δ = .nx δ' ∧ c δ' = .ok false ∧ I m δ' := by
    intro n
    induction n using Nat.strongRecOn with
    | ind n ih =>
      intro δ hI
      rcases step n δ hI with h | ⟨h, δ2, m, hb, hm, hI2⟩
      · exact ⟨δ, n, 1, by simp [whileN, h], h, hI⟩
      · obtain ⟨δ', m', k, hk, hc, hI'⟩ := ih m hm δ2 hI2
        refine ⟨δ', m', k + 1, ?_, hc, hI'⟩
        rcases hb with hb | hb <;> simp only [whileN, h, hb] <;> exact hk
  intro n δ hI
  obtain ⟨δ', m, k, hk, hc, hI'⟩ := key n δ hI
  exact ⟨δ', m, whileF_of hk (by simp), hc, hI'⟩
/-! new lists -/
theorem comp_ok {vs : List Nat} {h : D → DEnv → R DEnv} {c : DEnv → R Bool} {el : DEnv → R D} {δ : DEnv} (g : D → D) : ∀ {ds : List D}, (∀ d ∈ ds, ∃ δ1, h d (wipeD δ vs) = .ok δ1 ∧ c δ1 = .ok true ∧ el δ1 = .ok (g d)) → compD vs h c el δ ds = .ok (ds.map g)
  | [], _ => rfl
  | d :: ds, H => by
    obtain ⟨δ1, h1, h2, h3⟩ := H d List.mem_cons_self
    unfold compD
    rw [h1]
    simp only [R.bind_ok, h2, if_true, h3]
    rw [comp_ok g fun d' hd => H d' (List.mem_cons_of_mem _ hd)]
    rfl
def R.lc (vs : List Nat) (h : D → DEnv → R DEnv) (c : DEnv → R Bool) (el : DEnv → R D) : R (List D) → DEnv → R D
  | .ok items, δ => (compD vs h c el δ items).ne.bind fun r => if r.length ≤ sizeLine then .ok (.lst r) else .stk
  | .err x, _ => .err x
  | .stk, _ => .stk
@[simp] theorem e_lc (vs : List Nat) (f : DEnv → R (List D)) (h : D → DEnv → R DEnv) (c : DEnv → R Bool) (el : DEnv → R D) (δ : DEnv) : lcD vs f h c el δ = R.lc vs h c el (f δ) δ := by unfold lcD; cases f δ <;> rfl
theorem lc_ok {vs : List Nat} {h : D → DEnv → R DEnv} {c : DEnv → R Bool} {el : DEnv → R D} {δ : DEnv} (g : D → D) {ds : List D} (H : ∀ d ∈ ds, ∃ δ1, h d (wipeD δ vs) = .ok δ1 ∧ c δ1 = .ok true ∧ el δ1 = .ok (g d)) (hl : ds.length ≤ 16777216) :
    R.lc vs h c el (.ok ds) δ = .ok (.lst (ds.map g)) := by
  unfold R.lc
  simp only [comp_ok g H, R.ne_ok, R.bind_ok, List.length_map]
  rw [if_pos (by rw [sizeLine_eq]; exact hl)]
/-! errors -/
def Fl.tr (i : Nat) (ms : List (String × Bool)) (gs : String → DEnv → Fl) : Fl → Fl
  | .ex x δ' => (match ms.lookup x.cls with
    | some true => if i < δ'.length then unsetF i (gs x.cls (δ'.set i none)) else .stk
    | some false => .ex x δ'
    | none => .stk)
  | .nx δ' => .nx δ'
  | .bk δ' => .bk δ'
  | .ct δ' => .ct δ'
  | .rt d => .rt d
  | .stk => .stk
@[simp] theorem e_try (i : Nat) (ms : List (String × Bool)) (g : DEnv → Fl) (gs : String → DEnv → Fl) (δ : DEnv) : tryF i ms g gs δ = (g δ).tr i ms gs := by unfold tryF; cases g δ <;> rfl
@[simp] theorem tr_nx (i : Nat) (ms : List (String × Bool)) (gs : String → DEnv → Fl) (δ : DEnv) : Fl.tr i ms gs (.nx δ) = .nx δ := rfl
@[simp] theorem tr_rt (i : Nat) (ms : List (String × Bool)) (gs : String → DEnv → Fl) (d : D) : Fl.tr i ms gs (.rt d) = .rt d := rfl
theorem tr_ex (i : Nat) (ms : List (String × Bool)) (gs : String → DEnv → Fl) {nm : String} (δ : DEnv) (h : ms.lookup nm = some true) (hi : i < δ.length) : Fl.tr i ms gs (.ex ⟨nm⟩ δ) = unsetF i (gs nm (δ.set i none)) := by unfold Fl.tr; simp only [h]; rw [if_pos hi]
@[simp] theorem un_nx (i : Nat) (δ : DEnv) : unsetF i (.nx δ) = .nx (δ.set i none) := rfl
@[simp] theorem un_rt (i : Nat) (d : D) : unsetF i (.rt d) = .rt d := rfl
def Fl.tro (ms : List (String × Bool)) (gs : DEnv → Fl) : Fl → Fl
  | .ex x δ' => (match ms.lookup x.cls with
    | some true => (match gs δ' with | .ex _ _ => .stk | r => r)
    | some false => .ex x δ'
    | none => .stk)
  | .nx δ' => .nx δ'
  | .bk δ' => .bk δ'
  | .ct δ' => .ct δ'
  | .rt d => .rt d
  | .stk => .stk
@[simp] theorem e_tryO (ms : List (String × Bool)) (g gs : DEnv → Fl) (δ : DEnv) : tryOF ms g gs δ = (g δ).tro ms gs := by unfold tryOF; cases g δ <;> rfl
@[simp] theorem tro_nx (ms : List (String × Bool)) (gs : DEnv → Fl) (δ : DEnv) : Fl.tro ms gs (.nx δ) = .nx δ := rfl
theorem tro_ex (ms : List (String × Bool)) (gs : DEnv → Fl) {nm : String} (δ δ' : DEnv) (h : ms.lookup nm = some true) (hg : gs δ = .nx δ') : Fl.tro ms gs (.ex ⟨nm⟩ δ) = .nx δ' := by unfold Fl.tro; simp only [h, hg]
theorem e_isE {tbl : List (String × Bool)} {nm : String} {b : Bool} (δ : DEnv) (h : tbl.lookup nm = some b) : isE tbl nm δ = .ok (.bl b) := by unfold isE; rw [h]
end DL

set_option maxRecDepth 100001
set_option maxHeartbeats 1000001
namespace DL
open PySem PySem.Spec PyProof.Rows L2
/-! ### methods of texts -/
def m0D (h : PySem.Str → R D) (f : DEnv → R D) : DEnv → R D := fun δ => (f δ).bind fun d => match d with
  | .str a => h a
  | _ => .stk
def m1D (h : PySem.Str → D → R D) (f g : DEnv → R D) : DEnv → R D := fun δ => (f δ).bind fun d => match d with
  | .str a => (g δ).bind fun e => h a e
  | _ => .stk
section
variable {G : Cfg} {S : Sco} {k : Nat} {X : Cx} {W : WX} {own l1 l2 lk : List Nat} {to te : TE} {f g : DEnv → R D} {o e : Expr} {apos pos : Pos}
theorem SE.m0 (ho : SE G W own lk to f) {r : V → List V → Hp → VK → Prop} {h : PySem.Str → R D}
    (hr : ∀ (H : Hp) (Z : Addr → Prop) (a : PySem.Str) (Q : VK), ZOk H Z → (∃ c, h a = .ok c ∧ ∀ v H', Ext H H' → Rep G.K H' Z c v → Q v H') → r (.str a) [] H Q) (ne : ∀ a z, h a ≠ .err z) : SE G W own [] (tM0 r to) (m0D h f) := by
  intro Z₀ α δ σ H Q E hX q qe ns
  unfold m0D at q qe ns
  refine ho Z₀ α δ σ H _ E hX (fun d v H1 hf e1 r1 => ?_) (fun x H1 hf e1 => ?_) (R.notstk_bind ns)
  · rw [hf] at q ns
    simp only [R.bind_ok] at q ns
    cases d with
    | str a =>
      cases r1.str
      refine ⟨⟨a, rfl⟩, hr H1 (ZZ Z₀ α (minus own [])) a Q ((E.ext e1).zsub minus_sub) ?_⟩
      cases hh : h a with
      | ok c => exact ⟨c, rfl, fun v H' e2 r2 => q c v H' hh (e1.trans e2) r2⟩
      | err x => exact absurd hh (ne a x)
      | stk => exact absurd hh ns
    | _ => exact absurd rfl ns
  · rw [hf] at qe
    exact qe x H1 rfl e1
theorem SE.m1 (ho : SE G W own l1 to f) (hg : SE G W own l2 te g) {r : V → List V → Hp → VK → Prop} {h : PySem.Str → D → R D}
    (hr : ∀ (H : Hp) (Z : Addr → Prop) (a : PySem.Str) (y : V) (e : D) (Q : VK), ZOk H Z → Rep G.K H Z e y → (∃ c, h a e = .ok c ∧ ∀ v H', Ext H H' → Rep G.K H' Z c v → Q v H') → r (.str a) [y] H Q) (ne : ∀ a e z, h a e ≠ .err z) :
    SE G W own l2 (tM1 r to te) (m1D h f g) := by
  intro Z₀ α δ σ H Q E hX q qe ns
  unfold m1D at q qe ns
  refine ho Z₀ α δ σ H _ E hX (fun d v H1 hf e1 r1 => ?_) (fun x H1 hf e1 => ?_) (R.notstk_bind ns)
  · rw [hf] at q qe ns
    simp only [R.bind_ok] at q qe ns
    cases d with
    | str a =>
      cases r1.str
      refine ⟨⟨a, rfl⟩, hg Z₀ α δ σ H1 _ (E.ext e1) hX (fun d2 y H2 hf2 e2 r2 => ?_) (fun x H2 hf2 e2 => ?_) (R.notstk_bind ns)⟩
      · simp only [hf2, R.bind_ok] at q ns
        refine hr H2 _ a y d2 Q (((E.ext e1).ext e2).zsub minus_sub) r2 ?_
        cases hh : h a d2 with
        | ok c => exact ⟨c, rfl, fun v H' e3 r3 => q c v H' hh ((e1.trans e2).trans e3) r3⟩
        | err x => exact absurd hh (ne a d2 x)
        | stk => exact absurd hh ns
      · simp only [hf2] at qe
        exact qe x H2 rfl (e1.trans e2)
    | _ => exact absurd rfl ns
  · rw [hf] at qe
    exact qe x H1 rfl e1
/-- the answers -/
def rpxD (a : PySem.Str) : D → R D
  | .str b => if a.length ≤ sizeLine then .ok (.str (Txt.removeprefix a b)) else .stk
  | _ => .stk
def isdD (a : PySem.Str) : R D := .ok (.bl (Txt.isdigit a))
def swiD (a : PySem.Str) : D → R D
  | .str b => .ok (.bl (Txt.startswith a b))
  | _ => .stk
def parD (a : PySem.Str) : D → R D
  | .str b => if (b.length == 0) = false ∧ a.length ≤ sizeLine then .ok (.tup [.str (Txt.partition a b).1, .str (Txt.partition a b).2.1, .str (Txt.partition a b).2.2]) else .stk
  | _ => .stk
def splD (a : PySem.Str) : D → R D
  | .str b => if (b.length == 0) = false ∧ a.length + 2 ≤ sizeLine then .ok (.lst ((Txt.split a b).map D.str)) else .stk
  | _ => .stk
theorem d_isdigit (ho : DE G X W own lk o to f) (hbase : attributeBase o "isdigit" X.env (eval o X.env) = eval o X.env := by rfl) (hline : (apos.endLine == pos.line) = true := by rfl) :
    DE G X W own [] (.Call (.Attribute o "isdigit" apos) [] [] pos) (tM0 (fun x xs H Q => ∃ a, x = .str a ∧ xs = [] ∧ True ∧ Q (.bl (Txt.isdigit a)) H) to) (m0D isdD f) :=
  ⟨pe_m0 F.slot_str_isdigit F.type_str_isdigit mt_isdigit ho.1 hbase hline, SE.m0 ho.2 (fun H Z a Q z q => by
    obtain ⟨c, hc, q⟩ := q
    cases hc
    exact ⟨a, rfl, rfl, trivial, q _ H (Same.refl H) rfl⟩) (fun a z h => by cases h)⟩
theorem d_startswith (ho : DE G X W own l1 o to f) (he : DE G X W own l2 e te g) (hs : starEach [e] X.env = [(false, eval e X.env)] := by rfl) (hbase : attributeBase o "startswith" X.env (eval o X.env) = eval o X.env := by rfl) (hline : (apos.endLine == pos.line) = true := by rfl) :
    DE G X W own l2 (.Call (.Attribute o "startswith" apos) [e] [] pos) (tM1 (fun x xs H Q => ∃ a b, x = .str a ∧ xs = [.str b] ∧ Q (.bl (Txt.startswith a b)) H) to te) (m1D swiD f g) :=
  ⟨pe_m1 F.slot_str_startswith F.type_str_startswith mt_startswith ho.1 he.1 hs hbase hline, SE.m1 ho.2 he.2 (fun H Z a y e Q z r q => by
    obtain ⟨c, hc, q⟩ := q
    cases e with
    | str b => cases hc; cases r.str; exact ⟨a, b, rfl, rfl, q _ H (Same.refl H) rfl⟩
    | _ => cases hc) (fun a e z h => by unfold swiD at h; split at h <;> cases h)⟩
theorem rep_strs {K : PySem.W.Frag} {H : Hp} {Z : Addr → Prop} : ∀ ys : List PySem.Str, RepL K H Z (ys.map D.str) (ys.map V.str)
  | [] => rfl
  | y :: ys => ⟨.str y, ys.map V.str, rfl, rfl, rep_strs ys⟩
theorem d_removeprefix (ho : DE G X W own l1 o to f) (he : DE G X W own l2 e te g) (hs : starEach [e] X.env = [(false, eval e X.env)] := by rfl) (hbase : attributeBase o "removeprefix" X.env (eval o X.env) = eval o X.env := by rfl) (hline : (apos.endLine == pos.line) = true := by rfl) :
    DE G X W own l2 (.Call (.Attribute o "removeprefix" apos) [e] [] pos) (tM1 (fun x xs H Q => ∃ a b, x = .str a ∧ xs = [.str b] ∧ a.length ≤ sizeLine ∧ Q (.str (Txt.removeprefix a b)) H) to te) (m1D rpxD f g) :=
  ⟨pe_m1 F.slot_str_removeprefix F.type_str_removeprefix mt_removeprefix ho.1 he.1 hs hbase hline, SE.m1 ho.2 he.2 (fun H Z a y e Q z r q => by
    obtain ⟨c, hc, q⟩ := q
    cases e with
    | str b =>
      unfold rpxD at hc
      by_cases h : a.length ≤ sizeLine
      · simp only [if_pos h] at hc
        cases hc; cases r.str
        exact ⟨a, b, rfl, rfl, h, q _ H (Same.refl H) rfl⟩
      · simp only [if_neg h] at hc; cases hc
    | _ => cases hc) (fun a e z h => by unfold rpxD at h; repeat (first | contradiction | split at h))⟩
theorem d_partition (ho : DE G X W own l1 o to f) (he : DE G X W own l2 e te g) (hs : starEach [e] X.env = [(false, eval e X.env)] := by rfl) (hbase : attributeBase o "partition" X.env (eval o X.env) = eval o X.env := by rfl) (hline : (apos.endLine == pos.line) = true := by rfl) :
    DE G X W own l2 (.Call (.Attribute o "partition" apos) [e] [] pos) (tM1 (fun x xs H Q => ∃ a b, x = .str a ∧ xs = [.str b] ∧ (b.length == 0) = false ∧ a.length ≤ sizeLine ∧
      ∀ p, H p = none → Q (.ref p) (upd H p (.tup [.str (Txt.partition a b).1, .str (Txt.partition a b).2.1, .str (Txt.partition a b).2.2]))) to te) (m1D parD f g) :=
  ⟨pe_partition ho.1 he.1 hs hbase hline, SE.m1 ho.2 he.2 (fun H Z a y e Q z r q => by
    obtain ⟨c, hc, q⟩ := q
    cases e with
    | str b =>
      unfold parD at hc
      by_cases h : (b.length == 0) = false ∧ a.length ≤ sizeLine
      · simp only [if_pos h] at hc
        cases hc; cases r.str
        refine ⟨a, b, rfl, rfl, h.1, h.2, fun p hp => q _ _ (ext_upd hp) ⟨p, _, rfl, .inl ⟨.inl upd_same, z.new hp⟩, ?_⟩⟩
        exact ⟨_, _, rfl, rfl, _, _, rfl, rfl, _, _, rfl, rfl, rfl⟩
      · simp only [if_neg h] at hc; cases hc
    | _ => cases hc) (fun a e z h => by unfold parD at h; repeat (first | contradiction | split at h))⟩
theorem d_split (ho : DE G X W own l1 o to f) (he : DE G X W own l2 e te g) (hs : starEach [e] X.env = [(false, eval e X.env)] := by rfl) (hbase : attributeBase o "split" X.env (eval o X.env) = eval o X.env := by rfl) (hline : (apos.endLine == pos.line) = true := by rfl) :
    DE G X W own l2 (.Call (.Attribute o "split" apos) [e] [] pos) (tM1 (fun x xs H Q => ∃ a b, x = .str a ∧ xs = [.str b] ∧ (b.length == 0) = false ∧ a.length + 2 ≤ sizeLine ∧ rNewStrs (Txt.split a b) H Q) to te) (m1D splD f g) :=
  ⟨pe_split ho.1 he.1 hs hbase hline, SE.m1 ho.2 he.2 (fun H Z a y e Q z r q => by
    obtain ⟨c, hc, q⟩ := q
    cases e with
    | str b =>
      unfold splD at hc
      by_cases h : (b.length == 0) = false ∧ a.length + 2 ≤ sizeLine
      · simp only [if_pos h] at hc
        cases hc; cases r.str
        exact ⟨a, b, rfl, rfl, h.1, h.2, fun p hp => q _ _ (ext_upd hp) ⟨p, _, rfl, upd_same, z.new hp, rep_strs _⟩⟩
      · simp only [if_neg h] at hc; cases hc
    | _ => cases hc) (fun a e z h => by unfold splD at h; repeat (first | contradiction | split at h))⟩
def asStrs : List D → Option (List PySem.Str)
  | [] => some []
  | .str y :: ds => (asStrs ds).map (y :: ·)
  | _ :: _ => none
theorem asStrs_rep {K : PySem.W.Frag} {H : Hp} {Z : Addr → Prop} : ∀ {ds : List D} {vs : List V} {ys : List PySem.Str}, RepL K H Z ds vs → asStrs ds = some ys → vs = ys.map V.str
  | [], _, _, r, h => by cases (show _ = [] from r); cases h; rfl
  | d :: ds, _, ys, r, h => by
    obtain ⟨v, u, rfl, hv, hu⟩ := r
    cases d with
    | str y =>
      rw [asStrs] at h
      cases e : asStrs ds with
      | none => rw [e] at h; cases h
      | some zs =>
        rw [e] at h
        cases h
        cases hv.str
        rw [asStrs_rep hu e]
        rfl
    | _ => simp [asStrs] at h
theorem asStrs_map : ∀ ys : List PySem.Str, asStrs (ys.map D.str) = some ys
  | [] => rfl
  | y :: ys => by
    show asStrs (D.str y :: ys.map D.str) = _
    rw [asStrs, asStrs_map ys]
    rfl
def joiD (a : PySem.Str) : D → R D
  | .lst ds => match asStrs ds with
    | some ys => if (ys.map (·.length)).sum + ys.length * a.length ≤ 16777216 then .ok (.str (Txt.join a ys)) else .stk
    | none => .stk
  | _ => .stk
theorem d_join (F : Fit G S k X) (ho : DE G X W own l1 o to f) (he : DE G X W own l2 e te g) (hs : starEach [e] X.env = [(false, eval e X.env)] := by rfl) (hbase : attributeBase o "join" X.env (eval o X.env) = eval o X.env := by rfl) (hline : (apos.endLine == pos.line) = true := by rfl) :
    DE G X W own l2 (.Call (.Attribute o "join" apos) [e] [] pos) (tM1 (fun x xs H Q => ∃ a p, ∃ ys : List PySem.Str, x = .str a ∧ xs = [.ref p] ∧ (SqL G.K H p (ys.map V.str) ∨ SqT G.K H p (ys.map V.str)) ∧
      (ys.map (·.length)).sum + ys.length * a.length ≤ 16777216 ∧ Q (.str (Txt.join a ys)) H) to te) (m1D joiD f g) :=
  ⟨F.K ▸ pe_join ho.1 he.1 hs hbase hline, SE.m1 ho.2 he.2 (fun H Z a y e Q z r q => by
    obtain ⟨c, hc, q⟩ := q
    cases e with
    | lst ds =>
      unfold joiD at hc
      simp only at hc
      cases hy : asStrs ds with
      | none => rw [hy] at hc; cases hc
      | some ys =>
        rw [hy] at hc
        simp only at hc
        by_cases h : (ys.map (·.length)).sum + ys.length * a.length ≤ 16777216
        · rw [if_pos h] at hc
          cases hc
          obtain ⟨p, vs, rfl, hp, np, rr⟩ := r
          have := asStrs_rep rr hy
          subst this
          exact ⟨a, p, ys, rfl, rfl, .inl (SqL.of hp), h, q _ H (Same.refl H) rfl⟩
        · rw [if_neg h] at hc; cases hc
    | _ => cases hc) (fun a e z h => by unfold joiD at h; repeat (first | contradiction | split at h))⟩
/-- str(i), int(text) -/
def strD : List D → R D
  | [.int i] => if i.natAbs.log2 < 1920 then .ok (.str (toString i)) else .stk
  | _ => .stk
theorem d_strI {es : List Expr} {t : TA} {fs : DEnv → R (List D)} {p : Pos} (F : Fit G S k X) (hg : S.sc.names.lookup (PySem.Str.ofString "str") = some .globalImplicit) (hm : G.mg (PySem.Str.ofString "str") = none) (ha : DA G X W own lk (e :: es) t fs)
    (he : starEach (e :: es) X.env = (false, eval e X.env) :: starEach es X.env := by rfl) (hpl : (backTo pos (starEach es X.env)).any (·.1) = false := by rfl) :
    DE G X W own lk (.Call (.Name (PySem.Str.ofString "str") p) (e :: es) [] pos) (tCB (fun xs H Q => ∃ i, xs = [.int i] ∧ i.natAbs.log2 < 1920 ∧ Q (.str (toString i)) H) t) (callF strD fs) :=
  d_callTy F call_str_int (by
    intro H Z vs ds Q z r q
    obtain ⟨c, hc, q⟩ := q
    unfold strD at hc
    split at hc
    · rename_i i
      obtain ⟨v, u, rfl, hv, rfl⟩ := r
      cases hv.int
      by_cases h : i.natAbs.log2 < 1920
      · rw [if_pos h] at hc
        cases hc
        exact ⟨i, rfl, h, q _ H (Same.refl H) rfl⟩
      · rw [if_neg h] at hc; cases hc
    · cases hc) (by intro d z h; unfold strD at h; repeat (first | contradiction | split at h)) hg hm (by decide +kernel) ha (by decide) (by decide) he hpl
def intAD : List D → R D
  | [.int i] => .ok (.int i)
  | [.bl k] => .ok (.int (if k then 1 else 0))
  | [.str a] => match PySem.intText? a with
    | some n => if a.length ≤ 640 then .ok (.int n) else .stk
    | none => .stk
  | _ => .stk
theorem call_intA {X : Cx} : CallR X (.type "int") (fun xs H Q => ((∃ i, xs = [.int i] ∧ Q (.int i) H) ∨ ∃ k, xs = [.bl k] ∧ Q (.int (if k then 1 else 0)) H) ∨ ∃ a n, xs = [.str a] ∧ PySem.intText? a = some n ∧ a.length ≤ 640 ∧ Q (.int n) H) := by
  intro pins s σ H xs us Q I r h
  rcases h with h | h
  · exact call_int1 pins s σ H xs us Q I r h
  · exact call_int_str pins s σ H xs us Q I r h
theorem d_intA {es : List Expr} {t : TA} {fs : DEnv → R (List D)} {p : Pos} (F : Fit G S k X) (hg : S.sc.names.lookup (PySem.Str.ofString "int") = some .globalImplicit) (hm : G.mg (PySem.Str.ofString "int") = none) (ha : DA G X W own lk (e :: es) t fs)
    (he : starEach (e :: es) X.env = (false, eval e X.env) :: starEach es X.env := by rfl) (hpl : (backTo pos (starEach es X.env)).any (·.1) = false := by rfl) :
    DE G X W own lk (.Call (.Name (PySem.Str.ofString "int") p) (e :: es) [] pos) (tCB (fun xs H Q => ((∃ i, xs = [.int i] ∧ Q (.int i) H) ∨ ∃ k, xs = [.bl k] ∧ Q (.int (if k then 1 else 0)) H) ∨ ∃ a n, xs = [.str a] ∧ PySem.intText? a = some n ∧ a.length ≤ 640 ∧ Q (.int n) H) t) (callF intAD fs) :=
  d_callTy F call_intA (by
    intro H Z vs ds Q z r q
    obtain ⟨c, hc, q⟩ := q
    unfold intAD at hc
    split at hc
    · cases hc
      obtain ⟨v, u, rfl, hv, rfl⟩ := r
      cases hv.int
      exact .inl (.inl ⟨_, rfl, q _ H (Same.refl H) rfl⟩)
    · cases hc
      obtain ⟨v, u, rfl, hv, rfl⟩ := r
      cases hv.bl
      exact .inl (.inr ⟨_, rfl, q _ H (Same.refl H) rfl⟩)
    · rename_i a
      obtain ⟨v, u, rfl, hv, rfl⟩ := r
      cases hv.str
      cases hn : PySem.intText? a with
      | none => rw [hn] at hc; cases hc
      | some n =>
        rw [hn] at hc
        simp only at hc
        by_cases h : a.length ≤ 640
        · rw [if_pos h] at hc
          cases hc
          exact .inr ⟨a, n, rfl, hn, h, q _ H (Same.refl H) rfl⟩
        · rw [if_neg h] at hc; cases hc
    · cases hc) (by intro d z h; unfold intAD at h; repeat (first | contradiction | split at h)) hg hm (by decide +kernel) ha (by decide) (by decide) he hpl
end
end DL

set_option maxRecDepth 100001
set_option maxHeartbeats 1000001
namespace DL
open PySem PySem.Spec PyProof.Rows L2
section
variable {G : Cfg} {S : Sco} {k : Nat} {X : Cx} {W : WX} {own l1 l2 lk : List Nat} {to te : TE} {f g : DEnv → R D} {o e : Expr} {apos pos : Pos}
def mxI : Int → List Int → Int
  | a, [] => a
  | a, b :: r => mxI (if b > a then b else a) r
theorem mxI_ge : ∀ (r : List Int) (a : Int), a ≤ mxI a r ∧ ∀ x ∈ r, x ≤ mxI a r
  | [], a => ⟨Int.le_refl a, fun x h => nomatch h⟩
  | b :: r, a => by
    obtain ⟨h1, h2⟩ := mxI_ge r (if b > a then b else a)
    show a ≤ mxI (if b > a then b else a) r ∧ _
    refine ⟨?_, fun x hx => ?_⟩
    · have : a ≤ (if b > a then b else a) := by split <;> omega
      exact Int.le_trans this h1
    · rcases List.mem_cons.mp hx with rfl | hx
      · have : x ≤ (if x > a then x else a) := by split <;> omega
        exact Int.le_trans this h1
      · exact h2 x hx
theorem mxI_mem : ∀ (r : List Int) (a : Int), mxI a r = a ∨ mxI a r ∈ r
  | [], a => .inl rfl
  | b :: r, a => by
    show mxI (if b > a then b else a) r = a ∨ mxI (if b > a then b else a) r ∈ b :: r
    rcases mxI_mem r (if b > a then b else a) with h | h
    · by_cases hb : b > a
      · rw [if_pos hb] at h ⊢
        right
        rw [h]
        exact List.mem_cons_self
      · rw [if_neg hb] at h ⊢
        exact .inl h
    · exact .inr (List.mem_cons_of_mem _ h)
def maxD : List D → R D
  | [.lst ds] => match asInts ds with
    | some (n :: r) => .ok (.int (mxI n r))
    | _ => .stk
  | _ => .stk
theorem d_max {es : List Expr} {t : TA} {fs : DEnv → R (List D)} {p : Pos} (F : Fit G S k X) (hh : S.hot = false) (hg : S.sc.names.lookup (PySem.Str.ofString "max") = some .globalImplicit) (hm : G.mg (PySem.Str.ofString "max") = none) (ha : DA G X W own lk (e :: es) t fs)
    (he : starEach (e :: es) X.env = (false, eval e X.env) :: starEach es X.env := by rfl) (hpl : (backTo pos (starEach es X.env)).any (·.1) = false := by rfl) :
    DE G X W own [] (.Call (.Name (PySem.Str.ofString "max") p) (e :: es) [] pos) (tCB (rMax G.K) t) (callF maxD fs) :=
  (d_callB F (F.K ▸ cr_max (F.calm hh)) (by
    intro H Z vs ds Q z r q
    obtain ⟨c, hc, q⟩ := q
    unfold maxD at hc
    split at hc
    · rename_i xs
      obtain ⟨v, u, rfl, ⟨a, us, rfl, hl, na, rr⟩, rfl⟩ := r
      cases hi : asInts xs with
      | none => rw [hi] at hc; cases hc
      | some ns =>
        have := asInts_rep rr hi
        subst this
        cases ns with
        | nil => rw [hi] at hc; cases hc
        | cons n r =>
          rw [hi] at hc
          simp only at hc
          cases hc
          refine ⟨a, n :: r, rfl, SqL.of hl, Nat.zero_lt_succ _, fun m hm hle => ?_⟩
          have h1 := mxI_ge r n
          have h2 : mxI n r ∈ n :: r := (mxI_mem r n).elim (fun e => by rw [e]; exact List.mem_cons_self) (List.mem_cons_of_mem _)
          have h3 := hle _ h2
          have h4 : m ≤ mxI n r := by
            rcases List.mem_cons.mp hm with rfl | hm
            · exact h1.1
            · exact h1.2 m hm
          have : m = mxI n r := Int.le_antisymm h4 h3
          subst this
          exact q _ H (Same.refl H) rfl
    · cases hc) (by intro d z h; unfold maxD at h; repeat (first | contradiction | split at h)) hg hm (by decide +kernel) ha (by decide) (by decide) he hpl).imm0 (imm_call (by intro d c h; unfold maxD at h; repeat (first | contradiction | (cases h; rfl) | split at h)))
/-- a text in a text -/
def inSD : D → D → R D
  | .str i, .str j => .ok (.bl (!(Builtin.Str.occurrences j i 0 j.length 1).isEmpty))
  | _, _ => .stk
def ninSD : D → D → R D
  | .str i, .str j => .ok (.bl (!(!(Builtin.Str.occurrences j i 0 j.length 1).isEmpty)))
  | _, _ => .stk
theorem cr_ins : CmpRule G .In inSD (fun x y H Q => ∃ i j, x = .str i ∧ y = .str j ∧ Q (.bl (!(Builtin.Str.occurrences j i 0 j.length 1).isEmpty)) H) := ⟨fun _ _ => op_in_str, (fun H Z x y d e Q z rx ry q => by
    obtain ⟨c, hc, q⟩ := q
    unfold inSD at hc
    split at hc
    · cases hc; cases rx.str; cases ry.str; exact ⟨_, _, rfl, rfl, q _ H (Same.refl H) rfl⟩
    · cases hc), (by intro d e z h; unfold inSD at h; split at h <;> cases h), by intro d e c h; unfold inSD at h; split at h <;> cases h; exact ⟨_, rfl⟩⟩
theorem cr_nins : CmpRule G .NotIn ninSD (fun x y H Q => ∃ i j, x = .str i ∧ y = .str j ∧ Q (.bl (!(!(Builtin.Str.occurrences j i 0 j.length 1).isEmpty))) H) := ⟨fun _ _ => op_notin_str, (fun H Z x y d e Q z rx ry q => by
    obtain ⟨c, hc, q⟩ := q
    unfold ninSD at hc
    split at hc
    · cases hc; cases rx.str; cases ry.str; exact ⟨_, _, rfl, rfl, q _ H (Same.refl H) rfl⟩
    · cases hc), (by intro d e z h; unfold ninSD at h; split at h <;> cases h), by intro d e c h; unfold ninSD at h; split at h <;> cases h; exact ⟨_, rfl⟩⟩
/-- sign by sign -/
def itX (f : DEnv → R D) : DEnv → R (List D) := fun δ => (f δ).bind fun d => match d with
  | .str z => .ok (z.cps.toList.map fun c => D.str ⟨#[c]⟩)
  | _ => .stk
theorem i_str {tg : Expr} (h : DE G X W own lk e te f) : DI G X W own lk tg e (iStr te) (itX f) := by
  refine ⟨pi_str h.1, ?_⟩
  intro Z₀ α δ σ H R₀ E hX q qe ns
  unfold itX at q qe ns
  refine h.2 Z₀ α δ σ H _ E hX (fun d v H1 hf e1 r1 => ?_) (fun x H1 hf e1 => ?_) (R.notstk_bind ns)
  · rw [hf] at q ns
    simp only [R.bind_ok] at q ns
    cases d with
    | str z =>
      cases r1.str
      refine ⟨z, rfl, q _ _ H1 _ _ rfl e1 (by rw [List.length_map, Array.length_toList]; exact walk_str) (fun _ _ => True.intro) (fun Z' i d x H2 H3 hd hz kp z2 y => ?_)⟩
      obtain ⟨rfl, c, hc, rfl⟩ := y
      rw [List.getElem?_map, Array.getElem?_toList, hc] at hd
      cases hd
      exact ⟨Same.refl _, rfl⟩
    | _ => exact absurd rfl ns
  · rw [hf] at qe
    exact qe x H1 rfl e1
end
end DL

set_option maxRecDepth 100001
set_option maxHeartbeats 1000001
namespace DL
open PySem PySem.Spec PyProof.Rows L2
section
variable {G : Cfg} {S : Sco} {k : Nat} {X : Cx} {W : WX} {own l1 l2 lk : List Nat} {to te : TE} {f g : DEnv → R D} {o e v1 v2 : Expr} {rest : List Expr} {pos : Pos}
/-! ### f'..' -/
def fmtD : D → R D
  | .str y => if y.length ≤ sizeLine then .ok (.str y) else .stk
  | .int i => if i.natAbs.log2 < 1920 then .ok (.str (toString i)) else .stk
  | _ => .stk
theorem d_fmt (h : DE G X W own lk e te f) : DE G X W own lk (.FormattedValue e (-1) none pos) (tFmt te) (u1 fmtD f) :=
  ⟨pe_fmt h.1, SE.one h.2 (fun H Z x d Q z r q => by
    obtain ⟨c, hc, q⟩ := q
    unfold fmtD at hc
    split at hc
    · rename_i y
      cases r.str
      by_cases hy : y.length ≤ sizeLine
      · rw [if_pos hy] at hc; cases hc; exact .inl ⟨y, rfl, hy, q _ H (Same.refl H) rfl⟩
      · rw [if_neg hy] at hc; cases hc
    · rename_i i
      cases r.int
      by_cases hy : i.natAbs.log2 < 1920
      · rw [if_pos hy] at hc; cases hc; exact .inr ⟨i, rfl, hy, q _ H (Same.refl H) rfl⟩
      · rw [if_neg hy] at hc; cases hc
    · cases hc) (fun d z h => by unfold fmtD at h; repeat (first | contradiction | split at h))⟩
def fsD : List (DEnv → R D) → PySem.Str → DEnv → R D
  | [], acc, _ => .ok (.str acc)
  | f :: fs, acc, δ => (f δ).bind fun d => match d with
    | .str y => if (acc ++ y).length ≤ sizeLine then fsD fs (acc ++ y) δ else .stk
    | _ => .stk
inductive DJ (G : Cfg) (X : Cx) (W : WX) (own : List Nat) : List Expr → List TE → List (DEnv → R D) → Prop
  | nil : DJ G X W own [] [] []
  | cons {e : Expr} {t : TE} {f : DEnv → R D} {lk : List Nat} {es : List Expr} {ts : List TE} {fs : List (DEnv → R D)} (h : DE G X W own lk e t f) (r : DJ G X W own es ts fs) : DJ G X W own (e :: es) (t :: ts) (f :: fs)
theorem DJ.pj {es : List Expr} {ts : List TE} {fs : List (DEnv → R D)} (h : DJ G X W own es ts fs) : PJ X es ts := by
  induction h with
  | nil => exact .nil
  | cons h r ih => exact .cons h.1 ih
theorem DJ.se {es : List Expr} {ts : List TE} {fs : List (DEnv → R D)} (h : DJ G X W own es ts fs) : ∀ acc : PySem.Str, SE G W own [] (fun σ H Q => tJs ts acc σ H fun out H1 => Q (.str out) H1) (fsD fs acc) := by
  induction h with
  | nil => exact fun acc Z₀ α δ σ H Q E hX q qe ns => q (.str acc) (.str acc) H rfl (Same.refl H) rfl
  | cons h r ih =>
    rename_i e t f lk es ts fs
    intro acc Z₀ α δ σ H Q E hX q qe ns
    show t σ H _
    unfold fsD at q qe ns
    refine h.2 Z₀ α δ σ H _ E hX (fun d v H1 hf e1 r1 => ?_) (fun x H1 hf e1 => ?_) (R.notstk_bind ns)
    · rw [hf] at q qe ns
      simp only [R.bind_ok] at q qe ns
      cases d with
      | str y =>
        cases r1.str
        simp only at q qe ns
        by_cases hy : (acc ++ y).length ≤ sizeLine
        · rw [if_pos hy] at q qe ns
          exact ⟨y, rfl, hy, ih (acc ++ y) Z₀ α δ σ H1 Q (E.ext e1) hX (fun d v H' hd e2 => q d v H' hd (e1.trans e2)) (fun x H' hx e2 => qe x H' hx (e1.trans e2)) ns⟩
        · rw [if_neg hy] at ns; exact absurd rfl ns
      | _ => exact absurd rfl ns
    · rw [hf] at qe
      exact qe x H1 rfl e1
theorem d_fstr {ts : List TE} {fs : List (DEnv → R D)} (h : DJ G X W own (v1 :: v2 :: rest) ts fs) : DE G X W own [] (.JoinedStr (v1 :: v2 :: rest) pos) (fun σ H Q => tJs ts Str.empty σ H fun out H1 => Q (.str out) H1) (fsD fs Str.empty) := ⟨pe_joined h.pj, h.se _⟩
end
end DL

set_option maxRecDepth 100001
set_option maxHeartbeats 1000001
namespace DL
open PySem PySem.Spec PyProof.Rows L2
section
variable {G : Cfg} {S : Sco} {k : Nat} {X : Cx} {W : WX} {fr : Bool} {own own1 own' ol ox lk : List Nat} {te : TE} {f : DEnv → R D} {h : DEnv → Fl} {j : Nat} {u : TS} {st : Stmt} {rest : List Stmt}
/-- name = e; .. where something is known of the slots (an except suite): the name is another slot -/
theorem SS.setThen (hxj : ∀ σ v, G.xi σ → G.xi (σ.set j (some v))) (he : SE G W own lk te f) (hl : left own1 own (j :: lk) = true) (hx : sub ox own = true) (h2 : SS G W fr own1 own' ol ox u h) : SS G W fr own own' ol ox (tSeq (tAsg te (gName j)) u) (seqF (DL.setF j f) h) := by
  intro Z₀ α δ σ H Dn E hX qn qr qb qc qe ns
  unfold seqF DL.setF withF at qn qr qb qc qe ns
  refine he Z₀ α δ σ H _ E hX (fun d v H1 hf e1 r1 => ?_) (fun x H1 hf e1 => ?_) (fun hf => by rw [hf] at ns; exact ns rfl)
  · rw [hf] at qn qr qb qc qe ns
    have hm : ∀ i ∈ own1, i ∈ minus own lk := fun i hi => minus_sub2 (fun z hz => List.mem_cons_of_mem _ hz) i (left_mem hl i hi)
    have ho : ∀ i ∈ own1, i ∈ own := fun i hi => minus_sub i (hm i hi)
    have hj : j ∉ own1 := fun q => (mem_minus.mp (left_mem hl j q)).2 List.mem_cons_self
    by_cases hlen : j < δ.length
    · simp only [if_pos hlen] at qn qr qb qc qe ns
      have E1 := (E.ext e1).weak ho
      have s : Step α own H α own1 H1 := .ext e1 ho
      exact h2 Z₀ α _ _ H1 Dn (E1.put hlen hj (r1.less ((E.ext e1).zsub minus_sub) (ZZ.mono hm))) (hxj _ _ hX) (fun δ2 α2 σ2 H2 hh E2 s2 => qn δ2 α2 σ2 H2 hh E2 (s.trans s2)) (fun d v H2 hh kp r => qr d v H2 hh (s.keeps (own' := []) kp) (s.ret r))
        (fun δ2 α2 σ2 H2 hh E2 s2 => qb δ2 α2 σ2 H2 hh E2 (s.trans s2)) (fun δ2 α2 σ2 H2 hh E2 s2 => qc δ2 α2 σ2 H2 hh E2 (s.trans s2)) (fun x δ2 α2 σ2 H2 hh E2 s2 => qe x δ2 α2 σ2 H2 hh E2 (s.trans s2)) ns
    · simp only [if_neg hlen] at ns; exact absurd rfl ns
  · rw [hf] at qe
    exact qe x δ α σ H1 rfl ((E.ext e1).weak (sub_mem hx)) (.ext e1 (sub_mem hx))
theorem ss_setThen (hxj : ∀ σ v, G.xi σ → G.xi (σ.set j (some v))) (h1 : PS X st (tAsg te (gName j))) (he : SE G W own lk te f) (hl : left own1 own (j :: lk) = true) (hx : sub ox own = true) (h2 : DSs G X W fr own1 own' ol ox rest u h) :
    DSs G X W fr own own' ol ox (st :: rest) (tSeq (tAsg te (gName j)) u) (seqF (setF j f) h) := ⟨pss_cons h1 h2.1, SS.setThen hxj he hl hx h2.2⟩
theorem held_set {i : Nat} {a : Addr} (hij : j ≠ i) : ∀ σ v, (G.held i a).xi σ → (G.held i a).xi (σ.set j (some v)) := fun σ v hq => by
  show (σ.set j (some v))[i]? = _
  rw [List.getElem?_set_ne hij]
  exact hq
end
end DL

set_option maxRecDepth 100001
set_option maxHeartbeats 1000001
namespace DL
open PySem PySem.Spec PyProof.Rows L2

/-! ### tuples and lists whose parts are new, too -/
mutual
/-- no part that would be owned -/
def noN : D → Bool
  | .nst _ => false
  | .ndc _ _ => false
  | .tup ds => noNL ds
  | _ => true
def noNL : List D → Bool
  | [] => true
  | d :: ds => noN d && noNL ds
end
section
variable {K : PySem.W.Frag} {H H' : Hp} {Z Z' : Addr → Prop}
mutual
theorem Own.of : ∀ (d : D) (v : V), noN d = true → Rep K H Z d v → Own K H Z d v []
  | .nst _, _, n, _ => nomatch n
  | .ndc _ _, _, n, _ => nomatch n
  | .tup ds, _, n, ⟨a, vs, e, t, r⟩ => ⟨a, vs, e, t, OwnL.of ds vs n r⟩
  | .non, _, _, h => ⟨rfl, h⟩
  | .bl _, _, _, h => ⟨rfl, h⟩
  | .int _, _, _, h => ⟨rfl, h⟩
  | .str _, _, _, h => ⟨rfl, h⟩
  | .lst _, _, _, h => ⟨rfl, h⟩
  | .scr _, _, _, h => ⟨rfl, h⟩
  | .dic _ _, _, _, h => ⟨rfl, h⟩
  | .obj _ _ _, _, _, h => ⟨rfl, h⟩
theorem OwnL.of : ∀ (ds : List D) (vs : List V), noNL ds = true → RepL K H Z ds vs → OwnL K H Z ds vs []
  | [], _, _, h => ⟨h, rfl⟩
  | d :: ds, _, n, ⟨v, r, e, h1, h2⟩ => by
    have n' : (noN d && noNL ds) = true := n
    rw [Bool.and_eq_true] at n'
    exact ⟨v, r, [], [], e, rfl, Own.of d v n'.1 h1, OwnL.of ds r n'.2 h2⟩
end
mutual
theorem Own.flat : ∀ (d : D) (v : V) (φ : List Addr), noN d = true → Own K H Z d v φ → φ = [] ∧ Rep K H Z d v
  | .nst _, _, _, n, _ => nomatch n
  | .ndc _ _, _, _, n, _ => nomatch n
  | .tup ds, _, φ, n, ⟨a, vs, e, t, r⟩ => ⟨(OwnL.flat ds vs φ n r).1, a, vs, e, t, (OwnL.flat ds vs φ n r).2⟩
  | .non, _, _, _, h => h
  | .bl _, _, _, _, h => h
  | .int _, _, _, _, h => h
  | .str _, _, _, _, h => h
  | .lst _, _, _, _, h => h
  | .scr _, _, _, _, h => h
  | .dic _ _, _, _, _, h => h
  | .obj _ _ _, _, _, _, h => h
theorem OwnL.flat : ∀ (ds : List D) (vs : List V) (φ : List Addr), noNL ds = true → OwnL K H Z ds vs φ → φ = [] ∧ RepL K H Z ds vs
  | [], _, _, _, h => ⟨h.2, h.1⟩
  | d :: ds, _, _, n, ⟨v, r, ψ, χ, e, p, h1, h2⟩ => by
    have n' : (noN d && noNL ds) = true := n
    rw [Bool.and_eq_true] at n'
    have a := Own.flat d v ψ n'.1 h1
    have b := OwnL.flat ds r χ n'.2 h2
    exact ⟨by rw [p, a.1, b.1]; rfl, v, r, e, a.2, b.2⟩
end
theorem OwnL.len : ∀ {ds : List D} {vs : List V} {φ : List Addr}, OwnL K H Z ds vs φ → vs.length = ds.length
  | [], _, _, h => by rw [h.1]; rfl
  | d :: ds, _, _, ⟨v, r, ψ, χ, e, p, h1, h2⟩ => by rw [e]; simp [OwnL.len h2]
end
/-- a new object as a part -/
def nestD : D → R D
  | .lst ds => if noNL ds = true then .ok (.nst ds) else .stk
  | .nst ds => .ok (.nst ds)
  | .dic ks ds => if noNL ds = true then .ok (.ndc ks ds) else .stk
  | .ndc ks ds => .ok (.ndc ks ds)
  | _ => .stk
/-- a part as an object of its own -/
def topD : D → R D
  | .nst ds => .ok (if noNL ds = true then .lst ds else .nst ds)
  | .ndc ks ds => .ok (if noNL ds = true then .dic ks ds else .ndc ks ds)
  | .non => .ok .non
  | .bl b => .ok (.bl b)
  | .int i => .ok (.int i)
  | .str x => .ok (.str x)
  | _ => .stk
section
variable {K : PySem.W.Frag} {H H' : Hp} {Z Z' : Addr → Prop}
theorem Top.nest {d e : D} {v : V} {φ : List Addr} (t : Top K H Z d v φ) (h : nestD d = .ok e) : Own K H Z e v φ := by
  unfold nestD at h
  split at h
  · split at h
    · rename_i n; cases h
      obtain ⟨a, vs, e1, p, g, r⟩ := t
      exact ⟨a, vs, [], e1, p, g, OwnL.of _ _ n r⟩
    · cases h
  · cases h; exact t
  · split at h
    · rename_i n; cases h
      obtain ⟨a, vs, o, e1, p, g, k, r⟩ := t
      exact ⟨a, vs, o, [], e1, p, g, k, OwnL.of _ _ n r⟩
    · cases h
  · cases h; exact t
  · cases h
theorem Own.top {d e : D} {v : V} {φ : List Addr} (t : Own K H Z d v φ) (h : topD d = .ok e) : Top K H Z e v φ := by
  unfold topD at h
  split at h
  · cases h
    split
    · rename_i n
      obtain ⟨a, vs, ψ, e1, p, g, r⟩ := t
      have f := OwnL.flat _ _ _ n r
      exact ⟨a, vs, e1, by rw [p, f.1], g, f.2⟩
    · exact t
  · cases h
    split
    · rename_i n
      obtain ⟨a, vs, o, ψ, e1, p, g, k, r⟩ := t
      have f := OwnL.flat _ _ _ n r
      exact ⟨a, vs, o, e1, by rw [p, f.1], g, k, f.2⟩
    · exact t
  · cases h; exact t
  · cases h; exact t
  · cases h; exact t
  · cases h; exact t
  · cases h
end
section
variable {G : Cfg} {S : Sco} {k : Nat} {X : Cx} {W : WX} {own lk l1 l2 : List Nat} {pos : Pos} {e : Expr} {es : List Expr} {te : TE} {t : TA} {f : DEnv → R D} {fs : DEnv → R (List D)}
/-- a new object or a tuple with new parts -/
def SN (G : Cfg) (W : WX) (own lk : List Nat) (t : TE) (f : DEnv → R D) : Prop := ∀ (Z₀ : Addr → Prop) (α : Nat → List Addr) (δ : DEnv) (σ : L2.St) (H : Hp) (Q : VK), EnvOk G.K Z₀ α own δ σ H → G.xi σ →
  (∀ d v φ H', f δ = .ok d → Ext H H' → NewT G.K H H' (ZZ Z₀ α (minus own lk)) d v φ → Q v H') →
  (∀ x H', f δ = .err x → Ext H H' → W (G.cv x.cls) none σ H') → f δ ≠ .stk → t σ H Q
def DN (G : Cfg) (X : Cx) (W : WX) (own lk : List Nat) (e : Expr) (t : TE) (f : DEnv → R D) : Prop := PE X e t ∧ SN G W own lk t f
/-- arguments with new parts -/
def SM (G : Cfg) (W : WX) (own lk : List Nat) (t : TA) (f : DEnv → R (List D)) : Prop := ∀ (Z₀ : Addr → Prop) (α : Nat → List Addr) (δ : DEnv) (σ : L2.St) (H : Hp) (Q : List V → Hp → Prop), EnvOk G.K Z₀ α own δ σ H → G.xi σ →
  (∀ ds vs φ H', f δ = .ok ds → Ext H H' → (∀ a ∈ φ, H a = none) → φ.Nodup → OwnL G.K H' (fun b => ZZ Z₀ α (minus own lk) b ∨ b ∈ φ) ds vs φ → Q vs H') →
  (∀ x H', f δ = .err x → Ext H H' → W (G.cv x.cls) none σ H') → f δ ≠ .stk → t σ H Q
def DM (G : Cfg) (X : Cx) (W : WX) (own lk : List Nat) (es : List Expr) (t : TA) (f : DEnv → R (List D)) : Prop := PA X es t ∧ SM G W own lk t f
theorem m_nil : DM G X W own [] [] tNil nilA := ⟨pa_nil, fun Z₀ α δ σ H Q E hX q qe ns => q [] [] [] H rfl (Same.refl H) (fun _ h => nomatch h) .nil ⟨rfl, rfl⟩⟩
/-- an argument that owns nothing -/
def flatE (f : DEnv → R D) : DEnv → R D := fun δ => (f δ).bind fun d => if noN d = true then .ok d else .stk
def newE (f : DEnv → R D) : DEnv → R D := fun δ => (f δ).bind nestD
theorem m_consE (ha : DE G X W own l1 e te f) (hb : DM G X W own l2 es t fs) (he : starEach (e :: es) X.env = (false, eval e X.env) :: starEach es X.env := by rfl) : DM G X W own (l1 ++ l2) (e :: es) (tCons te t) (consA (flatE f) fs) := by
  refine ⟨pa_cons ha.1 hb.1 he, ?_⟩
  intro Z₀ α δ σ H Q E hX q qe ns
  unfold consA flatE at q qe ns
  refine ha.2 Z₀ α δ σ H _ E hX (fun d v H1 hf e1 r1 => ?_) (fun x H1 hf e1 => ?_) (fun h => by rw [h] at ns; exact ns rfl)
  · rw [hf] at q qe ns
    simp only [R.bind_ok] at q qe ns
    by_cases hn : noN d = true
    · rw [if_pos hn] at q qe ns
      simp only [R.bind_ok] at q qe ns
      refine hb.2 Z₀ α δ σ H1 _ (E.ext e1) hX (fun ds vs φ H2 hg e2 fr nd o => ?_) (fun x H2 hg e2 => ?_) (fun h => by rw [h] at ns; exact ns rfl)
      · rw [hg] at q
        refine q (d :: ds) (v :: vs) φ H2 rfl (e1.trans e2) (fun a ha => e1.free (fr a ha)) nd ⟨v, vs, [], φ, rfl, rfl, Own.of d v hn ?_, ?_⟩
        · exact Rep.map (.step (fun b hb => hb.imp (ZZ.mono (fun i hi => minus_l hi) b) (fr b)) (.of e2)) _ _ r1
        · exact OwnL.map (.of .refl fun b hb => hb.imp (ZZ.mono (fun i hi => minus_r hi) b) id) _ _ _ (fun _ _ _ h => h) o
      · rw [hg] at qe
        exact qe x H2 rfl (e1.trans e2)
    · rw [if_neg hn] at ns; exact absurd rfl ns
  · rw [hf] at qe
    exact qe x H1 rfl e1
theorem m_consF (ha : DF G X W own l1 e te f) (hb : DM G X W own l2 es t fs) (he : starEach (e :: es) X.env = (false, eval e X.env) :: starEach es X.env := by rfl) : DM G X W own (l1 ++ l2) (e :: es) (tCons te t) (consA (newE f) fs) := by
  refine ⟨pa_cons ha.1 hb.1 he, ?_⟩
  intro Z₀ α δ σ H Q E hX q qe ns
  unfold consA newE at q qe ns
  refine ha.2 Z₀ α δ σ H _ E hX (fun d v ψ H1 hf e1 n => ?_) (fun x H1 hf e1 => ?_) (fun h => by rw [h] at ns; exact ns rfl)
  · rw [hf] at q qe ns
    simp only [R.bind_ok] at q qe ns
    cases hn : nestD d with
    | err x => unfold nestD at hn; repeat (first | contradiction | split at hn)
    | stk => rw [hn] at ns; exact absurd rfl ns
    | ok d' =>
      rw [hn] at q qe ns
      simp only [R.bind_ok] at q qe ns
      have own1 := n.top.nest hn
      have E1 := E.guard n.free e1 n.top.mut
      refine hb.2 _ α δ σ H1 _ E1 hX (fun ds vs φ H2 hg e2 fr nd o => ?_) (fun x H2 hg e2 => ?_) (fun h => by rw [h] at ns; exact ns rfl)
      · rw [hg] at q
        refine q (d' :: ds) (v :: vs) (ψ ++ φ) H2 rfl (e1.trans e2) (fun a ha => ?_) ?_ ⟨v, vs, ψ, φ, rfl, rfl, ?_, ?_⟩
        · rcases List.mem_append.mp ha with h | h
          · exact n.free a h
          · exact e1.free (fr a h)
        · refine List.nodup_append.mpr ⟨n.nd, nd, fun a h1 b h2 e => ?_⟩
          subst e
          obtain ⟨o, g, _⟩ := n.top.mut a h1
          rw [fr a h2] at g; cases g
        · refine Own.map (.step (fun b hb => ?_) (.of e2)) _ _ _ (fun a _ o h => e2 a o h) own1
          rcases hb with hb | hb
          · exact .inl (.inl (ZZ.mono (fun i hi => minus_l hi) b hb))
          · rcases List.mem_append.mp hb with h | h
            · exact .inl (.inr h)
            · exact .inr (fr b h)
        · refine OwnL.map (.of .refl fun b hb => ?_) _ _ _ (fun _ _ _ h => h) o
          rcases hb with hb | hb
          · exact .inl (ZZ.guard b (.inl (ZZ.mono (fun i hi => minus_r hi) b hb)))
          · rcases List.mem_append.mp hb with h | h
            · exact .inl (ZZ.guard b (.inr h))
            · exact .inr h
      · rw [hg] at qe
        exact qe x H2 rfl (e1.trans e2)
  · rw [hf] at qe
    exact qe x H1 rfl e1
/-- a tuple with new parts -/
theorem n_tup {x1 : Nat} (h : DM G X W own l1 es t fs) : DN G X W own l1 (.Tuple es x1 pos) (tTup t) (tupA fs) := by
  refine ⟨pe_tup h.1, ?_⟩
  intro Z₀ α δ σ H Q E hX q qe ns
  unfold tupA at q qe ns
  refine h.2 Z₀ α δ σ H _ E hX (fun ds vs φ H1 hf e1 fr nd o => ?_) (fun x H1 hf e1 => ?_) (fun h => by rw [h] at ns; exact ns rfl)
  · rw [hf] at q ns
    simp only [R.bind_ok] at q ns
    by_cases hz : ds.length ≤ sizeLine
    · rw [if_pos hz] at q
      refine ⟨by rw [o.len]; exact hz, fun p hp => q _ _ φ _ rfl (e1.trans (ext_upd hp)) ⟨fr, nd, p, vs, rfl, .inl ⟨.inl upd_same, ?_⟩, ?_⟩⟩
      · rintro (h | h)
        · exact ((E.ext e1).zsub minus_sub).new hp h
        · obtain ⟨o', g, _⟩ := OwnL.mut _ _ _ o p h
          rw [hp] at g; cases g
      · exact OwnL.map (.of (.of (ext_upd hp)) fun _ q => q) _ _ _ (fun a _ o h => ext_upd hp a o h) o
    · rw [if_neg hz] at ns; exact absurd rfl ns
  · rw [hf] at qe
    exact qe x H1 rfl e1
def nstA (g : DEnv → R (List D)) : DEnv → R D := fun δ => (g δ).bind fun ds => if ds.length ≤ sizeLine then .ok (.nst ds) else .stk
/-- a list of new parts -/
theorem n_lst (h : DM G X W own l1 es t fs) : DF G X W own l1 (.List es pos) (tLst t) (nstA fs) := by
  refine ⟨pe_lst h.1, ?_⟩
  intro Z₀ α δ σ H Q E hX q qe ns
  unfold nstA at q qe ns
  refine h.2 Z₀ α δ σ H _ E hX (fun ds vs φ H1 hf e1 fr nd o => ?_) (fun x H1 hf e1 => ?_) (fun h => by rw [h] at ns; exact ns rfl)
  · rw [hf] at q ns
    simp only [R.bind_ok] at q ns
    by_cases hz : ds.length ≤ sizeLine
    · rw [if_pos hz] at q
      refine ⟨by rw [o.len]; exact hz, fun p hp => q _ _ (p :: φ) _ rfl (e1.trans (ext_upd hp)) ⟨fun a ha => ?_, ?_, p, vs, φ, rfl, rfl, upd_same, ?_⟩⟩
      · rcases List.mem_cons.mp ha with rfl | ha
        · exact e1.free hp
        · exact fr a ha
      · refine List.nodup_cons.mpr ⟨fun h => ?_, nd⟩
        obtain ⟨o', g, _⟩ := OwnL.mut _ _ _ o p h
        rw [hp] at g; cases g
      · refine OwnL.map (.step (fun b hb => ?_) (.of (ext_upd hp))) _ _ _ (fun a _ o h => ext_upd hp a o h) o
        rcases hb with hb | hb
        · exact .inl (.inl hb)
        · rcases List.mem_cons.mp hb with rfl | hb
          · exact .inr hp
          · exact .inl (.inr hb)
    · rw [if_neg hz] at ns; exact absurd rfl ns
  · rw [hf] at qe
    exact qe x H1 rfl e1
/-- a new object, maybe in a tuple, by a call -/
def isNew : D → Bool
  | .tup ds => true
  | .lst _ => true
  | .nst _ => true
  | .dic _ _ => true
  | .ndc _ _ => true
  | .obj _ _ _ => true
  | .non => true
  | .bl _ => true
  | .int _ => true
  | .str _ => true
  | .scr _ => false
theorem imm_noN_aux : (∀ d : D, imm d = true → noN d = true) ∧ (∀ ds : List D, immL ds = true → noNL ds = true) := by
  constructor
  · intro d
    exact D.rec (motive_1 := fun d => imm d = true → noN d = true) (motive_2 := fun ds => immL ds = true → noNL ds = true)
      (fun _ => rfl) (fun _ _ => rfl) (fun _ _ => rfl) (fun _ _ => rfl) (fun ds ih h => ih h) (fun _ _ h => nomatch h) (fun _ _ h => nomatch h) (fun _ _ h => nomatch h) (fun _ _ _ _ h => nomatch h) (fun _ _ _ _ h => nomatch h) (fun _ _ _ _ h => nomatch h)
      (fun _ => rfl) (fun d ds h1 h2 h => by
        have h' : (imm d && immL ds) = true := h
        rw [Bool.and_eq_true] at h'
        show (noN d && noNL ds) = true
        rw [h1 h'.1, h2 h'.2]; rfl) d
  · intro d
    exact D.rec_1 (motive_1 := fun d => imm d = true → noN d = true) (motive_2 := fun ds => immL ds = true → noNL ds = true)
      (fun _ => rfl) (fun _ _ => rfl) (fun _ _ => rfl) (fun _ _ => rfl) (fun ds ih h => ih h) (fun _ _ h => nomatch h) (fun _ _ h => nomatch h) (fun _ _ h => nomatch h) (fun _ _ _ _ h => nomatch h) (fun _ _ _ _ h => nomatch h) (fun _ _ _ _ h => nomatch h)
      (fun _ => rfl) (fun d ds h1 h2 h => by
        have h' : (imm d && immL ds) = true := h
        rw [Bool.and_eq_true] at h'
        show (noN d && noNL ds) = true
        rw [h1 h'.1, h2 h'.2]; rfl) d
theorem NewT.imm {K : PySem.W.Frag} {H H' : Hp} {Z : Addr → Prop} {d : D} {v : V} (h : imm d = true) (r : Rep K H' Z d v) : NewT K H H' Z d v [] := by
  have r' : Rep K H' (fun b => Z b ∨ b ∈ ([] : List Addr)) d v := r.ls fun b hb => hb.elim id fun h => nomatch h
  refine ⟨(fun _ h => nomatch h), List.nodup_nil, ?_⟩
  cases d with
  | tup ds => exact Own.of _ _ (imm_noN_aux.1 _ h) r'
  | non => exact ⟨rfl, r'⟩
  | bl _ => exact ⟨rfl, r'⟩
  | int _ => exact ⟨rfl, r'⟩
  | str _ => exact ⟨rfl, r'⟩
  | _ => exact nomatch h
theorem NewT.less {K : PySem.W.Frag} {H1 H' : Hp} {Z Z' : Addr → Prop} {d : D} {v : V} {φ : List Addr} (n : NewT K H1 H' Z d v φ) (z : ∀ b, Z' b → Z b) : NewT K H1 H' Z' d v φ := ⟨n.free, n.nd, n.top.less fun b hb => hb.imp (z b) id⟩
theorem n_call {kf n : Nat} {x : PySem.Str} {p : Pos} {Φ : List D → R D} (F : Fit G S k X) (tk : Takes X W) (C : FnD G kf x n true Φ) (hk : kf ≤ k) (hg : S.sc.names.lookup x = some .globalImplicit) (ha : DA G X W own lk (e :: es) t fs) (hl : (e :: es).length = n)
    (hdb : (x == ("__debug__" : PySem.Str)) = false := by decide) (he : starEach (e :: es) X.env = (false, eval e X.env) :: starEach es X.env := by rfl) (hpl : (backTo pos (starEach es X.env)).any (·.1) = false := by rfl)
    (hlen : ∀ δ ds, fs δ = .ok ds → ds.length = n) (hh : S.hot = false := by rfl) :
    DN G X W own lk (.Call (.Name x p) (e :: es) [] pos) (tCallS (spD G n true Φ) (WE W) t) (callF Φ fs) := by
  refine ⟨(d_call F tk C hk hg ha hl hdb he hpl hlen hh).1, ?_⟩
  intro Z₀ α δ σ H Q E hX q qe ns
  unfold callF at q qe ns
  refine ha.2 Z₀ α δ σ H _ E hX (fun ds vs H1 hf e1 r1 => ?_) (fun x H1 hf e1 => ?_) (R.notstk_bind ns)
  · rw [hf] at q qe ns
    simp only [R.bind_ok] at q qe ns
    have z : ZOk H1 (ZZ Z₀ α (minus own lk)) := (E.ext e1).zsub minus_sub
    refine ⟨_, ds, hlen δ ds hf, z, r1, fun d v H' hd e2 r2 => ?_, fun x H' hx e2 => qe x H' hx (e1.trans e2), ns⟩
    rcases r2 with ⟨_, φ, n⟩ | ⟨_, hi, r⟩ | ⟨hf, _⟩
    · exact q d v φ H' hd (e1.trans e2) (n.pre e1)
    · exact q d v [] H' hd (e1.trans e2) (.imm hi r)
    · cases hf
  · rw [hf] at qe
    exact qe x H1 rfl e1
end
section
variable {G : Cfg} {S : Sco} {k : Nat} {X : Cx} {W : WX} {fr : Bool} {own own' ol ox lk : List Nat} {pos pos' : Pos} {e : Expr} {te : TE} {f : DEnv → R D} {x y : PySem.Str} {i j : Nat}
/-- return of a tuple with new parts -/
theorem s_retT (he : DN G X W own lk e te f) (hfr : fr = true) (hx : sub ox own = true) : DS G X W fr own own' ol ox (.Return (some e) pos) (tRet te) (retF f) := by
  refine ⟨ps_ret he.1, ?_⟩
  intro Z₀ α δ σ H Dn E hX qn qr qb qc qe ns
  unfold retF withF at qn qr qb qc qe ns
  refine he.2 Z₀ α δ σ H _ E hX (fun d v φ H1 hf e1 n => ?_) (fun x H1 hf e1 => ?_) (fun hf => by rw [hf] at ns; exact ns rfl)
  · rw [hf] at qr
    exact qr d _ H1 rfl (.of e1) (.inl ⟨hfr, φ, fun a ha => .inr (n.free a ha), n.nd, (n.less (Z' := Z₀) fun b hb => .inl hb).top⟩)
  · rw [hf] at qe
    exact qe x δ α σ H1 rfl ((E.ext e1).weak (sub_mem hx)) (.ext e1 (sub_mem hx))
/-- a, b = e: b owns its part behind it -/
def unpF (i j : Nat) (f : DEnv → R D) : DEnv → Fl := withF f fun d δ => match d with
  | .tup [a, b] => if i < δ.length ∧ j < δ.length then (match topD b with | .ok b' => .nx ((δ.set i (some a)).set j (some b')) | _ => .stk) else .stk
  | _ => .stk
theorem s_unp {px py pt : Pos} {kt : Nat} (F : Fit G S k X) (hN : S.N.Nodup) (hi : S.N[i]? = some x) (hj : S.N[j]? = some y) (hij : i ≠ j) (hv : L2.Loc S.sc x) (hw' : L2.Loc S.sc y) (hf : S.fn x = true ∨ S.sc.names.lookup x = some .local) (hf' : S.fn y = true ∨ S.sc.names.lookup y = some .local)
    (he : DN G X W own lk e te f) (hl : left own' own (i :: j :: lk) = true) (hx : sub ox own = true)
    (hs : swapsWithSole [.Tuple [.Name x px, .Name y py] kt pt] e pos.line X.env = pure false := by rfl) (hw : swappedStores [.Tuple [.Name x px, .Name y py] kt pt] e X.env = pure none := by rfl) (h1 : (assignEach [.Tuple [.Name x px, .Name y py] kt pt] X.env).map (·.2) = [assign (.Tuple [.Name x px, .Name y py] kt pt) X.env] := by rfl)
    (hst1 : (assignEach [.Name y py] X.env).map (·.2) = assign (.Name y py) X.env :: (assignEach [] X.env).map (·.2) := by rfl) (hst2 : (assignEach [.Name x px, .Name y py] X.env).map (·.2) = assign (.Name x px) X.env :: (assignEach [.Name y py] X.env).map (·.2) := by rfl)
    (hn : (assignEach [.Name x px, .Name y py] X.env).length = 2 := by rfl) (hst : (assignEach [.Name x px, .Name y py] X.env).findIdx? (·.1) = none := by rfl) (hh : S.hot = false := by rfl) :
    DS G X W fr own (j :: own') ol ox (.Assign [.Tuple [.Name x px, .Name y py] kt pt] e pos) (tAsg te (gTup G.K 2 (gCons (gName i) (gCons (gName j) gNil)))) (unpF i j f) := by
  refine ⟨ps_asg he.1 (F.K ▸ pg_tup (F.calm hh) (pgs_cons (pg_name (by rw [F.N]; exact hN) (by rw [F.N]; exact hi) (by rw [F.sc]; exact hv) (by rw [F.fn, F.sc]; exact hf)) (pgs_cons (pg_name (by rw [F.N]; exact hN) (by rw [F.N]; exact hj) (by rw [F.sc]; exact hw') (by rw [F.fn, F.sc]; exact hf')) pgs_nil hst1) hst2) hn hst) hs hw h1, ?_⟩
  intro Z₀ α δ σ H Dn E hX qn qr qb qc qe ns
  unfold unpF withF at qn qr qb qc qe ns
  refine he.2 Z₀ α δ σ H _ E hX (fun d v φ H1 hf e1 n => ?_) (fun x H1 hf e1 => ?_) (fun hf => by rw [hf] at ns; exact ns rfl)
  · rw [hf] at qn ns
    simp only at qn ns
    have hm : ∀ z ∈ own', z ∈ minus own lk := fun z hz => minus_sub2 (fun w hw => List.mem_cons_of_mem _ (List.mem_cons_of_mem _ hw)) z (left_mem hl z hz)
    have ho : ∀ z ∈ own', z ∈ own := fun z hz => minus_sub z (hm z hz)
    have hi' : i ∉ own' := fun q => (mem_minus.mp (left_mem hl i q)).2 List.mem_cons_self
    have hj' : j ∉ own' := fun q => (mem_minus.mp (left_mem hl j q)).2 (List.mem_cons_of_mem _ List.mem_cons_self)
    split at ns
    · rename_i a b
      simp only at qn
      by_cases hlen : i < δ.length ∧ j < δ.length
      · rw [if_pos hlen] at qn ns
        cases hb : topD b with
        | ok b' =>
          rw [hb] at qn
          simp only at qn
          obtain ⟨fr, nd, p, vs, rfl, t, o⟩ := n
          obtain ⟨va, r1, ψ, χ1, rfl, rfl, oa, o⟩ := o
          obtain ⟨vb, r2, χ, χ2, rfl, rfl, ob, o⟩ := o
          obtain ⟨rfl, rfl⟩ := o
          have nd' := List.nodup_append.mp nd
          rw [List.append_nil] at nd'
          have nw : New G.K H H1 (ZZ Z₀ α own') b' vb χ := ⟨fun c hc => fr c (by simp [hc]), nd'.2.1, (ob.top hb).less fun c hc => hc.imp (ZZ.mono hm c) fun h => by simp [h]⟩
          have E2 := (E.weak ho).putOwn hlen.2 hj' e1 nw
          have ra : Rep G.K H1 (ZZ Z₀ (fun z => if z = j then χ else α z) (j :: own')) a va := Own.rep (fun c hc => by
            rcases hc with hc | ⟨z, hz, hc⟩
            · exact .inl (.inl hc)
            · rcases List.mem_cons.mp hz with rfl | hz
              · exact .inr (by simp only [↓reduceIte] at hc; simp [hc])
              · simp only [if_neg (fun (q : z = j) => hj' (q ▸ hz))] at hc
                exact .inl (.inr ⟨z, hm z hz, hc⟩)) a va ψ (fun c hc q => by
            rcases q with q | ⟨z, hz, q⟩
            · exact E.z0.new (fr c (by simp [hc])) q
            · rcases List.mem_cons.mp hz with rfl | hz
              · simp only [↓reduceIte] at q
                exact nd'.2.2 c hc c q rfl
              · simp only [if_neg (fun (w : z = j) => hj' (w ▸ hz))] at q
                exact (E.clear fr z (ho z hz) c q) (by simp [hc])) oa
          have hi2 : i ∉ j :: own' := fun q => by
            rcases List.mem_cons.mp q with q | q
            · exact hij q
            · exact hi' q
          have E3 := E2.put (i := i) (by simpa using hlen.1) hi2 ra
          rw [List.set_comm _ _ (fun q => hij q.symm), List.set_comm _ _ (fun q => hij q.symm)] at E3
          refine ⟨p, _, rfl, t.sqT, rfl, va, _, rfl, vb, _, rfl, rfl, qn _ _ _ H1 rfl E3 ⟨.of e1, fun z hz c hc => ?_⟩⟩
          rcases List.mem_cons.mp hz with rfl | hz
          · simp only [↓reduceIte] at hc
            exact .inr (fr c (by simp [hc]))
          · simp only [if_neg (fun (w : z = j) => hj' (w ▸ hz))] at hc
            exact .inl ⟨z, ho z hz, hc⟩
        | err _ => rw [hb] at ns; exact absurd rfl ns
        | stk => rw [hb] at ns; exact absurd rfl ns
      · rw [if_neg hlen] at ns; exact absurd rfl ns
    · exact absurd rfl ns
  · rw [hf] at qe
    exact qe x δ α σ H1 rfl ((E.ext e1).weak (sub_mem hx)) (.ext e1 (sub_mem hx))
end
section
variable {G : Cfg} {S : Sco} {k : Nat} {X : Cx} {W : WX} {fr : Bool} {own own' ol ox oh : List Nat} {pos pos' p p2 np : Pos} {x n : PySem.Str} {nm : String} {C : Addr} {body suite : List Stmt} {b₀ : Stmt} {g gs : DEnv → Fl} {i : Nat}
/-! isinstance(e, (C1, C2, C3)) -/
theorem d_isE3 {tbl : List (String × Bool)} {a D₀ : Addr} {c c' c'' : V} {u u' u'' : Value} {p1 p3 p4 p5 p6 : Pos} {W : WX} {y y' y'' : PySem.Str} {x1 : Nat} (F : Fit (G.held i a) S k X) (HH : Held G X a D₀) (hnm : G.cv nm = .ref D₀) (hg : S.sc.names.lookup (PySem.Str.ofString "isinstance") = some .globalImplicit) (hm : G.mg (PySem.Str.ofString "isinstance") = none)
    (hN : S.N[i]? = some n) (hv : Vis S.sc n) (hc : ClsA (G.held i a) S y c u) (hc' : ClsA (G.held i a) S y' c' u') (hc'' : ClsA (G.held i a) S y'' c'' u'') (htb : ∀ q ∈ tbl, PySem.W.kitAny G.K (G.cv q.1) [u, u', u''] = some q.2)
    (h1 : (n == ("__debug__" : PySem.Str)) = false := by decide) (h2 : (n == ("__classdict__" : PySem.Str)) = false := by decide)
    (he : starEach [.Name n p1, .Tuple [.Name y p3, .Name y' p4, .Name y'' p6] x1 p5] X.env = (false, eval (.Name n p1) X.env) :: starEach [.Tuple [.Name y p3, .Name y' p4, .Name y'' p6] x1 p5] X.env := by rfl)
    (hpl : (backTo pos (starEach [.Tuple [.Name y p3, .Name y' p4, .Name y'' p6] x1 p5] X.env)).any (·.1) = false := by rfl) :
    DE (G.held i a) X W own [] (.Call (.Name (PySem.Str.ofString "isinstance") p) [.Name n p1, .Tuple [.Name y p3, .Name y' p4, .Name y'' p6] x1 p5] [] pos)
      (tCB (fun xs H Q => ∃ (tp : Addr) (cs : List V) (us : List Value) (b : Bool), xs = [.ref a, .ref tp] ∧ H tp = some (.tup cs) ∧ Paired ClsV cs us ∧ PySem.W.kitAny G.K (.ref D₀) us = some b ∧ Q (.bl b) H) (tCons (tVar i) (tCons (tTup (tCons (tC c) (tCons (tC c') (tCons (tC c'') tNil)))) tNil))) (isE tbl nm) := by
  refine ⟨pe_callB HH.isiT (fit_gl F hg) (by rw [F.mg]; exact hm) (by decide +kernel) (pa_cons (pe_var (by rw [F.N]; exact hN) (by rw [F.sc]; exact hv) h1 h2) (pa_cons (pe_tup (pa_cons (hc.pe F) (pa_cons (hc'.pe F) (pa_cons (hc''.pe F) pa_nil)))) pa_nil) he) (by decide) (by decide) he hpl, ?_⟩
  intro Z₀ α δ σ H Q E hX q qe ns
  unfold isE at q ns
  cases hl : tbl.lookup nm with
  | none => rw [hl] at ns; exact absurd rfl ns
  | some b =>
    rw [hl] at q
    refine ⟨_, hX, by show 3 ≤ sizeLine; rw [sizeLine_eq]; decide, fun tp ht => ⟨tp, _, [u, u', u''], b, rfl, upd_same, .cons hc.cv (.cons hc'.cv (.cons hc''.cv .nil)), ?_, q _ _ _ rfl (ext_upd ht) rfl⟩⟩
    rw [← hnm]
    exact htb _ (lookup_mem hl)
end
section
variable {G : Cfg} {S : Sco} {k : Nat} {X : Cx} {W : WX} {fr : Bool} {own own1 own' ol ox lk : List Nat} {pos pos' : Pos} {e : Expr} {te : TE} {f : DEnv → R D} {x : PySem.Str} {j : Nat} {rest : List Stmt} {u : TS} {h : DEnv → Fl}
/-- name = e; .. in an except suite -/
theorem ss_setE (F : Fit G S k X) (hxj : ∀ σ v, G.xi σ → G.xi (σ.set j (some v))) (hN : S.N.Nodup) (hi : S.N[j]? = some x) (hv : L2.Loc S.sc x) (hf : S.fn x = true ∨ S.sc.names.lookup x = some .local) (he : DE G X W own lk e te f) (hl : left own1 own (j :: lk) = true) (hx : sub ox own = true)
    (h2 : DSs G X W fr own1 own' ol ox rest u h) (hs : swapsWith e (some (.Name x pos')) pos.line X.env = pure false := by rfl) : DSs G X W fr own own' ol ox (.Assign [.Name x pos'] e pos :: rest) (tSeq (tAsg te (gName j)) u) (seqF (setF j f) h) :=
  ss_setThen hxj (ps_set (by rw [F.N]; exact hN) (by rw [F.N]; exact hi) (by rw [F.sc]; exact hv) he.1 hs (by rw [F.fn, F.sc]; exact hf)) he.2 hl hx h2
end
section
variable {G : Cfg} {X : Cx} {W : WX} {fr : Bool} {own own1 own' ol ox : List Nat} {st : Stmt} {t : TS} {g : DEnv → Fl}
/-- less is owned behind -/
theorem s_weak (h : DS G X W fr own own1 ol ox st t g) (hs : sub own' own1 = true) : DS G X W fr own own' ol ox st t g := by
  refine ⟨h.1, ?_⟩
  intro Z₀ α δ σ H Dn E hX qn qr qb qc qe ns
  exact h.2 Z₀ α δ σ H Dn E hX (fun δ' α' σ' H' hg E' s => qn δ' α' σ' H' hg (E'.weak (sub_mem hs)) ⟨s.keep, fun i hi => s.new i (sub_mem hs i hi)⟩) qr qb qc qe ns
end
end DL

set_option maxRecDepth 100001
set_option maxHeartbeats 1000001
namespace DL
open PySem PySem.Spec PyProof.Rows L2
/-! ### sizes -/
def Bz (k : Nat) (i : Int) : Prop := i.natAbs < 2 ^ k
theorem Bz.mono {k l : Nat} {i : Int} (h : Bz k i) (hk : k ≤ l) : Bz l i := Nat.lt_of_lt_of_le h (Nat.pow_le_pow_right (by decide) hk)
theorem Bz.neg {k : Nat} {i : Int} (h : Bz k i) : Bz k (-i) := by unfold Bz at *; rw [Int.natAbs_neg]; exact h
theorem Bz.mul {k l : Nat} {i j : Int} (h : Bz k i) (h2 : Bz l j) : Bz (k + l) (i * j) := by
  unfold Bz at *
  rw [Int.natAbs_mul, Nat.pow_add]
  exact Nat.mul_lt_mul'' h h2
theorem Bz.add {k l : Nat} {i j : Int} (h : Bz k i) (h2 : Bz l j) : Bz (max k l + 1) (i + j) := by
  have a := h.mono (Nat.le_max_left k l)
  have b := h2.mono (Nat.le_max_right k l)
  unfold Bz at *
  have := Int.natAbs_add_le i j
  rw [Nat.pow_succ]
  omega
theorem Bz.le {k : Nat} {i j : Int} (h : Bz k i) (h2 : j.natAbs ≤ i.natAbs) : Bz k j := Nat.lt_of_le_of_lt h2 h
theorem Bz.lit {k : Nat} {i : Int} {m : Nat} (h : i.natAbs < m) (hm : m ≤ 2 ^ k) : Bz k i := Nat.lt_of_lt_of_le h hm
theorem log2_bz {k : Nat} {n : Nat} (h : n < 2 ^ k) (hk : 0 < k) : n.log2 < k := by
  by_cases e : n = 0
  · subst e; rw [Nat.log2_zero]; exact hk
  · exact (Nat.log2_lt e).2 h
theorem Bz.mulOk {i j : Int} (h : Bz 400000 i) (h2 : Bz 400000 j) : mulOk i j = true := by
  have a := log2_bz h (by decide)
  have b := log2_bz h2 (by decide)
  unfold DL.mulOk
  simp only [Bool.or_eq_true, decide_eq_true_eq]
  right
  omega
theorem Bz.divOk {j : Int} (h0 : j ≠ 0) (h : Bz 9000 j) : divOk j = true := by
  have a := log2_bz h (by decide)
  unfold DL.divOk
  simp only [Bool.and_eq_true, decide_eq_true_eq]
  exact ⟨h0, a⟩
theorem Bz.one {k : Nat} (h : 1 ≤ k) : Bz k 1 := (Bz.lit (k := 1) (m := 2) (by decide) (by decide)).mono h
theorem Bz.zero {k : Nat} : Bz k 0 := (Bz.lit (k := 0) (m := 1) (by decide) (by decide)).mono (by omega)
/-! ### primes -/
def Pm (p : Int) : Prop := p = 2 ∨ p = 3 ∨ p = 5 ∨ p = 7 ∨ p = 11
theorem Pm.pos {p : Int} (h : Pm p) : 0 < p := by rcases h with h | h | h | h | h <;> omega
theorem Pm.le {p : Int} (h : Pm p) : p ≤ 11 := by rcases h with h | h | h | h | h <;> omega
theorem Pm.two {p : Int} (h : Pm p) : 2 ≤ p := by rcases h with h | h | h | h | h <;> omega
theorem pm_nat : ∀ p : Nat, p ≤ 11 → (p = 2 ∨ p = 3 ∨ p = 5 ∨ p = 7 ∨ p = 11) → ∀ g, g ≤ 11 → g ∣ p → g = 1 ∨ g = p := by decide
theorem Pm.gcd {p d : Int} (h : Pm p) (hd : ¬ p ∣ d) : Nat.gcd p.natAbs d.natAbs = 1 := by
  have hp := h.pos
  have hl := h.le
  have hg : Nat.gcd p.natAbs d.natAbs ∣ p.natAbs := Nat.gcd_dvd_left _ _
  have hle : Nat.gcd p.natAbs d.natAbs ≤ p.natAbs := Nat.le_of_dvd (by omega) hg
  rcases pm_nat p.natAbs (by omega) (by rcases h with h | h | h | h | h <;> subst h <;> simp) _ (by omega) hg with q | q
  · exact q
  · exfalso
    apply hd
    have : p.natAbs ∣ d.natAbs := by rw [← q]; exact Nat.gcd_dvd_right _ _
    exact Int.natAbs_dvd_natAbs.mp this
theorem Pm.euclid {p a b : Int} (h : Pm p) (hab : p ∣ a * b) : p ∣ a ∨ p ∣ b := by
  by_cases q : p ∣ b
  · exact .inr q
  · left
    have c : Nat.Coprime p.natAbs b.natAbs := h.gcd q
    have d : p.natAbs ∣ a.natAbs * b.natAbs := by rw [← Int.natAbs_mul]; exact Int.natAbs_dvd_natAbs.mpr hab
    exact Int.natAbs_dvd_natAbs.mp (c.dvd_of_dvd_mul_right d)
theorem dvd_small {p k : Int} (hp : 0 < p) (h : p ∣ k) (h1 : -p < k) (h2 : k < p) : k = 0 := by
  obtain ⟨m, rfl⟩ := h
  rcases Int.lt_trichotomy m 0 with q | q | q
  · exfalso
    have : p * m ≤ p * (-1) := Int.mul_le_mul_of_nonneg_left (by omega) (by omega)
    omega
  · subst q; simp
  · exfalso
    have : p * 1 ≤ p * m := Int.mul_le_mul_of_nonneg_left (by omega) (by omega)
    omega
/-! ### the numbers of a field -/
/-- x is the number n / d of the field p -/
inductive Rp : Int → Int → Int → D → Prop
  | z {a b q : Int} : 0 < b → Int.gcd a b = 1 → q ≠ 0 → Rp 0 (a * q) (b * q) (.tup [.int a, .int b])
  | p {p n d k : Int} : Pm p → ¬ p ∣ d → 0 ≤ k → k < p → p ∣ k * d - n → Rp p n d (.int k)
theorem Rp.d0 {p n d : Int} {x : D} (h : Rp p n d x) : d ≠ 0 := by
  cases h with
  | z h1 h2 h3 => exact Int.mul_ne_zero (by omega) h3
  | p h1 h2 => intro e; subst e; exact h2 ⟨0, by simp⟩
theorem coprime_eq {a b a' b' : Int} (hb : 0 < b) (hb' : 0 < b') (h : Int.gcd a b = 1) (h' : Int.gcd a' b' = 1) (e : a * b' = a' * b) : a = a' ∧ b = b' := by
  have d1 : b.natAbs ∣ b'.natAbs := by
    have c : Nat.Coprime b.natAbs a.natAbs := by rw [Nat.coprime_comm]; exact h
    have : b.natAbs ∣ a.natAbs * b'.natAbs := by rw [← Int.natAbs_mul, e, Int.natAbs_mul]; exact Nat.dvd_mul_left _ _
    exact c.dvd_of_dvd_mul_left this
  have d2 : b'.natAbs ∣ b.natAbs := by
    have c : Nat.Coprime b'.natAbs a'.natAbs := by rw [Nat.coprime_comm]; exact h'
    have : b'.natAbs ∣ a'.natAbs * b.natAbs := by rw [← Int.natAbs_mul, ← e, Int.natAbs_mul]; exact Nat.dvd_mul_left _ _
    exact c.dvd_of_dvd_mul_left this
  have eb : b = b' := by
    have := Nat.dvd_antisymm d1 d2
    omega
  subst eb
  exact ⟨Int.eq_of_mul_eq_mul_right (by omega) e, rfl⟩
theorem Rp.uniq {p n d : Int} {x y : D} (h : Rp p n d x) (h' : Rp p n d y) : x = y := by
  cases h with
  | @z a b q h1 h2 h3 =>
    generalize en : a * q = n at h'
    generalize ed : b * q = d at h'
    generalize ep : (0 : Int) = p at h'
    cases h' with
    | @z a' b' q' k1 k2 k3 =>
      have e : a * b' = a' * b := by
        have e1 : (a * b') * (q * q') = (a' * b) * (q * q') := by
          calc (a * b') * (q * q') = (a * q) * (b' * q') := by ac_rfl
            _ = (a' * q') * (b * q) := by rw [en, ed]
            _ = (a' * b) * (q * q') := by ac_rfl
        exact Int.eq_of_mul_eq_mul_right (Int.mul_ne_zero h3 k3) e1
      obtain ⟨rfl, rfl⟩ := coprime_eq h1 k1 h2 k2 e
      rfl
    | p k1 => exact absurd k1.pos (by omega)
  | p h1 h2 h3 h4 h5 =>
    rename_i k
    cases h' with
    | z => exact absurd h1.pos (by omega)
    | p k1 k2 k3 k4 k5 =>
      rename_i k'
      have e : p ∣ (k - k') * d := by
        have := Int.dvd_sub h5 k5
        have e2 : (k - k') * d = k * d - n - (k' * d - n) := by rw [Int.sub_mul]; omega
        rw [e2]; exact this
      have e3 := (h1.euclid e).resolve_right h2
      have := dvd_small h1.pos e3 (by omega) (by omega)
      have : k = k' := by omega
      rw [this]
theorem Rp.eq {p n d n' d' : Int} {x y : D} (h : Rp p n d x) (h' : Rp p n' d' y) (e1 : n = n') (e2 : d = d') : x = y := by subst e1; subst e2; exact h.uniq h'
theorem Rp.cast {p n d n' d' : Int} {x : D} (h : Rp p n d x) (e1 : n = n') (e2 : d = d') : Rp p n' d' x := by subst e1; subst e2; exact h
/-- zero of the field -/
def Z0 (p n : Int) : Prop := if p = 0 then n = 0 else p ∣ n
def Fd (p : Int) : Prop := p = 0 ∨ Pm p
theorem natAbs_mul_le {a q : Int} (h : q ≠ 0) : a.natAbs ≤ (a * q).natAbs := by
  rw [Int.natAbs_mul]
  exact Nat.le_mul_of_pos_right _ (by omega)
/-- what the two whole numbers by their common part are -/
theorem low_of {n d : Int} (hd : d ≠ 0) : Rp 0 n d (.tup [.int (n.fdiv (if d < 0 then -((Nat.gcd n.natAbs d.natAbs : Nat) : Int) else ((Nat.gcd n.natAbs d.natAbs : Nat) : Int))), .int (d.fdiv (if d < 0 then -((Nat.gcd n.natAbs d.natAbs : Nat) : Int) else ((Nat.gcd n.natAbs d.natAbs : Nat) : Int)))]) := by
  have hg : Nat.gcd n.natAbs d.natAbs ≠ 0 := by
    intro e
    have := Nat.eq_zero_of_gcd_eq_zero_right e
    omega
  obtain ⟨k, hk⟩ : ((Nat.gcd n.natAbs d.natAbs : Nat) : Int) ∣ n := Int.gcd_dvd_left n d
  obtain ⟨l, hl⟩ : ((Nat.gcd n.natAbs d.natAbs : Nat) : Int) ∣ d := Int.gcd_dvd_right n d
  have hgcd : Int.gcd n d = Nat.gcd n.natAbs d.natAbs := rfl
  generalize hG : Nat.gcd n.natAbs d.natAbs = g at *
  have hkl : Int.gcd k l = 1 := by
    have e : Int.gcd ((g : Int) * k) ((g : Int) * l) = g := by rw [← hk, ← hl]; exact hgcd
    rw [Int.gcd_mul_left] at e
    have e2 : g * Int.gcd k l = g * 1 := by simpa using e
    exact Nat.eq_of_mul_eq_mul_left (by omega) e2
  have hg0 : (g : Int) ≠ 0 := by omega
  by_cases h : d < 0
  · rw [if_pos h]
    have e1 : n = (-k) * (-(g : Int)) := by rw [Int.neg_mul_neg, hk]; exact Int.mul_comm _ _
    have e2 : d = (-l) * (-(g : Int)) := by rw [Int.neg_mul_neg, hl]; exact Int.mul_comm _ _
    have hl0 : 0 < -l := by
      have : (g : Int) * l < 0 := by rw [← hl]; exact h
      rcases Int.lt_trichotomy l 0 with q | q | q
      · omega
      · subst q; simp at this
      · exact absurd (Int.mul_pos (by omega) q) (by omega : ¬ 0 < (g : Int) * l)
    have hk' : Int.gcd (-k) (-l) = 1 := by rw [Int.neg_gcd, Int.gcd_neg]; exact hkl
    have r := Rp.z (a := -k) (b := -l) (q := -(g : Int)) hl0 hk' (by omega)
    rw [← e1, ← e2] at r
    have f1 : n.fdiv (-(g : Int)) = -k := by
      conv => lhs; rw [e1]
      exact Int.mul_fdiv_cancel _ (by omega)
    have f2 : d.fdiv (-(g : Int)) = -l := by
      conv => lhs; rw [e2]
      exact Int.mul_fdiv_cancel _ (by omega)
    rw [f1, f2]
    exact r
  · rw [if_neg h]
    have e1 : n = k * (g : Int) := by rw [hk]; exact Int.mul_comm _ _
    have e2 : d = l * (g : Int) := by rw [hl]; exact Int.mul_comm _ _
    have hl0 : 0 < l := by
      have : 0 < (g : Int) * l := by rw [← hl]; omega
      rcases Int.lt_trichotomy l 0 with q | q | q
      · exact absurd (Int.mul_neg_of_pos_of_neg (by omega : 0 < (g : Int)) q) (by omega)
      · subst q; simp at this
      · exact q
    have r := Rp.z (a := k) (b := l) (q := (g : Int)) hl0 hkl (by omega)
    rw [← e1, ← e2] at r
    have f1 : n.fdiv (g : Int) = k := by
      conv => lhs; rw [e1]
      exact Int.mul_fdiv_cancel _ (by omega)
    have f2 : d.fdiv (g : Int) = l := by
      conv => lhs; rw [e2]
      exact Int.mul_fdiv_cancel _ (by omega)
    rw [f1, f2]
    exact r
theorem Rp.scale {n d r : Int} {x : D} (h : Rp 0 n d x) (hr : r ≠ 0) : Rp 0 (n * r) (d * r) x := by
  generalize ep : (0 : Int) = p at h
  cases h with
  | @z a b q h1 h2 h3 =>
    have := Rp.z (q := q * r) h1 h2 (Int.mul_ne_zero h3 hr)
    rw [← Int.mul_assoc, ← Int.mul_assoc] at this
    exact this
  | p h1 => exact absurd h1.pos (by omega)
theorem Rp.ex {p n : Int} (h : Fd p) {d : Int} (hd : if p = 0 then d ≠ 0 else d = 1) : ∃ x, Rp p n d x := by
  rcases h with h | h
  · subst h; simp at hd; exact ⟨_, low_of hd⟩
  · have hp := h.pos
    rw [if_neg (by omega)] at hd
    subst hd
    refine ⟨.int (n % p), Rp.p h (fun e => ?_) (Int.emod_nonneg _ (by omega)) (Int.emod_lt_of_pos _ hp) ?_⟩
    · have := Int.le_of_dvd (by decide) e
      have := h.two
      omega
    · rw [Int.mul_one]
      exact ⟨-(n / p), by have := Int.emod_add_mul_ediv n p; rw [Int.mul_neg]; omega⟩
theorem Rp.mk {p N Dn e : Int} (h : Pm p) (hd : ¬ p ∣ Dn) (he : p ∣ e * Dn - N) : Rp p N Dn (.int (e % p)) := by
  have hp := h.pos
  refine Rp.p h hd (Int.emod_nonneg _ (by omega)) (Int.emod_lt_of_pos _ hp) ?_
  obtain ⟨m, hm⟩ := he
  have e1 := Int.emod_add_mul_ediv e p
  refine ⟨m - (e / p) * Dn, ?_⟩
  generalize e / p = w at *
  generalize e % p = r at *
  grind
open Classical in
/-- the number n / d of the field p -/
noncomputable def nm (p n d : Int) : D := if h : ∃ x, Rp p n d x then h.choose else .non
theorem Rp.nm {p n d : Int} {x : D} (h : Rp p n d x) : x = DL.nm p n d := by
  have hex : ∃ x, Rp p n d x := ⟨x, h⟩
  unfold DL.nm
  rw [dif_pos hex]
  exact h.uniq hex.choose_spec
theorem Rp.rp {p n d : Int} {x : D} (h : Rp p n d x) : Rp p n d (DL.nm p n d) := by rw [← h.nm]; exact h
/-- n / d is a number of the field p -/
def Gd (p n d : Int) : Prop := Rp p n d (nm p n d)
theorem Rp.gd {p n d : Int} {x : D} (h : Rp p n d x) : Gd p n d := h.rp
theorem comp_map {α : Type} {vs : List Nat} {h : D → DEnv → R DEnv} {c : DEnv → R Bool} {el : DEnv → R D} {δ : DEnv} (e g : α → D) : ∀ {l : List α}, (∀ a ∈ l, ∃ δ1, h (e a) (wipeD δ vs) = .ok δ1 ∧ c δ1 = .ok true ∧ el δ1 = .ok (g a)) → compD vs h c el δ (l.map e) = .ok (l.map g)
  | [], _ => rfl
  | a :: l, H => by
    obtain ⟨δ1, h1, h2, h3⟩ := H a List.mem_cons_self
    show compD vs h c el δ (e a :: l.map e) = _
    unfold compD
    rw [h1]
    simp only [R.bind_ok, h2, if_true, h3]
    rw [comp_map e g fun a' ha => H a' (List.mem_cons_of_mem _ ha)]
    rfl
theorem lc_map {α : Type} {vs : List Nat} {h : D → DEnv → R DEnv} {c : DEnv → R Bool} {el : DEnv → R D} {δ : DEnv} (e g : α → D) {l : List α} (H : ∀ a ∈ l, ∃ δ1, h (e a) (wipeD δ vs) = .ok δ1 ∧ c δ1 = .ok true ∧ el δ1 = .ok (g a)) (hl : l.length ≤ 16777216) :
    R.lc vs h c el (.ok (l.map e)) δ = .ok (.lst (l.map g)) := by
  unfold R.lc
  simp only [comp_map e g H, R.ne_ok, R.bind_ok, List.length_map]
  rw [if_pos (by rw [sizeLine_eq]; exact hl)]
theorem zip_map {α β : Type} (e : α → D) (g : β → D) : ∀ (l : List α) (m : List β), zipPairs (l.map e) (m.map g) = (l.zip m).map fun x => .tup [e x.1, g x.2]
  | [], _ => by simp [zipPairs]
  | _ :: _, [] => by simp [zipPairs]
  | a :: l, b :: m => by simp [zipPairs, zip_map e g l m]
theorem inv_tab : ∀ p, p ≤ 11 → (p = 2 ∨ p = 3 ∨ p = 5 ∨ p = 7 ∨ p = 11) → ∀ k, k < p → k ≠ 0 → ((List.range p).any fun j => decide (1 ≤ j) && (j * k % p == 1)) = true := by decide
theorem Pm.inv {p k : Int} (h : Pm p) (h0 : 0 < k) (h1 : k < p) : ∃ j : Int, 1 ≤ j ∧ j < p ∧ j * k % p = 1 := by
  have hp := h.pos
  have hl := h.le
  have t := inv_tab p.toNat (by omega) (by rcases h with h | h | h | h | h <;> subst h <;> simp) k.toNat (by omega) (by omega)
  rw [List.any_eq_true] at t
  obtain ⟨j, a, bc⟩ := t
  rw [Bool.and_eq_true, decide_eq_true_eq, beq_iff_eq] at bc
  obtain ⟨b, c⟩ := bc
  rw [List.mem_range] at a
  refine ⟨(j : Int), by omega, by omega, ?_⟩
  have : ((j * k.toNat % p.toNat : Nat) : Int) = 1 := by rw [c]; rfl
  rw [Int.natCast_emod, Int.natCast_mul, Int.toNat_of_nonneg (by omega), Int.toNat_of_nonneg (by omega)] at this
  exact this
end DL

set_option maxRecDepth 100001
set_option maxHeartbeats 1000001
namespace DL
open PySem PySem.Spec PyProof.Rows L2
abbrev TS := SX.S
/-! ### digits -/
def dgt (c : Nat) : Bool := decide (48 ≤ c) && decide (c ≤ 57)
theorem dgt_iff {c : Nat} : dgt c = true ↔ 48 ≤ c ∧ c ≤ 57 := by unfold dgt; simp
def Cu : List Nat → Bool
  | [] => false
  | [c] => dgt c
  | c :: r => dgt c && decide (c ≠ 48) && r.all dgt
def uval (cs : List Nat) : Nat := NumText.digitsVal cs
theorem uval_snoc (cs : List Nat) (c : Nat) : uval (cs ++ [c]) = uval cs * 10 + (c - 48) := by
  unfold uval NumText.digitsVal
  rw [List.foldl_append]; rfl
theorem Cu_all {cs : List Nat} (h : Cu cs = true) : cs.all dgt = true := by
  match cs, h with
  | [c], h => simpa [Cu] using h
  | c :: d :: r, h =>
    simp only [Cu, Bool.and_eq_true] at h
    rw [List.all_cons, h.1.1, h.2]; rfl
theorem Cu_ne {cs : List Nat} (h : Cu cs = true) : cs ≠ [] := by rintro rfl; exact nomatch h
theorem Cu_init {ds : List Nat} {c : Nat} (hd : ds ≠ []) (h : Cu (ds ++ [c]) = true) : Cu ds = true ∧ dgt c = true ∧ ds.head? ≠ some 48 := by
  match ds, hd with
  | [a], _ =>
    simp only [List.singleton_append, Cu, Bool.and_eq_true, List.all_cons, List.all_nil, decide_eq_true_eq, Bool.and_true] at h
    exact ⟨h.1.1, h.2, by simpa using h.1.2⟩
  | a :: b :: r, _ =>
    simp only [List.cons_append, Cu, Bool.and_eq_true, List.all_cons, List.all_append, List.all_nil, decide_eq_true_eq, Bool.and_true] at h
    refine ⟨?_, h.2.2.2, by simpa using h.1.2⟩
    simp only [Cu, Bool.and_eq_true, List.all_cons, decide_eq_true_eq]
    exact ⟨h.1, h.2.1, h.2.2.1⟩
theorem num0 : TL.numL 0 = [48] := TL.numL_lt (by decide)
theorem canon_num : ∀ (n : Nat) (cs : List Nat), cs.length = n → Cu cs = true → TL.numL (uval cs) = cs := by
  intro n
  induction n with
  | zero => intro cs h hc; rw [List.length_eq_zero_iff.mp h] at hc; exact nomatch hc
  | succ n ih =>
    intro cs h hc
    obtain ⟨ds, c, rfl⟩ : ∃ ds c, cs = ds ++ [c] := ⟨cs.dropLast, cs.getLast (by rintro rfl; simp at h), (List.dropLast_concat_getLast _).symm⟩
    by_cases hd : ds = []
    · subst hd
      simp only [List.nil_append] at hc ⊢
      have hc' := dgt_iff.mp (show dgt c = true from hc)
      have : uval [c] = c - 48 := by unfold uval NumText.digitsVal; simp
      rw [this, TL.numL_lt (by omega)]
      congr 1; omega
    · obtain ⟨h1, h2, h3⟩ := Cu_init hd hc
      have e := ih ds (by simpa using h) h1
      have h2' := dgt_iff.mp h2
      have hpos : uval ds ≠ 0 := fun z => by
        rw [z, num0] at e
        rw [← e] at h3
        exact h3 rfl
      rw [uval_snoc, TL.numL_step (by omega)]
      have a1 : (uval ds * 10 + (c - 48)) / 10 = uval ds := by omega
      have a2 : (uval ds * 10 + (c - 48)) % 10 = c - 48 := by omega
      rw [a1, a2, e]
      congr 2; omega
theorem Cu_nm {cs : List Nat} (h : Cu cs = true) : TL.numL (uval cs) = cs := canon_num _ cs rfl h
theorem numL_all (n : Nat) : (TL.numL n).all dgt = true := List.all_eq_true.mpr fun c hc => dgt_iff.mpr (TL.numL_digits n c hc)
theorem numL_head : ∀ n : Nat, n ≠ 0 → (TL.numL n).head? ≠ some 48 := by
  intro n
  induction n using Nat.strongRecOn with
  | ind n ih =>
    intro h
    by_cases hl : n < 10
    · rw [TL.numL_lt hl]; simp; omega
    · rw [TL.numL_step (by omega)]
      have := ih (n / 10) (by omega) (by omega)
      have hne := TL.numL_ne (n / 10)
      cases q : TL.numL (n / 10) with
      | nil => exact absurd q hne
      | cons a r => rw [q] at this; simpa using this
theorem Cu_num (n : Nat) : Cu (TL.numL n) = true := by
  by_cases h : n = 0
  · subst h; rw [num0]; decide
  · have h1 := numL_head n h
    have h2 := numL_all n
    have hne := TL.numL_ne n
    cases q : TL.numL n with
    | nil => exact absurd q hne
    | cons a r =>
      rw [q] at h1 h2
      rw [List.all_cons, Bool.and_eq_true] at h2
      cases r with
      | nil => exact h2.1
      | cons b r =>
        simp only [Cu, Bool.and_eq_true, decide_eq_true_eq]
        exact ⟨⟨h2.1, by simpa using h1⟩, h2.2⟩
theorem uval_num (n : Nat) : uval (TL.numL n) = n := TL.numL_val n
/-! ### whole numbers -/
def Ci : List Nat → Bool
  | 45 :: r => Cu r && decide (r ≠ [48])
  | cs => Cu cs
def ival : List Nat → Int
  | 45 :: r => -((uval r : Nat) : Int)
  | cs => ((uval cs : Nat) : Int)
def numS (i : Int) : List Nat := if i < 0 then 45 :: TL.numL i.natAbs else TL.numL i.natAbs
theorem Ci_pos {cs : List Nat} (h : cs.head? ≠ some 45) : Ci cs = Cu cs ∧ ival cs = ((uval cs : Nat) : Int) := by
  unfold Ci ival
  split
  · exact absurd rfl h
  · exact ⟨rfl, rfl⟩
theorem Cu_head {cs : List Nat} (h : Cu cs = true) : cs.head? ≠ some 45 := by
  have h1 := Cu_all h
  cases cs with
  | nil => exact nomatch h
  | cons a r =>
    rw [List.all_cons, Bool.and_eq_true, dgt_iff] at h1
    simp; omega
theorem Ci_nm {cs : List Nat} (h : Ci cs = true) : numS (ival cs) = cs := by
  by_cases hh : cs.head? = some 45
  · cases cs with
    | nil => exact nomatch hh
    | cons a r =>
      simp at hh; subst hh
      simp only [Ci, Bool.and_eq_true, decide_eq_true_eq] at h
      have e := Cu_nm h.1
      have hne : uval r ≠ 0 := fun z => by rw [z, num0] at e; exact h.2 e.symm
      simp only [ival, numS]
      rw [if_pos (by omega)]
      have : (-((uval r : Nat) : Int)).natAbs = uval r := by omega
      rw [this, e]
  · obtain ⟨h1, h2⟩ := Ci_pos hh
    rw [h1] at h
    rw [h2]
    unfold numS
    rw [if_neg (by omega)]
    have : ((uval cs : Nat) : Int).natAbs = uval cs := by omega
    rw [this, Cu_nm h]
theorem Ci_num (i : Int) : Ci (numS i) = true ∧ ival (numS i) = i := by
  unfold numS
  by_cases h : i < 0
  · rw [if_pos h]
    simp only [Ci, ival, Bool.and_eq_true, decide_eq_true_eq]
    refine ⟨⟨Cu_num _, fun e => ?_⟩, ?_⟩
    · have := congrArg uval e
      rw [uval_num] at this
      have h0 : uval [48] = 0 := rfl
      omega
    · rw [uval_num]; omega
  · rw [if_neg h]
    obtain ⟨h1, h2⟩ := Ci_pos (Cu_head (Cu_num i.natAbs))
    rw [h1, h2, uval_num]
    exact ⟨Cu_num _, by omega⟩
theorem Ci_all {cs : List Nat} (h : Ci cs = true) : ∀ c ∈ cs, c = 45 ∨ (48 ≤ c ∧ c ≤ 57) := by
  by_cases hh : cs.head? = some 45
  · cases cs with
    | nil => exact nomatch hh
    | cons a r =>
      simp at hh; subst hh
      simp only [Ci, Bool.and_eq_true, decide_eq_true_eq] at h
      intro c hc
      rcases List.mem_cons.mp hc with rfl | hc
      · exact .inl rfl
      · exact .inr (dgt_iff.mp (List.all_eq_true.mp (Cu_all h.1) c hc))
  · rw [(Ci_pos hh).1] at h
    exact fun c hc => .inr (dgt_iff.mp (List.all_eq_true.mp (Cu_all h) c hc))
theorem Ci_free {cs : List Nat} (h : Ci cs = true) {s : Nat} (hs : s ≠ 45 ∧ (s < 48 ∨ 57 < s)) : s ∉ cs := fun q => by
  have := Ci_all h s q
  omega
theorem numS_text (i : Int) : PySem.Str.ofString (toString i) = TS (numS i) := by
  cases i with
  | ofNat n =>
    have := SX.num_S n
    unfold numS
    rw [if_neg (by simp)]
    exact this
  | negSucc n =>
    unfold numS
    rw [if_pos (Int.negSucc_lt_zero n)]
    have e : (toString (Int.negSucc n) : String) = "-" ++ toString ((n + 1 : Nat) : Int) := rfl
    refine TL.ext_tl ?_
    rw [e, TL.tl_ofString, String.toList_append, List.map_append]
    have h2 := TL.tl_num (n + 1)
    rw [TL.tl_ofString] at h2
    rw [h2]
    rfl
/-! ### isdigit -/
theorem uni_dgt : ∀ c : Nat, c < 128 → Unicode.isDigit c = dgt c := by decide +kernel
theorem isdigit_S {cs : List Nat} (h : ∀ c ∈ cs, c < 128) : Txt.isdigit (TS cs) = (!cs.isEmpty && cs.all dgt) := by
  unfold Txt.isdigit
  rw [SX.S_len]
  have e : (TS cs).cps.all Unicode.isDigit = cs.all dgt := by
    show cs.toArray.all _ = _
    rw [List.all_toArray]
    rw [Bool.eq_iff_iff, List.all_eq_true, List.all_eq_true]
    exact ⟨fun q c hc => by rw [← uni_dgt c (h c hc)]; exact q c hc, fun q c hc => by rw [uni_dgt c (h c hc)]; exact q c hc⟩
  rw [e]
  cases cs <;> simp
theorem subAt0 (a b : List Nat) : Builtin.Str.subAt (TS a) (TS b) 0 = (a.take b.length == b) := by
  rw [StrLaws.subAt_eq]
  simp [SX.S_len]
theorem startswith_S (a b : List Nat) : Txt.startswith (TS a) (TS b) = (a.take b.length == b) := by
  unfold Txt.startswith
  rw [subAt0, SX.S_len, SX.S_len]
  by_cases h : a.take b.length = b
  · have : b.length ≤ a.length := by
      have := congrArg List.length h
      simp at this; omega
    simp [h, this]
  · have : (a.take b.length == b) = false := by simpa using h
    rw [this, Bool.and_false]
theorem prefix_minus (a : List Nat) : Txt.removeprefix (TS a) (TS [45]) = TS (if a.head? = some 45 then a.tail else a) := by
  unfold Txt.removeprefix
  rw [subAt0]
  cases a with
  | nil => rfl
  | cons c r =>
    by_cases h : c = 45
    · subst h
      simp only [List.length_singleton, List.take_succ_cons, List.take_zero, beq_self_eq_true, if_true, List.head?_cons, List.tail_cons]
      unfold Txt.affix
      simp only [SX.S_len, List.length_cons]
      split
      · rename_i q; simp at q
      · refine TL.ext_tl ?_
        rw [TL.tl_strSub]
        simp [TL.tl, SX.S]
    · have h2 : ¬ ((c :: r).head? = some 45) := by simpa using h
      rw [if_neg h2]
      have h3 : (([c] : List Nat) == [45]) = false := by simpa using h
      simp only [List.length_singleton, List.take_succ_cons, List.take_zero, h3, Bool.false_eq_true, if_false]
      rfl
end DL

set_option maxRecDepth 100001
set_option maxHeartbeats 1000001
namespace DL
open PySem PySem.Spec PyProof.Rows L2
def Asc (a : List Nat) : Prop := ∀ c ∈ a, c < 128
theorem Asc.app {a b : List Nat} (h : Asc a) (g : Asc b) : Asc (a ++ b) := fun c hc => (List.mem_append.mp hc).elim (h c) (g c)
theorem Asc.take {a : List Nat} (h : Asc a) (n : Nat) : Asc (a.take n) := fun c hc => h c (List.mem_of_mem_take hc)
theorem Asc.drop {a : List Nat} (h : Asc a) (n : Nat) : Asc (a.drop n) := fun c hc => h c (List.mem_of_mem_drop hc)
theorem Asc.tail {a : List Nat} (h : Asc a) : Asc a.tail := fun c hc => h c (List.mem_of_mem_tail hc)
theorem Asc.cons {c : Nat} {a : List Nat} (h : c < 128) (g : Asc a) : Asc (c :: a) := fun d hd => by
  rcases List.mem_cons.mp hd with rfl | hd
  · exact h
  · exact g d hd
theorem Asc.nil : Asc [] := fun c hc => nomatch hc
theorem Asc.num (i : Int) : Asc (numS i) := fun c hc => by
  rcases Ci_all (Ci_num i).1 c hc with h | h <;> omega
theorem Asc.of (a : List Nat) (h : a.all (fun c => decide (c < 128)) = true) : Asc a := fun c hc => by simpa using List.all_eq_true.mp h c hc
@[simp] theorem lit_e : PySem.Str.ofString "" = TS [] := by decide
@[simp] theorem lit_empty : PySem.Str.empty = TS [] := by decide
@[simp] theorem lit_m : PySem.Str.ofString "-" = TS [45] := by decide
@[simp] theorem lit_s : PySem.Str.ofString "/" = TS [47] := by decide
@[simp] theorem lit_0 : PySem.Str.ofString "0" = TS [48] := by decide
@[simp] theorem lit_b : PySem.Str.ofString " " = TS [32] := by decide
@[simp] theorem lit_none : PySem.Str.ofString "none" = TS [110, 111, 110, 101] := by decide
@[simp] theorem lit_dig : PySem.Str.ofString "0123456789" = TS [48, 49, 50, 51, 52, 53, 54, 55, 56, 57] := by decide
theorem strOk_asc {a : List Nat} (h : Asc a) : PyData.strOk (TS a) = true := by
  unfold PyData.strOk
  show a.toArray.all _ = true
  rw [List.all_toArray, List.all_eq_true]
  intro c hc
  have := h c hc
  simp; omega
theorem o_eqT {a b : List Nat} (ha : Asc a) (hb : Asc b) : eqD (.str (TS a)) (.str (TS b)) = .ok (.bl (decide (a = b))) := by
  have e : eqv (.str (TS a)) (.str (TS b)) = decide (a = b) := by
    unfold eqv
    simp only [toPy]
    rw [PyData.eqv]
    exact SX.S_beq_eq
  unfold eqD
  rw [if_pos ⟨strOk_asc ha, strOk_asc hb⟩, e]
theorem o_neT {a b : List Nat} (ha : Asc a) (hb : Asc b) : neD (.str (TS a)) (.str (TS b)) = .ok (.bl (!decide (a = b))) := by
  have e : eqv (.str (TS a)) (.str (TS b)) = decide (a = b) := by
    unfold eqv
    simp only [toPy]
    rw [PyData.eqv]
    exact SX.S_beq_eq
  unfold neD
  rw [if_pos ⟨strOk_asc ha, strOk_asc hb⟩, e]
theorem sl_le {n : Nat} (h : n ≤ 100000) : n ≤ sizeLine := by rw [sizeLine_eq]; omega
theorem o_rpx {a : List Nat} (h : a.length ≤ 100000) : rpxD (TS a) (.str (TS [45])) = .ok (.str (TS (if a.head? = some 45 then a.tail else a))) := by
  unfold rpxD
  simp only
  rw [if_pos (by rw [SX.S_len]; exact sl_le h), prefix_minus]
theorem o_isd {a : List Nat} (h : Asc a) : isdD (TS a) = .ok (.bl (!a.isEmpty && a.all dgt)) := by
  unfold isdD; rw [isdigit_S h]
theorem o_swi (a b : List Nat) : swiD (TS a) (.str (TS b)) = .ok (.bl (a.take b.length == b)) := by
  unfold swiD; simp only; rw [startswith_S]
theorem o_lenT' {a : List Nat} (h : a.length ≤ 100000) : lenD [.str (TS a)] = .ok (.int a.length) := by
  unfold lenD
  simp only
  rw [if_pos (by rw [SX.S_len]; exact sl_le h), SX.S_len]
theorem o_addT {a b : List Nat} (h : a.length + b.length ≤ 100000) : addD (.str (TS a)) (.str (TS b)) = .ok (.str (TS (a ++ b))) := by
  unfold addD; simp only
  rw [if_pos (by rw [SX.S_len, SX.S_len]; exact sl_le h), SX.S_cat]
theorem cutS_T (a : List Nat) (lo hi : Option Int) : cutS (TS a) lo hi = TS (cutL a lo hi) := by
  unfold cutS cutL
  rw [SX.S_len]
theorem o_cutT {a : List Nat} (h : a.length ≤ 100000) (lo hi : Option Int) : cutD (.str (TS a)) lo hi = .ok (.str (TS (cutL a lo hi))) := by
  unfold cutD
  simp only
  rw [if_pos (by rw [SX.S_len]; exact sl_le h), cutS_T]
theorem o_idxT {a : List Nat} {i : Nat} {c : Nat} (h : a.length ≤ 100000) (hc : a[i]? = some c) : idxD (.str (TS a)) (.int i) = .ok (.str (TS [c])) := by
  unfold idxD
  simp only
  rw [if_pos (by rw [SX.S_len]; exact sl_le h)]
  have : atI (TS a).cps.toList ((i : Nat) : Int) = some c := atI_nat hc
  rw [this]
theorem o_str {i : Int} (h : Bz 1920 i) : strD [.int i] = .ok (.str (TS (numS i))) := by
  unfold strD
  simp only
  have : i.natAbs.log2 < 1920 := log2_bz h (by decide)
  rw [if_pos this]
  show R.ok (D.str (PySem.Str.ofString (toString i))) = _
  rw [numS_text]
theorem o_fmt {i : Int} (h : Bz 1920 i) : fmtD (.int i) = .ok (.str (TS (numS i))) := by
  unfold fmtD
  simp only
  have : i.natAbs.log2 < 1920 := log2_bz h (by decide)
  rw [if_pos this]
  show R.ok (D.str (PySem.Str.ofString (toString i))) = _
  rw [numS_text]
theorem o_intT {a : List Nat} (h : Ci a = true) (hl : a.length ≤ 640) : intAD [.str (TS a)] = .ok (.int (ival a)) := by
  have e : PySem.intText? (TS a) = some (ival a) := by
    by_cases hh : a.head? = some 45
    · cases a with
      | nil => exact nomatch hh
      | cons c r =>
        simp at hh; subst hh
        simp only [Ci, Bool.and_eq_true, decide_eq_true_eq] at h
        exact PySem.intText_neg (x := TS (45 :: r)) (cs := r) rfl (fun c hc => dgt_iff.mp (List.all_eq_true.mp (Cu_all h.1) c hc)) (Cu_ne h.1) (by rw [SX.S_len]; omega)
    · obtain ⟨h1, h2⟩ := Ci_pos hh
      rw [h1] at h
      rw [h2]
      exact PySem.intText_digits (x := TS a) (fun c hc => dgt_iff.mp (List.all_eq_true.mp (Cu_all h) c hc)) (Cu_ne h) (by rw [SX.S_len]; omega)
  unfold intAD
  simp only
  rw [e]
  simp only
  rw [if_pos (by rw [SX.S_len]; exact hl)]
@[simp] theorem o_intAi (i : Int) : intAD [.int i] = .ok (.int i) := rfl
@[simp] theorem o_intAb (b : Bool) : intAD [.bl b] = .ok (.int (if b then 1 else 0)) := rfl
theorem numS_len {i : Int} {k : Nat} (hk : 0 < k) (h : i.natAbs < 10 ^ k) : (numS i).length ≤ k + 1 := by
  unfold numS
  have := TL.numL_len hk h
  split
  · simp; omega
  · omega
@[simp] theorem e_m0 (h : PySem.Str → R D) (f : DEnv → R D) (δ : DEnv) : m0D h f δ = (f δ).bind fun d => match d with | .str a => h a | _ => .stk := rfl
@[simp] theorem e_m1 (h : PySem.Str → D → R D) (f g : DEnv → R D) (δ : DEnv) : m1D h f g δ = (f δ).bind fun d => match d with | .str a => (g δ).bind (h a) | _ => .stk := rfl
@[simp] theorem e_truS {a : List Nat} (h : a.length ≤ 100000) : truD (.str (TS a)) = .ok (!a.isEmpty) := by
  unfold truD
  simp only
  rw [if_pos (by rw [SX.S_len]; exact sl_le h), SX.S_len]
  cases a <;> simp
  omega
@[simp] theorem e_sl3 (h : D → Option Int → Option Int → R D) (f : DEnv → R D) (l u : DEnv → R (Option Int)) (δ : DEnv) : sl3 h f l u δ = (f δ).bind fun d => (l δ).bind fun lo => (u δ).bind fun hi => h d lo hi := rfl
@[simp] theorem e_noP (δ : DEnv) : noP δ = .ok none := rfl
def spK : D → R (Option Int)
  | .int i => .ok (some i)
  | _ => .stk
@[simp] theorem e_someP (f : DEnv → R D) (δ : DEnv) : someP f δ = (f δ).bind spK := by
  unfold someP
  cases f δ with
  | ok d => cases d <;> rfl
  | err _ => rfl
  | stk => rfl
@[simp] theorem spK_i (i : Int) : spK (.int i) = .ok (some i) := rfl
@[simp] theorem o_ixl0 (d : D) (ds : List D) : idxD (.lst (d :: ds)) (.int 0) = .ok d := idx_lst (by decide) rfl
@[simp] theorem o_ixl1 (d e : D) (ds : List D) : idxD (.lst (d :: e :: ds)) (.int 1) = .ok e := idx_lst (by decide) rfl
end DL

set_option maxRecDepth 100001
set_option maxHeartbeats 4000001
namespace DL
open PySem PySem.Spec PyProof.Rows L2
/-! the text -/
def topS (i : Nat) : Stmt := PySem.Challenge.pw_weighedgrids_k04_numbers_written_and_rea.main.body.getD i (.Pass ⟨0, 0, 0, 0⟩)
/-- the class of that name, as the values tell it -/
def ca (G : Cfg) (n : String) : Addr := match G.cv n with | .ref a => a | _ => 0
/-- the address of a constant of that name -/
def ka (G : Cfg) (n : PySem.Str) : Addr := match G.mg n with | some (.ref a) => a | _ => 0

structure Tp (G : Cfg)  : Prop where
  xi : ∀ σ, G.xi σ
  b_ValueError : G.mg (PySem.Str.ofString "ValueError") = none
  b_abs : G.mg (PySem.Str.ofString "abs") = none
  b_bool : G.mg (PySem.Str.ofString "bool") = none
  b_int : G.mg (PySem.Str.ofString "int") = none
  b_isinstance : G.mg (PySem.Str.ofString "isinstance") = none
  b_len : G.mg (PySem.Str.ofString "len") = none
  b_list : G.mg (PySem.Str.ofString "list") = none
  b_max : G.mg (PySem.Str.ofString "max") = none
  b_range : G.mg (PySem.Str.ofString "range") = none
  b_str : G.mg (PySem.Str.ofString "str") = none
  b_tuple : G.mg (PySem.Str.ofString "tuple") = none
  g_gcd : G.mg (PySem.Str.ofString "gcd") = some (.builtin "math.gcd")
  e_GridError : ExK G (PySem.Str.ofString "GridError") "GridError" (ca G "GridError")
  e_InvalidField : ExK G (PySem.Str.ofString "InvalidField") "InvalidField" (ca G "InvalidField")
  e_InvalidNumber : ExK G (PySem.Str.ofString "InvalidNumber") "InvalidNumber" (ca G "InvalidNumber")
  e_NoInverse : ExK G (PySem.Str.ofString "NoInverse") "NoInverse" (ca G "NoInverse")
  e_InvalidGrid : ExK G (PySem.Str.ofString "InvalidGrid") "InvalidGrid" (ca G "InvalidGrid")
  e_InvalidText : ExK G (PySem.Str.ofString "InvalidText") "InvalidText" (ca G "InvalidText")
  x_InvalidText_GridError : PySem.W.exmOne G.K (.ref (ca G "InvalidText")) (.ref (ca G "GridError")) = some true
  x_InvalidText_InvalidText : PySem.W.exmOne G.K (.ref (ca G "InvalidText")) (.ref (ca G "InvalidText")) = some true
  k1_InvalidText_GridError : PySem.W.kitOne G.K (G.cv "InvalidText") (.ref (ca G "GridError")) = some true
  k1_InvalidText_InvalidText : PySem.W.kitOne G.K (G.cv "InvalidText") (.ref (ca G "InvalidText")) = some true
  k1_InvalidText_ValueError : PySem.W.kitOne G.K (G.cv "InvalidText") (.type "ValueError") = some true
  k2_InvalidText_InvalidGrid_InvalidNumber : PySem.W.kitAny G.K (G.cv "InvalidText") [(.ref (ca G "InvalidGrid")), (.ref (ca G "InvalidNumber"))] = some false
  k3_InvalidText_InvalidField_InvalidNumber_NoInverse : PySem.W.kitAny G.K (G.cv "InvalidText") [(.ref (ca G "InvalidField")), (.ref (ca G "InvalidNumber")), (.ref (ca G "NoInverse"))] = some false
/-! ### is_integer -/
abbrev s_is_integer : Stmt := topS 9
abbrev N_is_integer : List PySem.Str := ["value"]
theorem sc_is_integer : FnScope N_is_integer ["value"] (defScope s_is_integer) := ⟨rfl, rfl, rfl, by decide +kernel, rfl, by decide +kernel, by decide +kernel⟩
theorem nd_is_integer : (bodyS N_is_integer s_is_integer).N.Nodup := sc_is_integer.nd
theorem n_is_integer_0 : (bodyS N_is_integer s_is_integer).N[0]? = some (PySem.Str.ofString "value") := rfl
theorem v_is_integer_0 : Vis (bodyS N_is_integer s_is_integer).sc (PySem.Str.ofString "value") := Or.inl (by decide +kernel)
theorem l_is_integer_0 : L2.Loc (bodyS N_is_integer s_is_integer).sc (PySem.Str.ofString "value") := Or.inl (by decide +kernel)
theorem l0_is_integer_0 : (bodyS N_is_integer s_is_integer).sc.names.lookup (PySem.Str.ofString "value") = some .local := by decide +kernel
theorem gl_is_integer_bool : (bodyS N_is_integer s_is_integer).sc.names.lookup (PySem.Str.ofString "bool") = some .globalImplicit := by decide +kernel
theorem gl_is_integer_int : (bodyS N_is_integer s_is_integer).sc.names.lookup (PySem.Str.ofString "int") = some .globalImplicit := by decide +kernel
theorem gl_is_integer_isinstance : (bodyS N_is_integer s_is_integer).sc.names.lookup (PySem.Str.ofString "isinstance") = some .globalImplicit := by decide +kernel
noncomputable def body_is_integer : DEnv → Fl := retF (andV (u1 (isiD "int") (nmD 0)) (u1 notD (u1 (isiD "bool") (nmD 0))))
noncomputable def den_is_integer : List D → R D := runD 1 body_is_integer
theorem ok_is_integer {G : Cfg} (T : Tp G)  {f : Addr} {fd : FuncData} (FF : Fun G.K (PySem.Str.ofString "is_integer") (PySem.Str.ofString "is_integer") s_is_integer f fd) : FnOk G.P G.w G.K G.mg G.base (L2.CX G.P G.w) 1 f fd ["value"] (spD G 1 false den_is_integer) :=
  fn_mk (N := N_is_integer) (t := _) (g := body_is_integer) (own' := []) T.xi FF sc_is_integer rfl fun X W F tk po =>
    (ss_one (s_ret (d_and (d_isi F gl_is_integer_isinstance T.b_isinstance gl_is_integer_int T.b_int (by decide +kernel) (by decide +kernel) (d_nm0 F n_is_integer_0 v_is_integer_0 (by decide))) (d_one (d_not (d_isi F gl_is_integer_isinstance T.b_isinstance gl_is_integer_bool T.b_bool (by decide +kernel) (by decide +kernel) (d_nm0 F n_is_integer_0 v_is_integer_0 (by decide)))))) rfl (by rfl)))
/-! ### is_number -/
abbrev s_is_number : Stmt := topS 10
abbrev N_is_number : List PySem.Str := ["prime", "value"]
theorem sc_is_number : FnScope N_is_number ["prime", "value"] (defScope s_is_number) := ⟨rfl, rfl, rfl, by decide +kernel, rfl, by decide +kernel, by decide +kernel⟩
theorem nd_is_number : (bodyS N_is_number s_is_number).N.Nodup := sc_is_number.nd
theorem n_is_number_0 : (bodyS N_is_number s_is_number).N[0]? = some (PySem.Str.ofString "prime") := rfl
theorem v_is_number_0 : Vis (bodyS N_is_number s_is_number).sc (PySem.Str.ofString "prime") := Or.inl (by decide +kernel)
theorem l_is_number_0 : L2.Loc (bodyS N_is_number s_is_number).sc (PySem.Str.ofString "prime") := Or.inl (by decide +kernel)
theorem l0_is_number_0 : (bodyS N_is_number s_is_number).sc.names.lookup (PySem.Str.ofString "prime") = some .local := by decide +kernel
theorem n_is_number_1 : (bodyS N_is_number s_is_number).N[1]? = some (PySem.Str.ofString "value") := rfl
theorem v_is_number_1 : Vis (bodyS N_is_number s_is_number).sc (PySem.Str.ofString "value") := Or.inl (by decide +kernel)
theorem l_is_number_1 : L2.Loc (bodyS N_is_number s_is_number).sc (PySem.Str.ofString "value") := Or.inl (by decide +kernel)
theorem l0_is_number_1 : (bodyS N_is_number s_is_number).sc.names.lookup (PySem.Str.ofString "value") = some .local := by decide +kernel
theorem gl_is_number_gcd : (bodyS N_is_number s_is_number).sc.names.lookup (PySem.Str.ofString "gcd") = some .globalImplicit := by decide +kernel
theorem gl_is_number_is_integer : (bodyS N_is_number s_is_number).sc.names.lookup (PySem.Str.ofString "is_integer") = some .globalImplicit := by decide +kernel
theorem gl_is_number_isinstance : (bodyS N_is_number s_is_number).sc.names.lookup (PySem.Str.ofString "isinstance") = some .globalImplicit := by decide +kernel
theorem gl_is_number_len : (bodyS N_is_number s_is_number).sc.names.lookup (PySem.Str.ofString "len") = some .globalImplicit := by decide +kernel
theorem gl_is_number_tuple : (bodyS N_is_number s_is_number).sc.names.lookup (PySem.Str.ofString "tuple") = some .globalImplicit := by decide +kernel
noncomputable def body_is_number : DEnv → Fl := seqF (ifF (toB (b2 gtD (nmD 0) (cD (.int 0)))) (retF (andV (callF den_is_integer (consA (nmD 1) (nilA))) (chainD leD ltD (cD (.int 0)) (nmD 1) (nmD 0)))) (nxD)) (seqF (ifF (orB (notB (toT (u1 (isiD "tuple") (nmD 1)))) (toB (b2 neD (callF lenD (consA (nmD 1) (nilA))) (cD (.int 2))))) (retF (cD (.bl false))) (nxD)) (seqF (ifF (orB (notB (toT (callF den_is_integer (consA (b2 idxD (nmD 1) (cD (.int 0))) (nilA))))) (notB (toT (callF den_is_integer (consA (b2 idxD (nmD 1) (cD (.int 1))) (nilA)))))) (retF (cD (.bl false))) (nxD)) (retF (andV (b2 gtD (b2 idxD (nmD 1) (cD (.int 1))) (cD (.int 0))) (b2 eqD (callF gcdD (consA (b2 idxD (nmD 1) (cD (.int 0))) (consA (b2 idxD (nmD 1) (cD (.int 1))) (nilA)))) (cD (.int 1)))))))
noncomputable def den_is_number : List D → R D := runD 2 body_is_number
theorem ok_is_number {G : Cfg} (T : Tp G) (c_is_integer : FnD G 1 (PySem.Str.ofString "is_integer") 1 false den_is_integer) {f : Addr} {fd : FuncData} (FF : Fun G.K (PySem.Str.ofString "is_number") (PySem.Str.ofString "is_number") s_is_number f fd) : FnOk G.P G.w G.K G.mg G.base (L2.CX G.P G.w) 2 f fd ["prime", "value"] (spD G 2 false den_is_number) :=
  fn_mk (N := N_is_number) (t := _) (g := body_is_number) (own' := []) T.xi FF sc_is_number rfl fun X W F tk po =>
    (ss_cons T.xi (s_if (own' := []) (t_cmp F cr_gt (d_nm0 F n_is_number_0 v_is_number_0 (by decide)) d_int (nomark _)) (ss_one (s_ret (d_and (d_call F tk c_is_integer (by decide) gl_is_number_is_integer (a_cons (d_nm0 F n_is_number_1 v_is_number_1 (by decide)) a_nil) rfl (hlen := (len_cons len_nil))) (d_one (d_chain F cr_le cr_lt d_int (d_nm0 F n_is_number_1 v_is_number_1 (by decide)) (d_nm0 F n_is_number_0 v_is_number_0 (by decide))))) rfl (by rfl))) (ss_nil (own' := []) (by rfl)) (by rfl)) (ss_cons T.xi (s_if (own' := []) (DW.dt (w_or (t_not (t_tru F (d_isi F gl_is_number_isinstance T.b_isinstance gl_is_number_tuple T.b_tuple (by decide +kernel) (by decide +kernel) (d_nm0 F n_is_number_1 v_is_number_1 (by decide))))) (w_or1 (t_cmp F cr_ne (d_len F gl_is_number_len T.b_len (a_cons (d_nm0 F n_is_number_1 v_is_number_1 (by decide)) a_nil)) d_int (nomark _))))) (ss_one (s_ret d_bl rfl (by rfl))) (ss_nil (own' := []) (by rfl)) (by rfl)) (ss_cons T.xi (s_if (own' := []) (DW.dt (w_or (t_not (t_tru F (d_call F tk c_is_integer (by decide) gl_is_number_is_integer (a_cons (d_ixN F n_is_number_1 v_is_number_1 d_int) a_nil) rfl (hlen := (len_cons len_nil))))) (w_or1 (t_not (t_tru F (d_call F tk c_is_integer (by decide) gl_is_number_is_integer (a_cons (d_ixN F n_is_number_1 v_is_number_1 d_int) a_nil) rfl (hlen := (len_cons len_nil)))))))) (ss_one (s_ret d_bl rfl (by rfl))) (ss_nil (own' := []) (by rfl)) (by rfl)) (ss_one (s_ret (d_and (d_cmp F cr_gt (d_ixN F n_is_number_1 v_is_number_1 d_int) d_int (nomark _)) (d_one (d_cmp F cr_eq (d_gcd F gl_is_number_gcd T.g_gcd (a_cons (d_ixN F n_is_number_1 v_is_number_1 d_int) (a_cons (d_ixN F n_is_number_1 v_is_number_1 d_int) a_nil))) d_int (nomark _)))) rfl (by rfl))))))
/-! ### write_number -/
abbrev s_write_number : Stmt := topS 12
abbrev N_write_number : List PySem.Str := ["prime", "number"]
theorem sc_write_number : FnScope N_write_number ["prime", "number"] (defScope s_write_number) := ⟨rfl, rfl, rfl, by decide +kernel, rfl, by decide +kernel, by decide +kernel⟩
theorem nd_write_number : (bodyS N_write_number s_write_number).N.Nodup := sc_write_number.nd
theorem n_write_number_0 : (bodyS N_write_number s_write_number).N[0]? = some (PySem.Str.ofString "prime") := rfl
theorem v_write_number_0 : Vis (bodyS N_write_number s_write_number).sc (PySem.Str.ofString "prime") := Or.inl (by decide +kernel)
theorem l_write_number_0 : L2.Loc (bodyS N_write_number s_write_number).sc (PySem.Str.ofString "prime") := Or.inl (by decide +kernel)
theorem l0_write_number_0 : (bodyS N_write_number s_write_number).sc.names.lookup (PySem.Str.ofString "prime") = some .local := by decide +kernel
theorem n_write_number_1 : (bodyS N_write_number s_write_number).N[1]? = some (PySem.Str.ofString "number") := rfl
theorem v_write_number_1 : Vis (bodyS N_write_number s_write_number).sc (PySem.Str.ofString "number") := Or.inl (by decide +kernel)
theorem l_write_number_1 : L2.Loc (bodyS N_write_number s_write_number).sc (PySem.Str.ofString "number") := Or.inl (by decide +kernel)
theorem l0_write_number_1 : (bodyS N_write_number s_write_number).sc.names.lookup (PySem.Str.ofString "number") = some .local := by decide +kernel
theorem gl_write_number_str : (bodyS N_write_number s_write_number).sc.names.lookup (PySem.Str.ofString "str") = some .globalImplicit := by decide +kernel
noncomputable def body_write_number : DEnv → Fl := seqF (ifF (toB (b2 gtD (nmD 0) (cD (.int 0)))) (retF (callF strD (consA (nmD 1) (nilA)))) (nxD)) (seqF (ifF (toB (b2 eqD (b2 idxD (nmD 1) (cD (.int 1))) (cD (.int 1)))) (retF (callF strD (consA (b2 idxD (nmD 1) (cD (.int 0))) (nilA)))) (nxD)) (retF (fsD [u1 fmtD (b2 idxD (nmD 1) (cD (.int 0))), cD (.str (PySem.Str.ofString "/")), u1 fmtD (b2 idxD (nmD 1) (cD (.int 1)))] Str.empty)))
noncomputable def den_write_number : List D → R D := runD 2 body_write_number
theorem ok_write_number {G : Cfg} (T : Tp G)  {f : Addr} {fd : FuncData} (FF : Fun G.K (PySem.Str.ofString "write_number") (PySem.Str.ofString "write_number") s_write_number f fd) : FnOk G.P G.w G.K G.mg G.base (L2.CX G.P G.w) 1 f fd ["prime", "number"] (spD G 2 false den_write_number) :=
  fn_mk (N := N_write_number) (t := _) (g := body_write_number) (own' := []) T.xi FF sc_write_number rfl fun X W F tk po =>
    (ss_cons T.xi (s_if (own' := []) (t_cmp F cr_gt (d_nm0 F n_write_number_0 v_write_number_0 (by decide)) d_int (nomark _)) (ss_one (s_ret (d_strI F gl_write_number_str T.b_str (a_cons (d_nm0 F n_write_number_1 v_write_number_1 (by decide)) a_nil)) rfl (by rfl))) (ss_nil (own' := []) (by rfl)) (by rfl)) (ss_cons T.xi (s_if (own' := []) (t_cmp F cr_eq (d_ixN F n_write_number_1 v_write_number_1 d_int) d_int (nomark _)) (ss_one (s_ret (d_strI F gl_write_number_str T.b_str (a_cons (d_ixN F n_write_number_1 v_write_number_1 d_int) a_nil)) rfl (by rfl))) (ss_nil (own' := []) (by rfl)) (by rfl)) (ss_one (s_ret (d_fstr (DJ.cons (d_fmt (d_ixN F n_write_number_1 v_write_number_1 d_int)) (DJ.cons d_str (DJ.cons (d_fmt (d_ixN F n_write_number_1 v_write_number_1 d_int)) DJ.nil)))) rfl (by rfl)))))
/-! ### write_words -/
abbrev s_write_words : Stmt := topS 13
abbrev N_write_words : List PySem.Str := ["words"]
theorem sc_write_words : FnScope N_write_words ["words"] (defScope s_write_words) := ⟨rfl, rfl, rfl, by decide +kernel, rfl, by decide +kernel, by decide +kernel⟩
theorem nd_write_words : (bodyS N_write_words s_write_words).N.Nodup := sc_write_words.nd
theorem n_write_words_0 : (bodyS N_write_words s_write_words).N[0]? = some (PySem.Str.ofString "words") := rfl
theorem v_write_words_0 : Vis (bodyS N_write_words s_write_words).sc (PySem.Str.ofString "words") := Or.inl (by decide +kernel)
theorem l_write_words_0 : L2.Loc (bodyS N_write_words s_write_words).sc (PySem.Str.ofString "words") := Or.inl (by decide +kernel)
theorem l0_write_words_0 : (bodyS N_write_words s_write_words).sc.names.lookup (PySem.Str.ofString "words") = some .local := by decide +kernel
noncomputable def body_write_words : DEnv → Fl := retF (ifV (toB (b2 neD (nmD 0) (lstA (nilA)))) (m1D joiD (cD (.str (PySem.Str.ofString " "))) (nmD 0)) (cD (.str (PySem.Str.ofString "none"))))
noncomputable def den_write_words : List D → R D := runD 1 body_write_words
theorem ok_write_words {G : Cfg} (T : Tp G)  {f : Addr} {fd : FuncData} (FF : Fun G.K (PySem.Str.ofString "write_words") (PySem.Str.ofString "write_words") s_write_words f fd) : FnOk G.P G.w G.K G.mg G.base (L2.CX G.P G.w) 1 f fd ["words"] (spD G 1 false den_write_words) :=
  fn_mk (N := N_write_words) (t := _) (g := body_write_words) (own' := []) T.xi FF sc_write_words rfl fun X W F tk po =>
    (ss_one (s_ret (d_if (t_cmp F cr_ne (d_nm0 F n_write_words_0 v_write_words_0 (by decide)) (DF.de (d_lst a_nil)) (nomark _)) (d_join F d_str (d_nm0 F n_write_words_0 v_write_words_0 (by decide))) d_str) rfl (by rfl)))
/-! ### write_values -/
abbrev s_write_values : Stmt := topS 14
abbrev N_write_values : List PySem.Str := ["prime", "numbers", "number"]
theorem sc_write_values : FnScope N_write_values ["prime", "numbers"] (defScope s_write_values) := ⟨rfl, rfl, rfl, by decide +kernel, rfl, by decide +kernel, by decide +kernel⟩
theorem nd_write_values : (bodyS N_write_values s_write_values).N.Nodup := sc_write_values.nd
theorem n_write_values_0 : (bodyS N_write_values s_write_values).N[0]? = some (PySem.Str.ofString "prime") := rfl
theorem v_write_values_0 : Vis (bodyS N_write_values s_write_values).sc (PySem.Str.ofString "prime") := Or.inr (Or.inl (by decide +kernel))
theorem l_write_values_0 : L2.Loc (bodyS N_write_values s_write_values).sc (PySem.Str.ofString "prime") := Or.inr (by decide +kernel)
theorem n_write_values_1 : (bodyS N_write_values s_write_values).N[1]? = some (PySem.Str.ofString "numbers") := rfl
theorem v_write_values_1 : Vis (bodyS N_write_values s_write_values).sc (PySem.Str.ofString "numbers") := Or.inl (by decide +kernel)
theorem l_write_values_1 : L2.Loc (bodyS N_write_values s_write_values).sc (PySem.Str.ofString "numbers") := Or.inl (by decide +kernel)
theorem l0_write_values_1 : (bodyS N_write_values s_write_values).sc.names.lookup (PySem.Str.ofString "numbers") = some .local := by decide +kernel
theorem n_write_values_2 : (bodyS N_write_values s_write_values).N[2]? = some (PySem.Str.ofString "number") := rfl
theorem gl_write_values_write_words : (bodyS N_write_values s_write_values).sc.names.lookup (PySem.Str.ofString "write_words") = some .globalImplicit := by decide +kernel
noncomputable def body_write_values : DEnv → Fl := retF (callF den_write_words (consA (lcD [2] (itS (nmD 1)) (putD 2) (yesB) (callF den_write_number (consA (nmD 0) (consA (nmD 2) (nilA))))) (nilA)))
noncomputable def den_write_values : List D → R D := runD 3 body_write_values
theorem ok_write_values {G : Cfg} (T : Tp G) (c_write_number : FnD G 1 (PySem.Str.ofString "write_number") 2 false den_write_number) (c_write_words : FnD G 1 (PySem.Str.ofString "write_words") 1 false den_write_words) {f : Addr} {fd : FuncData} (FF : Fun G.K (PySem.Str.ofString "write_values") (PySem.Str.ofString "write_values") s_write_values f fd) : FnOk G.P G.w G.K G.mg G.base (L2.CX G.P G.w) 2 f fd ["prime", "numbers"] (spD G 2 false den_write_values) :=
  fn_mk (N := N_write_values) (t := _) (g := body_write_values) (own' := []) T.xi FF sc_write_values rfl fun X W F tk po =>
    (ss_one (s_ret (d_call F tk c_write_words (by decide) gl_write_values_write_words (a_cons (DF.de (d_lc (bo := [((PySem.Str.ofString "number"), 2)]) F nd_write_values (by decide +kernel) (i_seq F (d_nm0 F n_write_values_1 v_write_values_1 (by decide))) (fun X1 F1 => (g_name F1 nd_write_values n_write_values_2 (Or.inl rfl) (Or.inr rfl) (by decide))) (fun X1 F1 tk1 => ts_nil) (fun X1 F1 tk1 => (d_call F1 tk1 c_write_number (by decide) (by rfl) (a_cons (d_nm0 F1 n_write_values_0 (Or.inr (Or.inl rfl)) (by decide)) (a_cons (d_nm0 F1 n_write_values_2 (Or.inl rfl) (by decide)) a_nil)) rfl (hlen := (len_cons (len_cons len_nil))))) (by decide) (by decide))) a_nil) rfl (hlen := (len_cons len_nil))) rfl (by rfl)))
/-! ### read_integer -/
abbrev s_read_integer : Stmt := topS 16
abbrev N_read_integer : List PySem.Str := ["text", "digits"]
theorem sc_read_integer : FnScope N_read_integer ["text"] (defScope s_read_integer) := ⟨rfl, rfl, rfl, by decide +kernel, rfl, by decide +kernel, by decide +kernel⟩
theorem nd_read_integer : (bodyS N_read_integer s_read_integer).N.Nodup := sc_read_integer.nd
theorem n_read_integer_0 : (bodyS N_read_integer s_read_integer).N[0]? = some (PySem.Str.ofString "text") := rfl
theorem v_read_integer_0 : Vis (bodyS N_read_integer s_read_integer).sc (PySem.Str.ofString "text") := Or.inl (by decide +kernel)
theorem l_read_integer_0 : L2.Loc (bodyS N_read_integer s_read_integer).sc (PySem.Str.ofString "text") := Or.inl (by decide +kernel)
theorem l0_read_integer_0 : (bodyS N_read_integer s_read_integer).sc.names.lookup (PySem.Str.ofString "text") = some .local := by decide +kernel
theorem n_read_integer_1 : (bodyS N_read_integer s_read_integer).N[1]? = some (PySem.Str.ofString "digits") := rfl
theorem v_read_integer_1 : Vis (bodyS N_read_integer s_read_integer).sc (PySem.Str.ofString "digits") := Or.inl (by decide +kernel)
theorem l_read_integer_1 : L2.Loc (bodyS N_read_integer s_read_integer).sc (PySem.Str.ofString "digits") := Or.inl (by decide +kernel)
theorem l0_read_integer_1 : (bodyS N_read_integer s_read_integer).sc.names.lookup (PySem.Str.ofString "digits") = some .local := by decide +kernel
theorem gl_read_integer_InvalidText : (bodyS N_read_integer s_read_integer).sc.names.lookup (PySem.Str.ofString "InvalidText") = some .globalImplicit := by decide +kernel
theorem gl_read_integer_int : (bodyS N_read_integer s_read_integer).sc.names.lookup (PySem.Str.ofString "int") = some .globalImplicit := by decide +kernel
noncomputable def body_read_integer : DEnv → Fl := seqF (setF 1 (m1D rpxD (nmD 0) (cD (.str (PySem.Str.ofString "-"))))) (seqF (ifF (orB (notB (toT (m0D isdD (nmD 1)))) (andB (toT (m1D swiD (nmD 1) (cD (.str (PySem.Str.ofString "0"))))) (toB (b2 neD (nmD 0) (cD (.str (PySem.Str.ofString "0"))))))) (raiseF "InvalidText") (nxD)) (retF (callF intAD (consA (nmD 0) (nilA)))))
noncomputable def den_read_integer : List D → R D := runD 2 body_read_integer
theorem ok_read_integer {G : Cfg} (T : Tp G)  {f : Addr} {fd : FuncData} (FF : Fun G.K (PySem.Str.ofString "read_integer") (PySem.Str.ofString "read_integer") s_read_integer f fd) : FnOk G.P G.w G.K G.mg G.base (L2.CX G.P G.w) 1 f fd ["text"] (spD G 1 false den_read_integer) :=
  fn_mk (N := N_read_integer) (t := _) (g := body_read_integer) (own' := []) T.xi FF sc_read_integer rfl fun X W F tk po =>
    (ss_cons T.xi (s_set (own' := []) F nd_read_integer n_read_integer_1 l_read_integer_1 (Or.inl rfl) (d_removeprefix (d_nm0 F n_read_integer_0 v_read_integer_0 (by decide)) d_str) (by rfl) (by rfl)) (ss_cons T.xi (s_if (own' := []) (DW.dt (w_or (t_not (t_tru F (d_isdigit (d_nm0 F n_read_integer_1 v_read_integer_1 (by decide))))) (w_or1 (DW.dt (w_and (t_tru F (d_startswith (d_nm0 F n_read_integer_1 v_read_integer_1 (by decide)) d_str)) (w_and1 (t_cmp F cr_ne (d_nm0 F n_read_integer_0 v_read_integer_0 (by decide)) d_str (nomark _)))))))) (ss_one (s_raise F tk T.e_InvalidText gl_read_integer_InvalidText (by rfl))) (ss_nil (own' := []) (by rfl)) (by rfl)) (ss_one (s_ret (d_intA F gl_read_integer_int T.b_int (a_cons (d_nm0 F n_read_integer_0 v_read_integer_0 (by decide)) a_nil)) rfl (by rfl)))))
/-! ### read_number -/
abbrev s_read_number : Stmt := topS 17
abbrev N_read_number : List PySem.Str := ["prime", "text", "numerator", "slash", "denominator", "number"]
theorem sc_read_number : FnScope N_read_number ["prime", "text"] (defScope s_read_number) := ⟨rfl, rfl, rfl, by decide +kernel, rfl, by decide +kernel, by decide +kernel⟩
theorem nd_read_number : (bodyS N_read_number s_read_number).N.Nodup := sc_read_number.nd
theorem n_read_number_0 : (bodyS N_read_number s_read_number).N[0]? = some (PySem.Str.ofString "prime") := rfl
theorem v_read_number_0 : Vis (bodyS N_read_number s_read_number).sc (PySem.Str.ofString "prime") := Or.inl (by decide +kernel)
theorem l_read_number_0 : L2.Loc (bodyS N_read_number s_read_number).sc (PySem.Str.ofString "prime") := Or.inl (by decide +kernel)
theorem l0_read_number_0 : (bodyS N_read_number s_read_number).sc.names.lookup (PySem.Str.ofString "prime") = some .local := by decide +kernel
theorem n_read_number_1 : (bodyS N_read_number s_read_number).N[1]? = some (PySem.Str.ofString "text") := rfl
theorem v_read_number_1 : Vis (bodyS N_read_number s_read_number).sc (PySem.Str.ofString "text") := Or.inl (by decide +kernel)
theorem l_read_number_1 : L2.Loc (bodyS N_read_number s_read_number).sc (PySem.Str.ofString "text") := Or.inl (by decide +kernel)
theorem l0_read_number_1 : (bodyS N_read_number s_read_number).sc.names.lookup (PySem.Str.ofString "text") = some .local := by decide +kernel
theorem n_read_number_2 : (bodyS N_read_number s_read_number).N[2]? = some (PySem.Str.ofString "numerator") := rfl
theorem v_read_number_2 : Vis (bodyS N_read_number s_read_number).sc (PySem.Str.ofString "numerator") := Or.inl (by decide +kernel)
theorem l_read_number_2 : L2.Loc (bodyS N_read_number s_read_number).sc (PySem.Str.ofString "numerator") := Or.inl (by decide +kernel)
theorem l0_read_number_2 : (bodyS N_read_number s_read_number).sc.names.lookup (PySem.Str.ofString "numerator") = some .local := by decide +kernel
theorem n_read_number_3 : (bodyS N_read_number s_read_number).N[3]? = some (PySem.Str.ofString "slash") := rfl
theorem v_read_number_3 : Vis (bodyS N_read_number s_read_number).sc (PySem.Str.ofString "slash") := Or.inl (by decide +kernel)
theorem l_read_number_3 : L2.Loc (bodyS N_read_number s_read_number).sc (PySem.Str.ofString "slash") := Or.inl (by decide +kernel)
theorem l0_read_number_3 : (bodyS N_read_number s_read_number).sc.names.lookup (PySem.Str.ofString "slash") = some .local := by decide +kernel
theorem n_read_number_4 : (bodyS N_read_number s_read_number).N[4]? = some (PySem.Str.ofString "denominator") := rfl
theorem v_read_number_4 : Vis (bodyS N_read_number s_read_number).sc (PySem.Str.ofString "denominator") := Or.inl (by decide +kernel)
theorem l_read_number_4 : L2.Loc (bodyS N_read_number s_read_number).sc (PySem.Str.ofString "denominator") := Or.inl (by decide +kernel)
theorem l0_read_number_4 : (bodyS N_read_number s_read_number).sc.names.lookup (PySem.Str.ofString "denominator") = some .local := by decide +kernel
theorem n_read_number_5 : (bodyS N_read_number s_read_number).N[5]? = some (PySem.Str.ofString "number") := rfl
theorem v_read_number_5 : Vis (bodyS N_read_number s_read_number).sc (PySem.Str.ofString "number") := Or.inl (by decide +kernel)
theorem l_read_number_5 : L2.Loc (bodyS N_read_number s_read_number).sc (PySem.Str.ofString "number") := Or.inl (by decide +kernel)
theorem l0_read_number_5 : (bodyS N_read_number s_read_number).sc.names.lookup (PySem.Str.ofString "number") = some .local := by decide +kernel
theorem gl_read_number_InvalidText : (bodyS N_read_number s_read_number).sc.names.lookup (PySem.Str.ofString "InvalidText") = some .globalImplicit := by decide +kernel
theorem gl_read_number_is_number : (bodyS N_read_number s_read_number).sc.names.lookup (PySem.Str.ofString "is_number") = some .globalImplicit := by decide +kernel
theorem gl_read_number_read_integer : (bodyS N_read_number s_read_number).sc.names.lookup (PySem.Str.ofString "read_integer") = some .globalImplicit := by decide +kernel
theorem gl_read_number_write_number : (bodyS N_read_number s_read_number).sc.names.lookup (PySem.Str.ofString "write_number") = some .globalImplicit := by decide +kernel
noncomputable def body_read_number : DEnv → Fl := seqF (asgF (m1D parD (nmD 1) (cD (.str (PySem.Str.ofString "/")))) (tupT (consT (putD 2) (consT (putD 3) (consT (putD 4) (nilT)))))) (seqF (ifF (toB (b2 gtD (nmD 0) (cD (.int 0)))) (seqF (setF 5 (callF den_read_integer (consA (nmD 1) (nilA)))) (nxD)) (seqF (ifF (toB (b2 eqD (nmD 3) (cD (.str (PySem.Str.ofString ""))))) (seqF (setF 5 (tupA (consA (callF den_read_integer (consA (nmD 1) (nilA))) (consA (cD (.int 1)) (nilA))))) (nxD)) (seqF (setF 5 (tupA (consA (callF den_read_integer (consA (nmD 2) (nilA))) (consA (callF den_read_integer (consA (nmD 4) (nilA))) (nilA))))) (nxD))) (nxD))) (seqF (ifF (orB (notB (toT (callF den_is_number (consA (nmD 0) (consA (nmD 5) (nilA)))))) (toB (b2 neD (callF den_write_number (consA (nmD 0) (consA (nmD 5) (nilA)))) (nmD 1)))) (raiseF "InvalidText") (nxD)) (retF (nmD 5))))
noncomputable def den_read_number : List D → R D := runD 6 body_read_number
theorem ok_read_number {G : Cfg} (T : Tp G) (c_is_number : FnD G 2 (PySem.Str.ofString "is_number") 2 false den_is_number) (c_write_number : FnD G 1 (PySem.Str.ofString "write_number") 2 false den_write_number) (c_read_integer : FnD G 1 (PySem.Str.ofString "read_integer") 1 false den_read_integer) {f : Addr} {fd : FuncData} (FF : Fun G.K (PySem.Str.ofString "read_number") (PySem.Str.ofString "read_number") s_read_number f fd) : FnOk G.P G.w G.K G.mg G.base (L2.CX G.P G.w) 3 f fd ["prime", "text"] (spD G 2 false den_read_number) :=
  fn_mk (N := N_read_number) (t := _) (g := body_read_number) (own' := []) T.xi FF sc_read_number rfl fun X W F tk po =>
    (ss_cons T.xi (s_asg (own' := []) (d_partition (d_nm0 F n_read_number_1 v_read_number_1 (by decide)) d_str) (g_tup F (gs_cons (g_name F nd_read_number n_read_number_2 l_read_number_2 (Or.inl rfl) (by decide)) (gs_cons (g_name F nd_read_number n_read_number_3 l_read_number_3 (Or.inl rfl) (by decide)) (gs_cons (g_name F nd_read_number n_read_number_4 l_read_number_4 (Or.inl rfl) (by decide)) gs_nil))) rfl (hl := (lenT_cons (lenT_cons (lenT_cons lenT_nil))))) (by rfl) (by rfl)) (ss_cons T.xi (s_if (own' := []) (t_cmp F cr_gt (d_nm0 F n_read_number_0 v_read_number_0 (by decide)) d_int (nomark _)) (ss_cons T.xi (s_set (own' := []) F nd_read_number n_read_number_5 l_read_number_5 (Or.inl rfl) (d_call F tk c_read_integer (by decide) gl_read_number_read_integer (a_cons (d_nm0 F n_read_number_1 v_read_number_1 (by decide)) a_nil) rfl (hlen := (len_cons len_nil))) (by rfl) (by rfl)) (ss_nil (own' := []) (by rfl))) (ss_cons T.xi (s_if (own' := []) (t_cmp F cr_eq (d_nm0 F n_read_number_3 v_read_number_3 (by decide)) d_str (nomark _)) (ss_cons T.xi (s_set (own' := []) F nd_read_number n_read_number_5 l_read_number_5 (Or.inl rfl) (d_tup (a_cons (d_call F tk c_read_integer (by decide) gl_read_number_read_integer (a_cons (d_nm0 F n_read_number_1 v_read_number_1 (by decide)) a_nil) rfl (hlen := (len_cons len_nil))) (a_cons d_int a_nil))) (by rfl) (by rfl)) (ss_nil (own' := []) (by rfl))) (ss_cons T.xi (s_set (own' := []) F nd_read_number n_read_number_5 l_read_number_5 (Or.inl rfl) (d_tup (a_cons (d_call F tk c_read_integer (by decide) gl_read_number_read_integer (a_cons (d_nm0 F n_read_number_2 v_read_number_2 (by decide)) a_nil) rfl (hlen := (len_cons len_nil))) (a_cons (d_call F tk c_read_integer (by decide) gl_read_number_read_integer (a_cons (d_nm0 F n_read_number_4 v_read_number_4 (by decide)) a_nil) rfl (hlen := (len_cons len_nil))) a_nil))) (by rfl) (by rfl)) (ss_nil (own' := []) (by rfl))) (by rfl)) (ss_nil (own' := []) (by rfl))) (by rfl)) (ss_cons T.xi (s_if (own' := []) (DW.dt (w_or (t_not (t_tru F (d_call F tk c_is_number (by decide) gl_read_number_is_number (a_cons (d_nm0 F n_read_number_0 v_read_number_0 (by decide)) (a_cons (d_nm0 F n_read_number_5 v_read_number_5 (by decide)) a_nil)) rfl (hlen := (len_cons (len_cons len_nil)))))) (w_or1 (t_cmp F cr_ne (d_call F tk c_write_number (by decide) gl_read_number_write_number (a_cons (d_nm0 F n_read_number_0 v_read_number_0 (by decide)) (a_cons (d_nm0 F n_read_number_5 v_read_number_5 (by decide)) a_nil)) rfl (hlen := (len_cons (len_cons len_nil)))) (d_nm0 F n_read_number_1 v_read_number_1 (by decide)) (nomark _))))) (ss_one (s_raise F tk T.e_InvalidText gl_read_number_InvalidText (by rfl))) (ss_nil (own' := []) (by rfl)) (by rfl)) (ss_one (s_ret (d_nm0 F n_read_number_5 v_read_number_5 (by decide)) rfl (by rfl))))))
/-! ### words_of -/
abbrev s_words_of : Stmt := topS 18
abbrev N_words_of : List PySem.Str := ["text"]
theorem sc_words_of : FnScope N_words_of ["text"] (defScope s_words_of) := ⟨rfl, rfl, rfl, by decide +kernel, rfl, by decide +kernel, by decide +kernel⟩
theorem nd_words_of : (bodyS N_words_of s_words_of).N.Nodup := sc_words_of.nd
theorem n_words_of_0 : (bodyS N_words_of s_words_of).N[0]? = some (PySem.Str.ofString "text") := rfl
theorem v_words_of_0 : Vis (bodyS N_words_of s_words_of).sc (PySem.Str.ofString "text") := Or.inl (by decide +kernel)
theorem l_words_of_0 : L2.Loc (bodyS N_words_of s_words_of).sc (PySem.Str.ofString "text") := Or.inl (by decide +kernel)
theorem l0_words_of_0 : (bodyS N_words_of s_words_of).sc.names.lookup (PySem.Str.ofString "text") = some .local := by decide +kernel
noncomputable def body_words_of : DEnv → Fl := retF (ifV (toB (b2 neD (nmD 0) (cD (.str (PySem.Str.ofString "none"))))) (m1D splD (nmD 0) (cD (.str (PySem.Str.ofString " ")))) (lstA (nilA)))
noncomputable def den_words_of : List D → R D := runD 1 body_words_of
theorem ok_words_of {G : Cfg} (T : Tp G)  {f : Addr} {fd : FuncData} (FF : Fun G.K (PySem.Str.ofString "words_of") (PySem.Str.ofString "words_of") s_words_of f fd) : FnOk G.P G.w G.K G.mg G.base (L2.CX G.P G.w) 1 f fd ["text"] (spD G 1 false den_words_of) :=
  fn_mk (N := N_words_of) (t := _) (g := body_words_of) (own' := []) T.xi FF sc_words_of rfl fun X W F tk po =>
    (ss_one (s_ret (d_if (t_cmp F cr_ne (d_nm0 F n_words_of_0 v_words_of_0 (by decide)) d_str (nomark _)) (d_split (d_nm0 F n_words_of_0 v_words_of_0 (by decide)) d_str) (DF.de (d_lst a_nil))) rfl (by rfl)))
/-! ### read_values -/
abbrev s_read_values : Stmt := topS 19
abbrev N_read_values : List PySem.Str := ["prime", "text", "word"]
theorem sc_read_values : FnScope N_read_values ["prime", "text"] (defScope s_read_values) := ⟨rfl, rfl, rfl, by decide +kernel, rfl, by decide +kernel, by decide +kernel⟩
theorem nd_read_values : (bodyS N_read_values s_read_values).N.Nodup := sc_read_values.nd
theorem n_read_values_0 : (bodyS N_read_values s_read_values).N[0]? = some (PySem.Str.ofString "prime") := rfl
theorem v_read_values_0 : Vis (bodyS N_read_values s_read_values).sc (PySem.Str.ofString "prime") := Or.inr (Or.inl (by decide +kernel))
theorem l_read_values_0 : L2.Loc (bodyS N_read_values s_read_values).sc (PySem.Str.ofString "prime") := Or.inr (by decide +kernel)
theorem n_read_values_1 : (bodyS N_read_values s_read_values).N[1]? = some (PySem.Str.ofString "text") := rfl
theorem v_read_values_1 : Vis (bodyS N_read_values s_read_values).sc (PySem.Str.ofString "text") := Or.inl (by decide +kernel)
theorem l_read_values_1 : L2.Loc (bodyS N_read_values s_read_values).sc (PySem.Str.ofString "text") := Or.inl (by decide +kernel)
theorem l0_read_values_1 : (bodyS N_read_values s_read_values).sc.names.lookup (PySem.Str.ofString "text") = some .local := by decide +kernel
theorem n_read_values_2 : (bodyS N_read_values s_read_values).N[2]? = some (PySem.Str.ofString "word") := rfl
theorem gl_read_values_words_of : (bodyS N_read_values s_read_values).sc.names.lookup (PySem.Str.ofString "words_of") = some .globalImplicit := by decide +kernel
noncomputable def body_read_values : DEnv → Fl := retF (lcHD [2] (itS (callF den_words_of (consA (nmD 1) (nilA)))) (putD 2) (callF den_read_number (consA (nmD 0) (consA (nmD 2) (nilA)))))
noncomputable def den_read_values : List D → R D := runD 3 body_read_values
theorem ok_read_values {G : Cfg} (T : Tp G) (c_read_number : FnD G 3 (PySem.Str.ofString "read_number") 2 false den_read_number) (c_words_of : FnD G 1 (PySem.Str.ofString "words_of") 1 false den_words_of) {f : Addr} {fd : FuncData} (FF : Fun G.K (PySem.Str.ofString "read_values") (PySem.Str.ofString "read_values") s_read_values f fd) : FnOk G.P G.w G.K G.mg G.base (L2.CX G.P G.w) 4 f fd ["prime", "text"] (spD G 2 true den_read_values) :=
  fn_mk (N := N_read_values) (t := _) (g := body_read_values) (own' := []) T.xi FF sc_read_values rfl fun X W F tk po =>
    (ss_one (s_retF (d_lcH (bo := [((PySem.Str.ofString "word"), 2)]) F tk nd_read_values (by decide +kernel) (i_seq F (d_call F tk c_words_of (by decide) gl_read_values_words_of (a_cons (d_nm0 F n_read_values_1 v_read_values_1 (by decide)) a_nil) rfl (hlen := (len_cons len_nil)))) (fun X1 F1 => (g_name F1 nd_read_values n_read_values_2 (Or.inl rfl) (Or.inr rfl) (by decide))) (fun X1 W1 F1 tk1 => (d_call F1 tk1 c_read_number (by decide) (by rfl) (a_cons (d_nm0 F1 n_read_values_0 (Or.inr (Or.inl rfl)) (by decide)) (a_cons (d_nm0 F1 n_read_values_2 (Or.inl rfl) (by decide)) a_nil)) rfl (hlen := (len_cons (len_cons len_nil))))) (by decide) (by decide)) rfl (by rfl)))
/-! ### _law_pool -/
abbrev s__law_pool : Stmt := topS 21
abbrev N__law_pool : List PySem.Str := ["script", "count", "pool", "total", "cell", "k", "left", "mixed"]
theorem sc__law_pool : FnScope N__law_pool ["script", "count"] (defScope s__law_pool) := ⟨rfl, rfl, rfl, by decide +kernel, rfl, by decide +kernel, by decide +kernel⟩
theorem nd__law_pool : (bodyS N__law_pool s__law_pool).N.Nodup := sc__law_pool.nd
theorem n__law_pool_0 : (bodyS N__law_pool s__law_pool).N[0]? = some (PySem.Str.ofString "script") := rfl
theorem v__law_pool_0 : Vis (bodyS N__law_pool s__law_pool).sc (PySem.Str.ofString "script") := Or.inl (by decide +kernel)
theorem l__law_pool_0 : L2.Loc (bodyS N__law_pool s__law_pool).sc (PySem.Str.ofString "script") := Or.inl (by decide +kernel)
theorem l0__law_pool_0 : (bodyS N__law_pool s__law_pool).sc.names.lookup (PySem.Str.ofString "script") = some .local := by decide +kernel
theorem n__law_pool_1 : (bodyS N__law_pool s__law_pool).N[1]? = some (PySem.Str.ofString "count") := rfl
theorem v__law_pool_1 : Vis (bodyS N__law_pool s__law_pool).sc (PySem.Str.ofString "count") := Or.inl (by decide +kernel)
theorem l__law_pool_1 : L2.Loc (bodyS N__law_pool s__law_pool).sc (PySem.Str.ofString "count") := Or.inl (by decide +kernel)
theorem l0__law_pool_1 : (bodyS N__law_pool s__law_pool).sc.names.lookup (PySem.Str.ofString "count") = some .local := by decide +kernel
theorem n__law_pool_2 : (bodyS N__law_pool s__law_pool).N[2]? = some (PySem.Str.ofString "pool") := rfl
theorem v__law_pool_2 : Vis (bodyS N__law_pool s__law_pool).sc (PySem.Str.ofString "pool") := Or.inl (by decide +kernel)
theorem l__law_pool_2 : L2.Loc (bodyS N__law_pool s__law_pool).sc (PySem.Str.ofString "pool") := Or.inl (by decide +kernel)
theorem l0__law_pool_2 : (bodyS N__law_pool s__law_pool).sc.names.lookup (PySem.Str.ofString "pool") = some .local := by decide +kernel
theorem n__law_pool_3 : (bodyS N__law_pool s__law_pool).N[3]? = some (PySem.Str.ofString "total") := rfl
theorem v__law_pool_3 : Vis (bodyS N__law_pool s__law_pool).sc (PySem.Str.ofString "total") := Or.inl (by decide +kernel)
theorem l__law_pool_3 : L2.Loc (bodyS N__law_pool s__law_pool).sc (PySem.Str.ofString "total") := Or.inl (by decide +kernel)
theorem l0__law_pool_3 : (bodyS N__law_pool s__law_pool).sc.names.lookup (PySem.Str.ofString "total") = some .local := by decide +kernel
theorem n__law_pool_4 : (bodyS N__law_pool s__law_pool).N[4]? = some (PySem.Str.ofString "cell") := rfl
theorem v__law_pool_4 : Vis (bodyS N__law_pool s__law_pool).sc (PySem.Str.ofString "cell") := Or.inl (by decide +kernel)
theorem l__law_pool_4 : L2.Loc (bodyS N__law_pool s__law_pool).sc (PySem.Str.ofString "cell") := Or.inl (by decide +kernel)
theorem l0__law_pool_4 : (bodyS N__law_pool s__law_pool).sc.names.lookup (PySem.Str.ofString "cell") = some .local := by decide +kernel
theorem n__law_pool_5 : (bodyS N__law_pool s__law_pool).N[5]? = some (PySem.Str.ofString "k") := rfl
theorem v__law_pool_5 : Vis (bodyS N__law_pool s__law_pool).sc (PySem.Str.ofString "k") := Or.inl (by decide +kernel)
theorem l__law_pool_5 : L2.Loc (bodyS N__law_pool s__law_pool).sc (PySem.Str.ofString "k") := Or.inl (by decide +kernel)
theorem l0__law_pool_5 : (bodyS N__law_pool s__law_pool).sc.names.lookup (PySem.Str.ofString "k") = some .local := by decide +kernel
theorem n__law_pool_6 : (bodyS N__law_pool s__law_pool).N[6]? = some (PySem.Str.ofString "left") := rfl
theorem v__law_pool_6 : Vis (bodyS N__law_pool s__law_pool).sc (PySem.Str.ofString "left") := Or.inl (by decide +kernel)
theorem l__law_pool_6 : L2.Loc (bodyS N__law_pool s__law_pool).sc (PySem.Str.ofString "left") := Or.inl (by decide +kernel)
theorem l0__law_pool_6 : (bodyS N__law_pool s__law_pool).sc.names.lookup (PySem.Str.ofString "left") = some .local := by decide +kernel
theorem n__law_pool_7 : (bodyS N__law_pool s__law_pool).N[7]? = some (PySem.Str.ofString "mixed") := rfl
theorem v__law_pool_7 : Vis (bodyS N__law_pool s__law_pool).sc (PySem.Str.ofString "mixed") := Or.inl (by decide +kernel)
theorem l__law_pool_7 : L2.Loc (bodyS N__law_pool s__law_pool).sc (PySem.Str.ofString "mixed") := Or.inl (by decide +kernel)
theorem l0__law_pool_7 : (bodyS N__law_pool s__law_pool).sc.names.lookup (PySem.Str.ofString "mixed") = some .local := by decide +kernel
theorem gl__law_pool_int : (bodyS N__law_pool s__law_pool).sc.names.lookup (PySem.Str.ofString "int") = some .globalImplicit := by decide +kernel
theorem gl__law_pool_range : (bodyS N__law_pool s__law_pool).sc.names.lookup (PySem.Str.ofString "range") = some .globalImplicit := by decide +kernel
noncomputable def body__law_pool : DEnv → Fl := seqF (setF 2 (lstA (nilA))) (seqF (setF 3 (cD (.int 7))) (seqF (forF (itS (nmD 0)) (putD 4) (seqF (setF 6 (ifV (toB (b2 geD (nmD 4) (cD (.int 0)))) (b2 mulD (cD (.int 2)) (callF intAD (consA (nmD 4) (nilA)))) (b2 subD (b2 mulD (u1 negD (cD (.int 2))) (callF intAD (consA (nmD 4) (nilA)))) (cD (.int 1))))) (seqF (setF 3 (b2 modD (callF intAD (consA (b2 addD (b2 mulD (nmD 3) (cD (.int 31))) (nmD 6)) (nilA))) (cD (.int 2147483629)))) (seqF (ifF (toB (b2 geD (nmD 6) (b2 powD (cD (.int 10)) (cD (.int 18))))) (seqF (forF (rng1 (consA (nmD 1) (nilA))) (putD 5) (seqF (ifF (toB (b2 gtD (nmD 6) (cD (.int 0)))) (seqF (appF 2 (b2 modD (nmD 6) (cD (.int 1000)))) (seqF (setF 6 (b2 fdivD (nmD 6) (cD (.int 1000)))) (nxD))) (nxD)) (nxD))) (nxD)) (seqF (setF 7 (b2 modD (callF intAD (consA (b2 addD (b2 mulD (b2 addD (nmD 6) (cD (.int 5))) (cD (.int 40692))) (cD (.int 977))) (nilA))) (cD (.int 2147483399)))) (seqF (forF (rng1 (consA (cD (.int 6)) (nilA))) (putD 5) (seqF (setF 7 (b2 modD (callF intAD (consA (b2 addD (b2 mulD (nmD 7) (cD (.int 48271))) (cD (.int 11))) (nilA))) (cD (.int 2147483647)))) (seqF (appF 2 (b2 modD (b2 fdivD (nmD 7) (cD (.int 7))) (cD (.int 1000)))) (nxD)))) (nxD)))) (nxD))))) (seqF (forF (rng1 (consA (nmD 1) (nilA))) (putD 5) (seqF (setF 3 (b2 modD (callF intAD (consA (b2 addD (b2 mulD (nmD 3) (cD (.int 69621))) (cD (.int 13))) (nilA))) (cD (.int 2147483629)))) (seqF (appF 2 (b2 modD (b2 fdivD (nmD 3) (cD (.int 11))) (cD (.int 1000)))) (nxD)))) (retF (sl3 cutD (nmD 2) (noP) (someP (nmD 1)))))))
noncomputable def den__law_pool : List D → R D := runD 8 body__law_pool
theorem ok__law_pool {G : Cfg} (T : Tp G)  {f : Addr} {fd : FuncData} (FF : Fun G.K (PySem.Str.ofString "_law_pool") (PySem.Str.ofString "_law_pool") s__law_pool f fd) : FnOk G.P G.w G.K G.mg G.base (L2.CX G.P G.w) 1 f fd ["script", "count"] (spD G 2 false den__law_pool) :=
  fn_mk (N := N__law_pool) (t := _) (g := body__law_pool) (own' := []) T.xi FF sc__law_pool rfl fun X W F tk po =>
    (ss_cons T.xi (s_setF (own' := []) F nd__law_pool n__law_pool_2 l__law_pool_2 (Or.inl rfl) (d_lst a_nil) (by rfl) (by rfl)) (ss_cons T.xi (s_set (own' := [2]) F nd__law_pool n__law_pool_3 l__law_pool_3 (Or.inl rfl) d_int (by rfl) (by rfl)) (ss_cons T.xi (s_for (own' := [2]) (olp := [2]) F po (i_seq F (d_nm0 F n__law_pool_0 v__law_pool_0 (by decide))) (g_name F nd__law_pool n__law_pool_4 l__law_pool_4 (Or.inl rfl) (by decide)) (ss_cons T.xi (s_set (own' := [2]) F nd__law_pool n__law_pool_6 l__law_pool_6 (Or.inl rfl) (d_if (t_cmp F cr_ge (d_nm0 F n__law_pool_4 v__law_pool_4 (by decide)) d_int (nomark _)) (d_mul d_int (d_intA F gl__law_pool_int T.b_int (a_cons (d_nm0 F n__law_pool_4 v__law_pool_4 (by decide)) a_nil))) (d_sub (d_mul (d_neg d_int) (d_intA F gl__law_pool_int T.b_int (a_cons (d_nm0 F n__law_pool_4 v__law_pool_4 (by decide)) a_nil))) d_int)) (by rfl) (by rfl)) (ss_cons T.xi (s_set (own' := [2]) F nd__law_pool n__law_pool_3 l__law_pool_3 (Or.inl rfl) (d_mod (d_intA F gl__law_pool_int T.b_int (a_cons (d_add F (d_mul (d_nm0 F n__law_pool_3 v__law_pool_3 (by decide)) d_int) (d_nm0 F n__law_pool_6 v__law_pool_6 (by decide))) a_nil)) d_int) (by rfl) (by rfl)) (ss_cons T.xi (s_if (own' := [2]) (t_cmp F cr_ge (d_nm0 F n__law_pool_6 v__law_pool_6 (by decide)) (d_pow d_int d_int) (nomark _)) (ss_cons T.xi (s_for (own' := [2]) (olp := [2]) F po (i_rng1 F gl__law_pool_range T.b_range (a_cons (d_nm0 F n__law_pool_1 v__law_pool_1 (by decide)) a_nil)) (g_name F nd__law_pool n__law_pool_5 l__law_pool_5 (Or.inl rfl) (by decide)) (ss_cons T.xi (s_if (own' := [2]) (t_cmp F cr_gt (d_nm0 F n__law_pool_6 v__law_pool_6 (by decide)) d_int (nomark _)) (ss_cons T.xi (s_app (own' := [2]) F n__law_pool_2 v__law_pool_2 (d_mod (d_nm0 F n__law_pool_6 v__law_pool_6 (by decide)) d_int) (by decide) (by rfl) (by rfl)) (ss_cons T.xi (s_set (own' := [2]) F nd__law_pool n__law_pool_6 l__law_pool_6 (Or.inl rfl) (d_fdiv (d_nm0 F n__law_pool_6 v__law_pool_6 (by decide)) d_int) (by rfl) (by rfl)) (ss_nil (own' := [2]) (by rfl)))) (ss_nil (own' := [2]) (by rfl)) (by rfl)) (ss_nil (own' := [2]) (by rfl))) (by rfl) (by rfl) (by rfl)) (ss_nil (own' := [2]) (by rfl))) (ss_cons T.xi (s_set (own' := [2]) F nd__law_pool n__law_pool_7 l__law_pool_7 (Or.inl rfl) (d_mod (d_intA F gl__law_pool_int T.b_int (a_cons (d_add F (d_mul (d_add F (d_nm0 F n__law_pool_6 v__law_pool_6 (by decide)) d_int) d_int) d_int) a_nil)) d_int) (by rfl) (by rfl)) (ss_cons T.xi (s_for (own' := [2]) (olp := [2]) F po (i_rng1 F gl__law_pool_range T.b_range (a_cons d_int a_nil)) (g_name F nd__law_pool n__law_pool_5 l__law_pool_5 (Or.inl rfl) (by decide)) (ss_cons T.xi (s_set (own' := [2]) F nd__law_pool n__law_pool_7 l__law_pool_7 (Or.inl rfl) (d_mod (d_intA F gl__law_pool_int T.b_int (a_cons (d_add F (d_mul (d_nm0 F n__law_pool_7 v__law_pool_7 (by decide)) d_int) d_int) a_nil)) d_int) (by rfl) (by rfl)) (ss_cons T.xi (s_app (own' := [2]) F n__law_pool_2 v__law_pool_2 (d_mod (d_fdiv (d_nm0 F n__law_pool_7 v__law_pool_7 (by decide)) d_int) d_int) (by decide) (by rfl) (by rfl)) (ss_nil (own' := [2]) (by rfl)))) (by rfl) (by rfl) (by rfl)) (ss_nil (own' := [2]) (by rfl)))) (by rfl)) (ss_nil (own' := [2]) (by rfl))))) (by rfl) (by rfl) (by rfl)) (ss_cons T.xi (s_for (own' := [2]) (olp := [2]) F po (i_rng1 F gl__law_pool_range T.b_range (a_cons (d_nm0 F n__law_pool_1 v__law_pool_1 (by decide)) a_nil)) (g_name F nd__law_pool n__law_pool_5 l__law_pool_5 (Or.inl rfl) (by decide)) (ss_cons T.xi (s_set (own' := [2]) F nd__law_pool n__law_pool_3 l__law_pool_3 (Or.inl rfl) (d_mod (d_intA F gl__law_pool_int T.b_int (a_cons (d_add F (d_mul (d_nm0 F n__law_pool_3 v__law_pool_3 (by decide)) d_int) d_int) a_nil)) d_int) (by rfl) (by rfl)) (ss_cons T.xi (s_app (own' := [2]) F n__law_pool_2 v__law_pool_2 (d_mod (d_fdiv (d_nm0 F n__law_pool_3 v__law_pool_3 (by decide)) d_int) d_int) (by decide) (by rfl) (by rfl)) (ss_nil (own' := [2]) (by rfl)))) (by rfl) (by rfl) (by rfl)) (ss_one (s_ret (d_slice F (d_nm F n__law_pool_2 v__law_pool_2) o_none (o_some (d_nm0 F n__law_pool_1 v__law_pool_1 (by decide)))) rfl (by rfl)))))))
/-! ### _law_common -/
abbrev s__law_common : Stmt := topS 22
abbrev N__law_common : List PySem.Str := ["a", "b"]
theorem sc__law_common : FnScope N__law_common ["a", "b"] (defScope s__law_common) := ⟨rfl, rfl, rfl, by decide +kernel, rfl, by decide +kernel, by decide +kernel⟩
theorem nd__law_common : (bodyS N__law_common s__law_common).N.Nodup := sc__law_common.nd
theorem n__law_common_0 : (bodyS N__law_common s__law_common).N[0]? = some (PySem.Str.ofString "a") := rfl
theorem v__law_common_0 : Vis (bodyS N__law_common s__law_common).sc (PySem.Str.ofString "a") := Or.inl (by decide +kernel)
theorem l__law_common_0 : L2.Loc (bodyS N__law_common s__law_common).sc (PySem.Str.ofString "a") := Or.inl (by decide +kernel)
theorem l0__law_common_0 : (bodyS N__law_common s__law_common).sc.names.lookup (PySem.Str.ofString "a") = some .local := by decide +kernel
theorem n__law_common_1 : (bodyS N__law_common s__law_common).N[1]? = some (PySem.Str.ofString "b") := rfl
theorem v__law_common_1 : Vis (bodyS N__law_common s__law_common).sc (PySem.Str.ofString "b") := Or.inl (by decide +kernel)
theorem l__law_common_1 : L2.Loc (bodyS N__law_common s__law_common).sc (PySem.Str.ofString "b") := Or.inl (by decide +kernel)
theorem l0__law_common_1 : (bodyS N__law_common s__law_common).sc.names.lookup (PySem.Str.ofString "b") = some .local := by decide +kernel
theorem gl__law_common_abs : (bodyS N__law_common s__law_common).sc.names.lookup (PySem.Str.ofString "abs") = some .globalImplicit := by decide +kernel
theorem gl__law_common_int : (bodyS N__law_common s__law_common).sc.names.lookup (PySem.Str.ofString "int") = some .globalImplicit := by decide +kernel
noncomputable def body__law_common : DEnv → Fl := seqF (setF 0 (callF absD (consA (nmD 0) (nilA)))) (seqF (setF 1 (callF absD (consA (nmD 1) (nilA)))) (seqF (whileF (toB (b2 neD (nmD 1) (cD (.int 0)))) (seqF (parF 0 1 (consA (nmD 1) (consA (b2 modD (callF intAD (consA (nmD 0) (nilA))) (nmD 1)) (nilA)))) (nxD))) (retF (nmD 0))))
noncomputable def den__law_common : List D → R D := runD 2 body__law_common
theorem ok__law_common {G : Cfg} (T : Tp G)  {f : Addr} {fd : FuncData} (FF : Fun G.K (PySem.Str.ofString "_law_common") (PySem.Str.ofString "_law_common") s__law_common f fd) : FnOk G.P G.w G.K G.mg G.base (L2.CX G.P G.w) 1 f fd ["a", "b"] (spD G 2 false den__law_common) :=
  fn_mk (N := N__law_common) (t := _) (g := body__law_common) (own' := []) T.xi FF sc__law_common rfl fun X W F tk po =>
    (ss_cons T.xi (s_set (own' := []) F nd__law_common n__law_common_0 l__law_common_0 (Or.inl rfl) (d_abs F gl__law_common_abs T.b_abs (a_cons (d_nm0 F n__law_common_0 v__law_common_0 (by decide)) a_nil)) (by rfl) (by rfl)) (ss_cons T.xi (s_set (own' := []) F nd__law_common n__law_common_1 l__law_common_1 (Or.inl rfl) (d_abs F gl__law_common_abs T.b_abs (a_cons (d_nm0 F n__law_common_1 v__law_common_1 (by decide)) a_nil)) (by rfl) (by rfl)) (ss_cons T.xi (s_while (own' := []) (olp := []) F po (t_cmp F cr_ne (d_nm0 F n__law_common_1 v__law_common_1 (by decide)) d_int (nomark _)) (ss_cons T.xi (s_par (own' := []) F nd__law_common n__law_common_0 n__law_common_1 (by decide) l0__law_common_0 l0__law_common_1 (a_cons (d_nm0 F n__law_common_1 v__law_common_1 (by decide)) (a_cons (d_mod (d_intA F gl__law_common_int T.b_int (a_cons (d_nm0 F n__law_common_0 v__law_common_0 (by decide)) a_nil)) (d_nm0 F n__law_common_1 v__law_common_1 (by decide))) a_nil)) (by rfl) (by rfl) (sws_some F.sc (by rfl) (by decide +kernel) (by rfl) (by rfl))) (ss_nil (own' := []) (by rfl))) (by rfl) (by rfl) (by rfl)) (ss_one (s_ret (d_nm0 F n__law_common_0 v__law_common_0 (by decide)) rfl (by rfl))))))
/-! ### _law_number -/
abbrev s__law_number : Stmt := topS 23
abbrev N__law_number : List PySem.Str := ["pool", "at", "prime", "n", "d", "common"]
theorem sc__law_number : FnScope N__law_number ["pool", "at", "prime"] (defScope s__law_number) := ⟨rfl, rfl, rfl, by decide +kernel, rfl, by decide +kernel, by decide +kernel⟩
theorem nd__law_number : (bodyS N__law_number s__law_number).N.Nodup := sc__law_number.nd
theorem n__law_number_0 : (bodyS N__law_number s__law_number).N[0]? = some (PySem.Str.ofString "pool") := rfl
theorem v__law_number_0 : Vis (bodyS N__law_number s__law_number).sc (PySem.Str.ofString "pool") := Or.inl (by decide +kernel)
theorem l__law_number_0 : L2.Loc (bodyS N__law_number s__law_number).sc (PySem.Str.ofString "pool") := Or.inl (by decide +kernel)
theorem l0__law_number_0 : (bodyS N__law_number s__law_number).sc.names.lookup (PySem.Str.ofString "pool") = some .local := by decide +kernel
theorem n__law_number_1 : (bodyS N__law_number s__law_number).N[1]? = some (PySem.Str.ofString "at") := rfl
theorem v__law_number_1 : Vis (bodyS N__law_number s__law_number).sc (PySem.Str.ofString "at") := Or.inl (by decide +kernel)
theorem l__law_number_1 : L2.Loc (bodyS N__law_number s__law_number).sc (PySem.Str.ofString "at") := Or.inl (by decide +kernel)
theorem l0__law_number_1 : (bodyS N__law_number s__law_number).sc.names.lookup (PySem.Str.ofString "at") = some .local := by decide +kernel
theorem n__law_number_2 : (bodyS N__law_number s__law_number).N[2]? = some (PySem.Str.ofString "prime") := rfl
theorem v__law_number_2 : Vis (bodyS N__law_number s__law_number).sc (PySem.Str.ofString "prime") := Or.inl (by decide +kernel)
theorem l__law_number_2 : L2.Loc (bodyS N__law_number s__law_number).sc (PySem.Str.ofString "prime") := Or.inl (by decide +kernel)
theorem l0__law_number_2 : (bodyS N__law_number s__law_number).sc.names.lookup (PySem.Str.ofString "prime") = some .local := by decide +kernel
theorem n__law_number_3 : (bodyS N__law_number s__law_number).N[3]? = some (PySem.Str.ofString "n") := rfl
theorem v__law_number_3 : Vis (bodyS N__law_number s__law_number).sc (PySem.Str.ofString "n") := Or.inl (by decide +kernel)
theorem l__law_number_3 : L2.Loc (bodyS N__law_number s__law_number).sc (PySem.Str.ofString "n") := Or.inl (by decide +kernel)
theorem l0__law_number_3 : (bodyS N__law_number s__law_number).sc.names.lookup (PySem.Str.ofString "n") = some .local := by decide +kernel
theorem n__law_number_4 : (bodyS N__law_number s__law_number).N[4]? = some (PySem.Str.ofString "d") := rfl
theorem v__law_number_4 : Vis (bodyS N__law_number s__law_number).sc (PySem.Str.ofString "d") := Or.inl (by decide +kernel)
theorem l__law_number_4 : L2.Loc (bodyS N__law_number s__law_number).sc (PySem.Str.ofString "d") := Or.inl (by decide +kernel)
theorem l0__law_number_4 : (bodyS N__law_number s__law_number).sc.names.lookup (PySem.Str.ofString "d") = some .local := by decide +kernel
theorem n__law_number_5 : (bodyS N__law_number s__law_number).N[5]? = some (PySem.Str.ofString "common") := rfl
theorem v__law_number_5 : Vis (bodyS N__law_number s__law_number).sc (PySem.Str.ofString "common") := Or.inl (by decide +kernel)
theorem l__law_number_5 : L2.Loc (bodyS N__law_number s__law_number).sc (PySem.Str.ofString "common") := Or.inl (by decide +kernel)
theorem l0__law_number_5 : (bodyS N__law_number s__law_number).sc.names.lookup (PySem.Str.ofString "common") = some .local := by decide +kernel
theorem gl__law_number__law_common : (bodyS N__law_number s__law_number).sc.names.lookup (PySem.Str.ofString "_law_common") = some .globalImplicit := by decide +kernel
theorem gl__law_number_int : (bodyS N__law_number s__law_number).sc.names.lookup (PySem.Str.ofString "int") = some .globalImplicit := by decide +kernel
noncomputable def body__law_number : DEnv → Fl := seqF (ifF (toB (b2 gtD (nmD 2) (cD (.int 0)))) (retF (b2 modD (callF intAD (consA (b2 idxD (nmD 0) (nmD 1)) (nilA))) (nmD 2))) (nxD)) (seqF (setF 3 (b2 subD (b2 modD (callF intAD (consA (b2 addD (b2 idxD (nmD 0) (nmD 1)) (b2 mulD (cD (.int 1000)) (b2 idxD (nmD 0) (b2 addD (nmD 1) (cD (.int 1)))))) (nilA))) (cD (.int 1999))) (cD (.int 999)))) (seqF (setF 4 (b2 addD (cD (.int 1)) (b2 modD (callF intAD (consA (b2 idxD (nmD 0) (b2 addD (nmD 1) (cD (.int 2)))) (nilA))) (cD (.int 99))))) (seqF (ifF (toB (b2 eqD (b2 modD (callF intAD (consA (b2 idxD (nmD 0) (b2 addD (nmD 1) (cD (.int 3)))) (nilA))) (cD (.int 3))) (cD (.int 0)))) (seqF (setF 4 (cD (.int 1))) (nxD)) (nxD)) (seqF (setF 5 (callF den__law_common (consA (nmD 3) (consA (nmD 4) (nilA))))) (retF (tupA (consA (b2 fdivD (nmD 3) (nmD 5)) (consA (b2 fdivD (nmD 4) (nmD 5)) (nilA)))))))))
noncomputable def den__law_number : List D → R D := runD 6 body__law_number
theorem ok__law_number {G : Cfg} (T : Tp G) (c__law_common : FnD G 1 (PySem.Str.ofString "_law_common") 2 false den__law_common) {f : Addr} {fd : FuncData} (FF : Fun G.K (PySem.Str.ofString "_law_number") (PySem.Str.ofString "_law_number") s__law_number f fd) : FnOk G.P G.w G.K G.mg G.base (L2.CX G.P G.w) 2 f fd ["pool", "at", "prime"] (spD G 3 false den__law_number) :=
  fn_mk (N := N__law_number) (t := _) (g := body__law_number) (own' := []) T.xi FF sc__law_number rfl fun X W F tk po =>
    (ss_cons T.xi (s_if (own' := []) (t_cmp F cr_gt (d_nm0 F n__law_number_2 v__law_number_2 (by decide)) d_int (nomark _)) (ss_one (s_ret (d_mod (d_intA F gl__law_number_int T.b_int (a_cons (d_ixN F n__law_number_0 v__law_number_0 (d_nm0 F n__law_number_1 v__law_number_1 (by decide))) a_nil)) (d_nm0 F n__law_number_2 v__law_number_2 (by decide))) rfl (by rfl))) (ss_nil (own' := []) (by rfl)) (by rfl)) (ss_cons T.xi (s_set (own' := []) F nd__law_number n__law_number_3 l__law_number_3 (Or.inl rfl) (d_sub (d_mod (d_intA F gl__law_number_int T.b_int (a_cons (d_add F (d_ixN F n__law_number_0 v__law_number_0 (d_nm0 F n__law_number_1 v__law_number_1 (by decide))) (d_mul d_int (d_ixN F n__law_number_0 v__law_number_0 (d_add F (d_nm0 F n__law_number_1 v__law_number_1 (by decide)) d_int)))) a_nil)) d_int) d_int) (by rfl) (by rfl)) (ss_cons T.xi (s_set (own' := []) F nd__law_number n__law_number_4 l__law_number_4 (Or.inl rfl) (d_add F d_int (d_mod (d_intA F gl__law_number_int T.b_int (a_cons (d_ixN F n__law_number_0 v__law_number_0 (d_add F (d_nm0 F n__law_number_1 v__law_number_1 (by decide)) d_int)) a_nil)) d_int)) (by rfl) (by rfl)) (ss_cons T.xi (s_if (own' := []) (t_cmp F cr_eq (d_mod (d_intA F gl__law_number_int T.b_int (a_cons (d_ixN F n__law_number_0 v__law_number_0 (d_add F (d_nm0 F n__law_number_1 v__law_number_1 (by decide)) d_int)) a_nil)) d_int) d_int (nomark _)) (ss_cons T.xi (s_set (own' := []) F nd__law_number n__law_number_4 l__law_number_4 (Or.inl rfl) d_int (by rfl) (by rfl)) (ss_nil (own' := []) (by rfl))) (ss_nil (own' := []) (by rfl)) (by rfl)) (ss_cons T.xi (s_set (own' := []) F nd__law_number n__law_number_5 l__law_number_5 (Or.inl rfl) (d_call F tk c__law_common (by decide) gl__law_number__law_common (a_cons (d_nm0 F n__law_number_3 v__law_number_3 (by decide)) (a_cons (d_nm0 F n__law_number_4 v__law_number_4 (by decide)) a_nil)) rfl (hlen := (len_cons (len_cons len_nil)))) (by rfl) (by rfl)) (ss_one (s_ret (d_tup (a_cons (d_fdiv (d_nm0 F n__law_number_3 v__law_number_3 (by decide)) (d_nm0 F n__law_number_5 v__law_number_5 (by decide))) (a_cons (d_fdiv (d_nm0 F n__law_number_4 v__law_number_4 (by decide)) (d_nm0 F n__law_number_5 v__law_number_5 (by decide))) a_nil))) rfl (by rfl))))))))
/-! ### _law_large -/
abbrev s__law_large : Stmt := topS 24
abbrev N__law_large : List PySem.Str := ["pool", "at", "many", "k", "d", "common", "n"]
theorem sc__law_large : FnScope N__law_large ["pool", "at", "many"] (defScope s__law_large) := ⟨rfl, rfl, rfl, by decide +kernel, rfl, by decide +kernel, by decide +kernel⟩
theorem nd__law_large : (bodyS N__law_large s__law_large).N.Nodup := sc__law_large.nd
theorem n__law_large_0 : (bodyS N__law_large s__law_large).N[0]? = some (PySem.Str.ofString "pool") := rfl
theorem v__law_large_0 : Vis (bodyS N__law_large s__law_large).sc (PySem.Str.ofString "pool") := Or.inl (by decide +kernel)
theorem l__law_large_0 : L2.Loc (bodyS N__law_large s__law_large).sc (PySem.Str.ofString "pool") := Or.inl (by decide +kernel)
theorem l0__law_large_0 : (bodyS N__law_large s__law_large).sc.names.lookup (PySem.Str.ofString "pool") = some .local := by decide +kernel
theorem n__law_large_1 : (bodyS N__law_large s__law_large).N[1]? = some (PySem.Str.ofString "at") := rfl
theorem v__law_large_1 : Vis (bodyS N__law_large s__law_large).sc (PySem.Str.ofString "at") := Or.inl (by decide +kernel)
theorem l__law_large_1 : L2.Loc (bodyS N__law_large s__law_large).sc (PySem.Str.ofString "at") := Or.inl (by decide +kernel)
theorem l0__law_large_1 : (bodyS N__law_large s__law_large).sc.names.lookup (PySem.Str.ofString "at") = some .local := by decide +kernel
theorem n__law_large_2 : (bodyS N__law_large s__law_large).N[2]? = some (PySem.Str.ofString "many") := rfl
theorem v__law_large_2 : Vis (bodyS N__law_large s__law_large).sc (PySem.Str.ofString "many") := Or.inl (by decide +kernel)
theorem l__law_large_2 : L2.Loc (bodyS N__law_large s__law_large).sc (PySem.Str.ofString "many") := Or.inl (by decide +kernel)
theorem l0__law_large_2 : (bodyS N__law_large s__law_large).sc.names.lookup (PySem.Str.ofString "many") = some .local := by decide +kernel
theorem n__law_large_3 : (bodyS N__law_large s__law_large).N[3]? = some (PySem.Str.ofString "k") := rfl
theorem v__law_large_3 : Vis (bodyS N__law_large s__law_large).sc (PySem.Str.ofString "k") := Or.inl (by decide +kernel)
theorem l__law_large_3 : L2.Loc (bodyS N__law_large s__law_large).sc (PySem.Str.ofString "k") := Or.inl (by decide +kernel)
theorem l0__law_large_3 : (bodyS N__law_large s__law_large).sc.names.lookup (PySem.Str.ofString "k") = some .local := by decide +kernel
theorem n__law_large_4 : (bodyS N__law_large s__law_large).N[4]? = some (PySem.Str.ofString "d") := rfl
theorem v__law_large_4 : Vis (bodyS N__law_large s__law_large).sc (PySem.Str.ofString "d") := Or.inl (by decide +kernel)
theorem l__law_large_4 : L2.Loc (bodyS N__law_large s__law_large).sc (PySem.Str.ofString "d") := Or.inl (by decide +kernel)
theorem l0__law_large_4 : (bodyS N__law_large s__law_large).sc.names.lookup (PySem.Str.ofString "d") = some .local := by decide +kernel
theorem n__law_large_5 : (bodyS N__law_large s__law_large).N[5]? = some (PySem.Str.ofString "common") := rfl
theorem v__law_large_5 : Vis (bodyS N__law_large s__law_large).sc (PySem.Str.ofString "common") := Or.inl (by decide +kernel)
theorem l__law_large_5 : L2.Loc (bodyS N__law_large s__law_large).sc (PySem.Str.ofString "common") := Or.inl (by decide +kernel)
theorem l0__law_large_5 : (bodyS N__law_large s__law_large).sc.names.lookup (PySem.Str.ofString "common") = some .local := by decide +kernel
theorem n__law_large_6 : (bodyS N__law_large s__law_large).N[6]? = some (PySem.Str.ofString "n") := rfl
theorem v__law_large_6 : Vis (bodyS N__law_large s__law_large).sc (PySem.Str.ofString "n") := Or.inl (by decide +kernel)
theorem l__law_large_6 : L2.Loc (bodyS N__law_large s__law_large).sc (PySem.Str.ofString "n") := Or.inl (by decide +kernel)
theorem l0__law_large_6 : (bodyS N__law_large s__law_large).sc.names.lookup (PySem.Str.ofString "n") = some .local := by decide +kernel
theorem gl__law_large__law_common : (bodyS N__law_large s__law_large).sc.names.lookup (PySem.Str.ofString "_law_common") = some .globalImplicit := by decide +kernel
theorem gl__law_large_int : (bodyS N__law_large s__law_large).sc.names.lookup (PySem.Str.ofString "int") = some .globalImplicit := by decide +kernel
theorem gl__law_large_range : (bodyS N__law_large s__law_large).sc.names.lookup (PySem.Str.ofString "range") = some .globalImplicit := by decide +kernel
noncomputable def body__law_large : DEnv → Fl := seqF (asgF (tupA (consA (cD (.int 0)) (consA (cD (.int 0)) (nilA)))) (tupT (consT (putD 6) (consT (putD 4) (nilT))))) (seqF (forF (rng1 (consA (nmD 2) (nilA))) (putD 3) (seqF (setF 6 (b2 addD (b2 mulD (nmD 6) (cD (.int 1000))) (callF intAD (consA (b2 idxD (nmD 0) (b2 addD (nmD 1) (nmD 3))) (nilA))))) (seqF (setF 4 (b2 addD (b2 mulD (nmD 4) (cD (.int 1000))) (callF intAD (consA (b2 idxD (nmD 0) (b2 addD (b2 addD (nmD 1) (nmD 2)) (nmD 3))) (nilA))))) (nxD)))) (seqF (ifF (toB (b2 gtD (nmD 2) (cD (.int 9)))) (seqF (parF 6 4 (consA (b2 fdivD (nmD 6) (cD (.int 10))) (consA (b2 fdivD (nmD 4) (cD (.int 100))) (nilA)))) (nxD)) (nxD)) (seqF (ifF (toB (b2 eqD (b2 modD (callF intAD (consA (b2 idxD (nmD 0) (nmD 1)) (nilA))) (cD (.int 2))) (cD (.int 1)))) (seqF (setF 6 (u1 negD (nmD 6))) (nxD)) (nxD)) (seqF (setF 4 (b2 addD (nmD 4) (cD (.int 1)))) (seqF (setF 5 (callF den__law_common (consA (nmD 6) (consA (nmD 4) (nilA))))) (retF (tupA (consA (b2 fdivD (nmD 6) (nmD 5)) (consA (b2 fdivD (nmD 4) (nmD 5)) (nilA))))))))))
noncomputable def den__law_large : List D → R D := runD 7 body__law_large
theorem ok__law_large {G : Cfg} (T : Tp G) (c__law_common : FnD G 1 (PySem.Str.ofString "_law_common") 2 false den__law_common) {f : Addr} {fd : FuncData} (FF : Fun G.K (PySem.Str.ofString "_law_large") (PySem.Str.ofString "_law_large") s__law_large f fd) : FnOk G.P G.w G.K G.mg G.base (L2.CX G.P G.w) 2 f fd ["pool", "at", "many"] (spD G 3 false den__law_large) :=
  fn_mk (N := N__law_large) (t := _) (g := body__law_large) (own' := []) T.xi FF sc__law_large rfl fun X W F tk po =>
    (ss_cons T.xi (s_asg (own' := []) (d_tup (a_cons d_int (a_cons d_int a_nil))) (g_tup F (gs_cons (g_name F nd__law_large n__law_large_6 l__law_large_6 (Or.inl rfl) (by decide)) (gs_cons (g_name F nd__law_large n__law_large_4 l__law_large_4 (Or.inl rfl) (by decide)) gs_nil)) rfl (hl := (lenT_cons (lenT_cons lenT_nil)))) (by rfl) (by rfl) (hw := sws_none (by rfl) (by rfl))) (ss_cons T.xi (s_for (own' := []) (olp := []) F po (i_rng1 F gl__law_large_range T.b_range (a_cons (d_nm0 F n__law_large_2 v__law_large_2 (by decide)) a_nil)) (g_name F nd__law_large n__law_large_3 l__law_large_3 (Or.inl rfl) (by decide)) (ss_cons T.xi (s_set (own' := []) F nd__law_large n__law_large_6 l__law_large_6 (Or.inl rfl) (d_add F (d_mul (d_nm0 F n__law_large_6 v__law_large_6 (by decide)) d_int) (d_intA F gl__law_large_int T.b_int (a_cons (d_ixN F n__law_large_0 v__law_large_0 (d_add F (d_nm0 F n__law_large_1 v__law_large_1 (by decide)) (d_nm0 F n__law_large_3 v__law_large_3 (by decide)))) a_nil))) (by rfl) (by rfl)) (ss_cons T.xi (s_set (own' := []) F nd__law_large n__law_large_4 l__law_large_4 (Or.inl rfl) (d_add F (d_mul (d_nm0 F n__law_large_4 v__law_large_4 (by decide)) d_int) (d_intA F gl__law_large_int T.b_int (a_cons (d_ixN F n__law_large_0 v__law_large_0 (d_add F (d_add F (d_nm0 F n__law_large_1 v__law_large_1 (by decide)) (d_nm0 F n__law_large_2 v__law_large_2 (by decide))) (d_nm0 F n__law_large_3 v__law_large_3 (by decide)))) a_nil))) (by rfl) (by rfl)) (ss_nil (own' := []) (by rfl)))) (by rfl) (by rfl) (by rfl)) (ss_cons T.xi (s_if (own' := []) (t_cmp F cr_gt (d_nm0 F n__law_large_2 v__law_large_2 (by decide)) d_int (nomark _)) (ss_cons T.xi (s_par (own' := []) F nd__law_large n__law_large_6 n__law_large_4 (by decide) l0__law_large_6 l0__law_large_4 (a_cons (d_fdiv (d_nm0 F n__law_large_6 v__law_large_6 (by decide)) d_int) (a_cons (d_fdiv (d_nm0 F n__law_large_4 v__law_large_4 (by decide)) d_int) a_nil)) (by rfl) (by rfl) (sws_some F.sc (by rfl) (by decide +kernel) (by rfl) (by rfl))) (ss_nil (own' := []) (by rfl))) (ss_nil (own' := []) (by rfl)) (by rfl)) (ss_cons T.xi (s_if (own' := []) (t_cmp F cr_eq (d_mod (d_intA F gl__law_large_int T.b_int (a_cons (d_ixN F n__law_large_0 v__law_large_0 (d_nm0 F n__law_large_1 v__law_large_1 (by decide))) a_nil)) d_int) d_int (nomark _)) (ss_cons T.xi (s_set (own' := []) F nd__law_large n__law_large_6 l__law_large_6 (Or.inl rfl) (d_neg (d_nm0 F n__law_large_6 v__law_large_6 (by decide))) (by rfl) (by rfl)) (ss_nil (own' := []) (by rfl))) (ss_nil (own' := []) (by rfl)) (by rfl)) (ss_cons T.xi (s_set (own' := []) F nd__law_large n__law_large_4 l__law_large_4 (Or.inl rfl) (d_add F (d_nm0 F n__law_large_4 v__law_large_4 (by decide)) d_int) (by rfl) (by rfl)) (ss_cons T.xi (s_set (own' := []) F nd__law_large n__law_large_5 l__law_large_5 (Or.inl rfl) (d_call F tk c__law_common (by decide) gl__law_large__law_common (a_cons (d_nm0 F n__law_large_6 v__law_large_6 (by decide)) (a_cons (d_nm0 F n__law_large_4 v__law_large_4 (by decide)) a_nil)) rfl (hlen := (len_cons (len_cons len_nil)))) (by rfl) (by rfl)) (ss_one (s_ret (d_tup (a_cons (d_fdiv (d_nm0 F n__law_large_6 v__law_large_6 (by decide)) (d_nm0 F n__law_large_5 v__law_large_5 (by decide))) (a_cons (d_fdiv (d_nm0 F n__law_large_4 v__law_large_4 (by decide)) (d_nm0 F n__law_large_5 v__law_large_5 (by decide))) a_nil))) rfl (by rfl)))))))))
/-! ### _law_text -/
abbrev s__law_text : Stmt := topS 25
abbrev N__law_text : List PySem.Str := ["prime", "number"]
theorem sc__law_text : FnScope N__law_text ["prime", "number"] (defScope s__law_text) := ⟨rfl, rfl, rfl, by decide +kernel, rfl, by decide +kernel, by decide +kernel⟩
theorem nd__law_text : (bodyS N__law_text s__law_text).N.Nodup := sc__law_text.nd
theorem n__law_text_0 : (bodyS N__law_text s__law_text).N[0]? = some (PySem.Str.ofString "prime") := rfl
theorem v__law_text_0 : Vis (bodyS N__law_text s__law_text).sc (PySem.Str.ofString "prime") := Or.inl (by decide +kernel)
theorem l__law_text_0 : L2.Loc (bodyS N__law_text s__law_text).sc (PySem.Str.ofString "prime") := Or.inl (by decide +kernel)
theorem l0__law_text_0 : (bodyS N__law_text s__law_text).sc.names.lookup (PySem.Str.ofString "prime") = some .local := by decide +kernel
theorem n__law_text_1 : (bodyS N__law_text s__law_text).N[1]? = some (PySem.Str.ofString "number") := rfl
theorem v__law_text_1 : Vis (bodyS N__law_text s__law_text).sc (PySem.Str.ofString "number") := Or.inl (by decide +kernel)
theorem l__law_text_1 : L2.Loc (bodyS N__law_text s__law_text).sc (PySem.Str.ofString "number") := Or.inl (by decide +kernel)
theorem l0__law_text_1 : (bodyS N__law_text s__law_text).sc.names.lookup (PySem.Str.ofString "number") = some .local := by decide +kernel
theorem gl__law_text_str : (bodyS N__law_text s__law_text).sc.names.lookup (PySem.Str.ofString "str") = some .globalImplicit := by decide +kernel
noncomputable def body__law_text : DEnv → Fl := seqF (ifF (toB (b2 gtD (nmD 0) (cD (.int 0)))) (retF (callF strD (consA (nmD 1) (nilA)))) (nxD)) (seqF (ifF (toB (b2 eqD (b2 idxD (nmD 1) (cD (.int 1))) (cD (.int 1)))) (retF (callF strD (consA (b2 idxD (nmD 1) (cD (.int 0))) (nilA)))) (nxD)) (retF (b2 addD (b2 addD (callF strD (consA (b2 idxD (nmD 1) (cD (.int 0))) (nilA))) (cD (.str (PySem.Str.ofString "/")))) (callF strD (consA (b2 idxD (nmD 1) (cD (.int 1))) (nilA))))))
noncomputable def den__law_text : List D → R D := runD 2 body__law_text
theorem ok__law_text {G : Cfg} (T : Tp G)  {f : Addr} {fd : FuncData} (FF : Fun G.K (PySem.Str.ofString "_law_text") (PySem.Str.ofString "_law_text") s__law_text f fd) : FnOk G.P G.w G.K G.mg G.base (L2.CX G.P G.w) 1 f fd ["prime", "number"] (spD G 2 false den__law_text) :=
  fn_mk (N := N__law_text) (t := _) (g := body__law_text) (own' := []) T.xi FF sc__law_text rfl fun X W F tk po =>
    (ss_cons T.xi (s_if (own' := []) (t_cmp F cr_gt (d_nm0 F n__law_text_0 v__law_text_0 (by decide)) d_int (nomark _)) (ss_one (s_ret (d_strI F gl__law_text_str T.b_str (a_cons (d_nm0 F n__law_text_1 v__law_text_1 (by decide)) a_nil)) rfl (by rfl))) (ss_nil (own' := []) (by rfl)) (by rfl)) (ss_cons T.xi (s_if (own' := []) (t_cmp F cr_eq (d_ixN F n__law_text_1 v__law_text_1 d_int) d_int (nomark _)) (ss_one (s_ret (d_strI F gl__law_text_str T.b_str (a_cons (d_ixN F n__law_text_1 v__law_text_1 d_int) a_nil)) rfl (by rfl))) (ss_nil (own' := []) (by rfl)) (by rfl)) (ss_one (s_ret (d_add F (d_add F (d_strI F gl__law_text_str T.b_str (a_cons (d_ixN F n__law_text_1 v__law_text_1 d_int) a_nil)) d_str) (d_strI F gl__law_text_str T.b_str (a_cons (d_ixN F n__law_text_1 v__law_text_1 d_int) a_nil))) rfl (by rfl)))))
/-! ### _law_digits -/
abbrev s__law_digits : Stmt := topS 26
abbrev N__law_digits : List PySem.Str := ["word", "sign"]
theorem sc__law_digits : FnScope N__law_digits ["word"] (defScope s__law_digits) := ⟨rfl, rfl, rfl, by decide +kernel, rfl, by decide +kernel, by decide +kernel⟩
theorem nd__law_digits : (bodyS N__law_digits s__law_digits).N.Nodup := sc__law_digits.nd
theorem n__law_digits_0 : (bodyS N__law_digits s__law_digits).N[0]? = some (PySem.Str.ofString "word") := rfl
theorem v__law_digits_0 : Vis (bodyS N__law_digits s__law_digits).sc (PySem.Str.ofString "word") := Or.inl (by decide +kernel)
theorem l__law_digits_0 : L2.Loc (bodyS N__law_digits s__law_digits).sc (PySem.Str.ofString "word") := Or.inl (by decide +kernel)
theorem l0__law_digits_0 : (bodyS N__law_digits s__law_digits).sc.names.lookup (PySem.Str.ofString "word") = some .local := by decide +kernel
theorem n__law_digits_1 : (bodyS N__law_digits s__law_digits).N[1]? = some (PySem.Str.ofString "sign") := rfl
theorem v__law_digits_1 : Vis (bodyS N__law_digits s__law_digits).sc (PySem.Str.ofString "sign") := Or.inl (by decide +kernel)
theorem l__law_digits_1 : L2.Loc (bodyS N__law_digits s__law_digits).sc (PySem.Str.ofString "sign") := Or.inl (by decide +kernel)
theorem l0__law_digits_1 : (bodyS N__law_digits s__law_digits).sc.names.lookup (PySem.Str.ofString "sign") = some .local := by decide +kernel
theorem gl__law_digits_len : (bodyS N__law_digits s__law_digits).sc.names.lookup (PySem.Str.ofString "len") = some .globalImplicit := by decide +kernel
noncomputable def body__law_digits : DEnv → Fl := seqF (ifF (orB (toB (b2 eqD (nmD 0) (cD (.str (PySem.Str.ofString ""))))) (andB (toB (b2 gtD (callF lenD (consA (nmD 0) (nilA))) (cD (.int 1)))) (toB (b2 eqD (b2 idxD (nmD 0) (cD (.int 0))) (cD (.str (PySem.Str.ofString "0"))))))) (retF (cD (.bl false))) (nxD)) (seqF (forF (itX (nmD 0)) (putD 1) (seqF (ifF (toB (b2 ninSD (nmD 1) (cD (.str (PySem.Str.ofString "0123456789"))))) (retF (cD (.bl false))) (nxD)) (nxD))) (retF (cD (.bl true))))
noncomputable def den__law_digits : List D → R D := runD 2 body__law_digits
theorem ok__law_digits {G : Cfg} (T : Tp G)  {f : Addr} {fd : FuncData} (FF : Fun G.K (PySem.Str.ofString "_law_digits") (PySem.Str.ofString "_law_digits") s__law_digits f fd) : FnOk G.P G.w G.K G.mg G.base (L2.CX G.P G.w) 1 f fd ["word"] (spD G 1 false den__law_digits) :=
  fn_mk (N := N__law_digits) (t := _) (g := body__law_digits) (own' := []) T.xi FF sc__law_digits rfl fun X W F tk po =>
    (ss_cons T.xi (s_if (own' := []) (DW.dt (w_or (t_cmp F cr_eq (d_nm0 F n__law_digits_0 v__law_digits_0 (by decide)) d_str (nomark _)) (w_or1 (DW.dt (w_and (t_cmp F cr_gt (d_len F gl__law_digits_len T.b_len (a_cons (d_nm0 F n__law_digits_0 v__law_digits_0 (by decide)) a_nil)) d_int (nomark _)) (w_and1 (t_cmp F cr_eq (d_ixN F n__law_digits_0 v__law_digits_0 d_int) d_str (nomark _)))))))) (ss_one (s_ret d_bl rfl (by rfl))) (ss_nil (own' := []) (by rfl)) (by rfl)) (ss_cons T.xi (s_for (own' := []) (olp := []) F po (i_str (d_nm0 F n__law_digits_0 v__law_digits_0 (by decide))) (g_name F nd__law_digits n__law_digits_1 l__law_digits_1 (Or.inl rfl) (by decide)) (ss_cons T.xi (s_if (own' := []) (t_cmp F cr_nins (d_nm0 F n__law_digits_1 v__law_digits_1 (by decide)) d_str (by rfl)) (ss_one (s_ret d_bl rfl (by rfl))) (ss_nil (own' := []) (by rfl)) (by rfl)) (ss_nil (own' := []) (by rfl))) (by rfl) (by rfl) (by rfl)) (ss_one (s_ret d_bl rfl (by rfl)))))
/-! ### _law_due -/
abbrev s__law_due : Stmt := topS 27
abbrev N__law_due : List PySem.Str := ["prime", "word", "minus", "parts", "above", "n", "k"]
theorem sc__law_due : FnScope N__law_due ["prime", "word"] (defScope s__law_due) := ⟨rfl, rfl, rfl, by decide +kernel, rfl, by decide +kernel, by decide +kernel⟩
theorem nd__law_due : (bodyS N__law_due s__law_due).N.Nodup := sc__law_due.nd
theorem n__law_due_0 : (bodyS N__law_due s__law_due).N[0]? = some (PySem.Str.ofString "prime") := rfl
theorem v__law_due_0 : Vis (bodyS N__law_due s__law_due).sc (PySem.Str.ofString "prime") := Or.inl (by decide +kernel)
theorem l__law_due_0 : L2.Loc (bodyS N__law_due s__law_due).sc (PySem.Str.ofString "prime") := Or.inl (by decide +kernel)
theorem l0__law_due_0 : (bodyS N__law_due s__law_due).sc.names.lookup (PySem.Str.ofString "prime") = some .local := by decide +kernel
theorem n__law_due_1 : (bodyS N__law_due s__law_due).N[1]? = some (PySem.Str.ofString "word") := rfl
theorem v__law_due_1 : Vis (bodyS N__law_due s__law_due).sc (PySem.Str.ofString "word") := Or.inl (by decide +kernel)
theorem l__law_due_1 : L2.Loc (bodyS N__law_due s__law_due).sc (PySem.Str.ofString "word") := Or.inl (by decide +kernel)
theorem l0__law_due_1 : (bodyS N__law_due s__law_due).sc.names.lookup (PySem.Str.ofString "word") = some .local := by decide +kernel
theorem n__law_due_2 : (bodyS N__law_due s__law_due).N[2]? = some (PySem.Str.ofString "minus") := rfl
theorem v__law_due_2 : Vis (bodyS N__law_due s__law_due).sc (PySem.Str.ofString "minus") := Or.inl (by decide +kernel)
theorem l__law_due_2 : L2.Loc (bodyS N__law_due s__law_due).sc (PySem.Str.ofString "minus") := Or.inl (by decide +kernel)
theorem l0__law_due_2 : (bodyS N__law_due s__law_due).sc.names.lookup (PySem.Str.ofString "minus") = some .local := by decide +kernel
theorem n__law_due_3 : (bodyS N__law_due s__law_due).N[3]? = some (PySem.Str.ofString "parts") := rfl
theorem v__law_due_3 : Vis (bodyS N__law_due s__law_due).sc (PySem.Str.ofString "parts") := Or.inl (by decide +kernel)
theorem l__law_due_3 : L2.Loc (bodyS N__law_due s__law_due).sc (PySem.Str.ofString "parts") := Or.inl (by decide +kernel)
theorem l0__law_due_3 : (bodyS N__law_due s__law_due).sc.names.lookup (PySem.Str.ofString "parts") = some .local := by decide +kernel
theorem n__law_due_4 : (bodyS N__law_due s__law_due).N[4]? = some (PySem.Str.ofString "above") := rfl
theorem v__law_due_4 : Vis (bodyS N__law_due s__law_due).sc (PySem.Str.ofString "above") := Or.inl (by decide +kernel)
theorem l__law_due_4 : L2.Loc (bodyS N__law_due s__law_due).sc (PySem.Str.ofString "above") := Or.inl (by decide +kernel)
theorem l0__law_due_4 : (bodyS N__law_due s__law_due).sc.names.lookup (PySem.Str.ofString "above") = some .local := by decide +kernel
theorem n__law_due_5 : (bodyS N__law_due s__law_due).N[5]? = some (PySem.Str.ofString "n") := rfl
theorem v__law_due_5 : Vis (bodyS N__law_due s__law_due).sc (PySem.Str.ofString "n") := Or.inl (by decide +kernel)
theorem l__law_due_5 : L2.Loc (bodyS N__law_due s__law_due).sc (PySem.Str.ofString "n") := Or.inl (by decide +kernel)
theorem l0__law_due_5 : (bodyS N__law_due s__law_due).sc.names.lookup (PySem.Str.ofString "n") = some .local := by decide +kernel
theorem n__law_due_6 : (bodyS N__law_due s__law_due).N[6]? = some (PySem.Str.ofString "k") := rfl
theorem v__law_due_6 : Vis (bodyS N__law_due s__law_due).sc (PySem.Str.ofString "k") := Or.inl (by decide +kernel)
theorem l__law_due_6 : L2.Loc (bodyS N__law_due s__law_due).sc (PySem.Str.ofString "k") := Or.inl (by decide +kernel)
theorem l0__law_due_6 : (bodyS N__law_due s__law_due).sc.names.lookup (PySem.Str.ofString "k") = some .local := by decide +kernel
theorem gl__law_due__law_common : (bodyS N__law_due s__law_due).sc.names.lookup (PySem.Str.ofString "_law_common") = some .globalImplicit := by decide +kernel
theorem gl__law_due__law_digits : (bodyS N__law_due s__law_due).sc.names.lookup (PySem.Str.ofString "_law_digits") = some .globalImplicit := by decide +kernel
theorem gl__law_due_int : (bodyS N__law_due s__law_due).sc.names.lookup (PySem.Str.ofString "int") = some .globalImplicit := by decide +kernel
theorem gl__law_due_len : (bodyS N__law_due s__law_due).sc.names.lookup (PySem.Str.ofString "len") = some .globalImplicit := by decide +kernel
theorem gl__law_due_range : (bodyS N__law_due s__law_due).sc.names.lookup (PySem.Str.ofString "range") = some .globalImplicit := by decide +kernel
theorem gl__law_due_str : (bodyS N__law_due s__law_due).sc.names.lookup (PySem.Str.ofString "str") = some .globalImplicit := by decide +kernel
noncomputable def body__law_due : DEnv → Fl := seqF (ifF (toB (b2 gtD (nmD 0) (cD (.int 0)))) (seqF (forF (rng1 (consA (nmD 0) (nilA))) (putD 6) (seqF (ifF (toB (b2 eqD (nmD 1) (callF strD (consA (nmD 6) (nilA))))) (retF (tupA (consA (cD (.bl true)) (consA (nmD 6) (nilA))))) (nxD)) (nxD))) (retF (tupA (consA (cD (.bl false)) (consA (cD (.int 0)) (nilA)))))) (nxD)) (seqF (setF 2 (b2 eqD (sl3 cutD (nmD 1) (noP) (someP (cD (.int 1)))) (cD (.str (PySem.Str.ofString "-"))))) (seqF (setF 3 (m1D splD (nmD 1) (cD (.str (PySem.Str.ofString "/"))))) (seqF (setF 4 (ifV (toT (nmD 2)) (sl3 cutD (b2 idxD (nmD 3) (cD (.int 0))) (someP (cD (.int 1))) (noP)) (b2 idxD (nmD 3) (cD (.int 0))))) (seqF (ifF (orB (toB (b2 gtD (callF lenD (consA (nmD 3) (nilA))) (cD (.int 2)))) (orB (notB (toT (callF den__law_digits (consA (nmD 4) (nilA))))) (andB (toT (nmD 2)) (toB (b2 eqD (nmD 4) (cD (.str (PySem.Str.ofString "0")))))))) (retF (tupA (consA (cD (.bl false)) (consA (cD (.int 0)) (nilA))))) (nxD)) (seqF (setF 5 (ifV (toT (nmD 2)) (u1 negD (callF intAD (consA (nmD 4) (nilA)))) (callF intAD (consA (nmD 4) (nilA))))) (seqF (ifF (toB (b2 eqD (callF lenD (consA (nmD 3) (nilA))) (cD (.int 1)))) (retF (tupA (consA (cD (.bl true)) (consA (tupA (consA (nmD 5) (consA (cD (.int 1)) (nilA)))) (nilA))))) (nxD)) (seqF (ifF (orB (notB (toT (callF den__law_digits (consA (b2 idxD (nmD 3) (cD (.int 1))) (nilA))))) (orB (toB (b2 ltD (callF intAD (consA (b2 idxD (nmD 3) (cD (.int 1))) (nilA))) (cD (.int 2)))) (toB (b2 neD (callF den__law_common (consA (nmD 5) (consA (callF intAD (consA (b2 idxD (nmD 3) (cD (.int 1))) (nilA))) (nilA)))) (cD (.int 1)))))) (retF (tupA (consA (cD (.bl false)) (consA (cD (.int 0)) (nilA))))) (nxD)) (retF (tupA (consA (cD (.bl true)) (consA (tupA (consA (nmD 5) (consA (callF intAD (consA (b2 idxD (nmD 3) (cD (.int 1))) (nilA))) (nilA)))) (nilA))))))))))))
noncomputable def den__law_due : List D → R D := runD 7 body__law_due
theorem ok__law_due {G : Cfg} (T : Tp G) (c__law_common : FnD G 1 (PySem.Str.ofString "_law_common") 2 false den__law_common) (c__law_digits : FnD G 1 (PySem.Str.ofString "_law_digits") 1 false den__law_digits) {f : Addr} {fd : FuncData} (FF : Fun G.K (PySem.Str.ofString "_law_due") (PySem.Str.ofString "_law_due") s__law_due f fd) : FnOk G.P G.w G.K G.mg G.base (L2.CX G.P G.w) 2 f fd ["prime", "word"] (spD G 2 false den__law_due) :=
  fn_mk (N := N__law_due) (t := _) (g := body__law_due) (own' := []) T.xi FF sc__law_due rfl fun X W F tk po =>
    (ss_cons T.xi (s_if (own' := []) (t_cmp F cr_gt (d_nm0 F n__law_due_0 v__law_due_0 (by decide)) d_int (nomark _)) (ss_cons T.xi (s_for (own' := []) (olp := []) F po (i_rng1 F gl__law_due_range T.b_range (a_cons (d_nm0 F n__law_due_0 v__law_due_0 (by decide)) a_nil)) (g_name F nd__law_due n__law_due_6 l__law_due_6 (Or.inl rfl) (by decide)) (ss_cons T.xi (s_if (own' := []) (t_cmp F cr_eq (d_nm0 F n__law_due_1 v__law_due_1 (by decide)) (d_strI F gl__law_due_str T.b_str (a_cons (d_nm0 F n__law_due_6 v__law_due_6 (by decide)) a_nil)) (nomark _)) (ss_one (s_ret (d_tup (a_cons d_bl (a_cons (d_nm0 F n__law_due_6 v__law_due_6 (by decide)) a_nil))) rfl (by rfl))) (ss_nil (own' := []) (by rfl)) (by rfl)) (ss_nil (own' := []) (by rfl))) (by rfl) (by rfl) (by rfl)) (ss_one (s_ret (d_tup (a_cons d_bl (a_cons d_int a_nil))) rfl (by rfl)))) (ss_nil (own' := []) (by rfl)) (by rfl)) (ss_cons T.xi (s_set (own' := []) F nd__law_due n__law_due_2 l__law_due_2 (Or.inl rfl) (d_cmp F cr_eq (d_slice F (d_nm0 F n__law_due_1 v__law_due_1 (by decide)) o_none (o_some d_int)) d_str (nomark _)) (by rfl) (by rfl)) (ss_cons T.xi (s_set (own' := []) F nd__law_due n__law_due_3 l__law_due_3 (Or.inl rfl) (d_split (d_nm0 F n__law_due_1 v__law_due_1 (by decide)) d_str) (by rfl) (by rfl)) (ss_cons T.xi (s_set (own' := []) F nd__law_due n__law_due_4 l__law_due_4 (Or.inl rfl) (d_if (t_tru F (d_nm0 F n__law_due_2 v__law_due_2 (by decide))) (d_slice F (d_ixN F n__law_due_3 v__law_due_3 d_int) (o_some d_int) o_none) (d_ixN F n__law_due_3 v__law_due_3 d_int)) (by rfl) (by rfl)) (ss_cons T.xi (s_if (own' := []) (DW.dt (w_or (t_cmp F cr_gt (d_len F gl__law_due_len T.b_len (a_cons (d_nm0 F n__law_due_3 v__law_due_3 (by decide)) a_nil)) d_int (nomark _)) (w_or (t_not (t_tru F (d_call F tk c__law_digits (by decide) gl__law_due__law_digits (a_cons (d_nm0 F n__law_due_4 v__law_due_4 (by decide)) a_nil) rfl (hlen := (len_cons len_nil))))) (w_or1 (DW.dt (w_and (t_tru F (d_nm0 F n__law_due_2 v__law_due_2 (by decide))) (w_and1 (t_cmp F cr_eq (d_nm0 F n__law_due_4 v__law_due_4 (by decide)) d_str (nomark _))))))))) (ss_one (s_ret (d_tup (a_cons d_bl (a_cons d_int a_nil))) rfl (by rfl))) (ss_nil (own' := []) (by rfl)) (by rfl)) (ss_cons T.xi (s_set (own' := []) F nd__law_due n__law_due_5 l__law_due_5 (Or.inl rfl) (d_if (t_tru F (d_nm0 F n__law_due_2 v__law_due_2 (by decide))) (d_neg (d_intA F gl__law_due_int T.b_int (a_cons (d_nm0 F n__law_due_4 v__law_due_4 (by decide)) a_nil))) (d_intA F gl__law_due_int T.b_int (a_cons (d_nm0 F n__law_due_4 v__law_due_4 (by decide)) a_nil))) (by rfl) (by rfl)) (ss_cons T.xi (s_if (own' := []) (t_cmp F cr_eq (d_len F gl__law_due_len T.b_len (a_cons (d_nm0 F n__law_due_3 v__law_due_3 (by decide)) a_nil)) d_int (nomark _)) (ss_one (s_ret (d_tup (a_cons d_bl (a_cons (d_tup (a_cons (d_nm0 F n__law_due_5 v__law_due_5 (by decide)) (a_cons d_int a_nil))) a_nil))) rfl (by rfl))) (ss_nil (own' := []) (by rfl)) (by rfl)) (ss_cons T.xi (s_if (own' := []) (DW.dt (w_or (t_not (t_tru F (d_call F tk c__law_digits (by decide) gl__law_due__law_digits (a_cons (d_ixN F n__law_due_3 v__law_due_3 d_int) a_nil) rfl (hlen := (len_cons len_nil))))) (w_or (t_cmp F cr_lt (d_intA F gl__law_due_int T.b_int (a_cons (d_ixN F n__law_due_3 v__law_due_3 d_int) a_nil)) d_int (nomark _)) (w_or1 (t_cmp F cr_ne (d_call F tk c__law_common (by decide) gl__law_due__law_common (a_cons (d_nm0 F n__law_due_5 v__law_due_5 (by decide)) (a_cons (d_intA F gl__law_due_int T.b_int (a_cons (d_ixN F n__law_due_3 v__law_due_3 d_int) a_nil)) a_nil)) rfl (hlen := (len_cons (len_cons len_nil)))) d_int (nomark _)))))) (ss_one (s_ret (d_tup (a_cons d_bl (a_cons d_int a_nil))) rfl (by rfl))) (ss_nil (own' := []) (by rfl)) (by rfl)) (ss_one (s_ret (d_tup (a_cons d_bl (a_cons (d_tup (a_cons (d_nm0 F n__law_due_5 v__law_due_5 (by decide)) (a_cons (d_intA F gl__law_due_int T.b_int (a_cons (d_ixN F n__law_due_3 v__law_due_3 d_int) a_nil)) a_nil))) a_nil))) rfl (by rfl)))))))))))
/-! ### _law_dues -/
abbrev s__law_dues : Stmt := topS 28
abbrev N__law_dues : List PySem.Str := ["prime", "text", "numbers", "word", "good", "number"]
theorem sc__law_dues : FnScope N__law_dues ["prime", "text"] (defScope s__law_dues) := ⟨rfl, rfl, rfl, by decide +kernel, rfl, by decide +kernel, by decide +kernel⟩
theorem nd__law_dues : (bodyS N__law_dues s__law_dues).N.Nodup := sc__law_dues.nd
theorem n__law_dues_0 : (bodyS N__law_dues s__law_dues).N[0]? = some (PySem.Str.ofString "prime") := rfl
theorem v__law_dues_0 : Vis (bodyS N__law_dues s__law_dues).sc (PySem.Str.ofString "prime") := Or.inl (by decide +kernel)
theorem l__law_dues_0 : L2.Loc (bodyS N__law_dues s__law_dues).sc (PySem.Str.ofString "prime") := Or.inl (by decide +kernel)
theorem l0__law_dues_0 : (bodyS N__law_dues s__law_dues).sc.names.lookup (PySem.Str.ofString "prime") = some .local := by decide +kernel
theorem n__law_dues_1 : (bodyS N__law_dues s__law_dues).N[1]? = some (PySem.Str.ofString "text") := rfl
theorem v__law_dues_1 : Vis (bodyS N__law_dues s__law_dues).sc (PySem.Str.ofString "text") := Or.inl (by decide +kernel)
theorem l__law_dues_1 : L2.Loc (bodyS N__law_dues s__law_dues).sc (PySem.Str.ofString "text") := Or.inl (by decide +kernel)
theorem l0__law_dues_1 : (bodyS N__law_dues s__law_dues).sc.names.lookup (PySem.Str.ofString "text") = some .local := by decide +kernel
theorem n__law_dues_2 : (bodyS N__law_dues s__law_dues).N[2]? = some (PySem.Str.ofString "numbers") := rfl
theorem v__law_dues_2 : Vis (bodyS N__law_dues s__law_dues).sc (PySem.Str.ofString "numbers") := Or.inl (by decide +kernel)
theorem l__law_dues_2 : L2.Loc (bodyS N__law_dues s__law_dues).sc (PySem.Str.ofString "numbers") := Or.inl (by decide +kernel)
theorem l0__law_dues_2 : (bodyS N__law_dues s__law_dues).sc.names.lookup (PySem.Str.ofString "numbers") = some .local := by decide +kernel
theorem n__law_dues_3 : (bodyS N__law_dues s__law_dues).N[3]? = some (PySem.Str.ofString "word") := rfl
theorem v__law_dues_3 : Vis (bodyS N__law_dues s__law_dues).sc (PySem.Str.ofString "word") := Or.inl (by decide +kernel)
theorem l__law_dues_3 : L2.Loc (bodyS N__law_dues s__law_dues).sc (PySem.Str.ofString "word") := Or.inl (by decide +kernel)
theorem l0__law_dues_3 : (bodyS N__law_dues s__law_dues).sc.names.lookup (PySem.Str.ofString "word") = some .local := by decide +kernel
theorem n__law_dues_4 : (bodyS N__law_dues s__law_dues).N[4]? = some (PySem.Str.ofString "good") := rfl
theorem v__law_dues_4 : Vis (bodyS N__law_dues s__law_dues).sc (PySem.Str.ofString "good") := Or.inl (by decide +kernel)
theorem l__law_dues_4 : L2.Loc (bodyS N__law_dues s__law_dues).sc (PySem.Str.ofString "good") := Or.inl (by decide +kernel)
theorem l0__law_dues_4 : (bodyS N__law_dues s__law_dues).sc.names.lookup (PySem.Str.ofString "good") = some .local := by decide +kernel
theorem n__law_dues_5 : (bodyS N__law_dues s__law_dues).N[5]? = some (PySem.Str.ofString "number") := rfl
theorem v__law_dues_5 : Vis (bodyS N__law_dues s__law_dues).sc (PySem.Str.ofString "number") := Or.inl (by decide +kernel)
theorem l__law_dues_5 : L2.Loc (bodyS N__law_dues s__law_dues).sc (PySem.Str.ofString "number") := Or.inl (by decide +kernel)
theorem l0__law_dues_5 : (bodyS N__law_dues s__law_dues).sc.names.lookup (PySem.Str.ofString "number") = some .local := by decide +kernel
theorem gl__law_dues__law_due : (bodyS N__law_dues s__law_dues).sc.names.lookup (PySem.Str.ofString "_law_due") = some .globalImplicit := by decide +kernel
noncomputable def body__law_dues : DEnv → Fl := seqF (ifF (toB (b2 eqD (nmD 1) (cD (.str (PySem.Str.ofString "none"))))) (retF (tupA (consA (cD (.bl true)) (consA (lstA (nilA)) (nilA))))) (nxD)) (seqF (setF 2 (lstA (nilA))) (seqF (forF (itS (m1D splD (nmD 1) (cD (.str (PySem.Str.ofString " "))))) (putD 3) (seqF (asgF (callF den__law_due (consA (nmD 0) (consA (nmD 3) (nilA)))) (tupT (consT (putD 4) (consT (putD 5) (nilT))))) (seqF (ifF (notB (toT (nmD 4))) (retF (tupA (consA (cD (.bl false)) (consA (lstA (nilA)) (nilA))))) (nxD)) (seqF (appF 2 (nmD 5)) (nxD))))) (retF (tupA (consA (cD (.bl true)) (consA (nmD 2) (nilA)))))))
noncomputable def den__law_dues : List D → R D := runD 6 body__law_dues
theorem ok__law_dues {G : Cfg} (T : Tp G) (c__law_due : FnD G 2 (PySem.Str.ofString "_law_due") 2 false den__law_due) {f : Addr} {fd : FuncData} (FF : Fun G.K (PySem.Str.ofString "_law_dues") (PySem.Str.ofString "_law_dues") s__law_dues f fd) : FnOk G.P G.w G.K G.mg G.base (L2.CX G.P G.w) 3 f fd ["prime", "text"] (spD G 2 false den__law_dues) :=
  fn_mk (N := N__law_dues) (t := _) (g := body__law_dues) (own' := []) T.xi FF sc__law_dues rfl fun X W F tk po =>
    (ss_cons T.xi (s_if (own' := []) (t_cmp F cr_eq (d_nm0 F n__law_dues_1 v__law_dues_1 (by decide)) d_str (nomark _)) (ss_one (s_ret (d_tup (a_cons d_bl (a_cons (DF.de (d_lst a_nil)) a_nil))) rfl (by rfl))) (ss_nil (own' := []) (by rfl)) (by rfl)) (ss_cons T.xi (s_setF (own' := []) F nd__law_dues n__law_dues_2 l__law_dues_2 (Or.inl rfl) (d_lst a_nil) (by rfl) (by rfl)) (ss_cons T.xi (s_for (own' := [2]) (olp := [2]) F po (i_seq F (d_split (d_nm0 F n__law_dues_1 v__law_dues_1 (by decide)) d_str)) (g_name F nd__law_dues n__law_dues_3 l__law_dues_3 (Or.inl rfl) (by decide)) (ss_cons T.xi (s_asg (own' := [2]) (d_call F tk c__law_due (by decide) gl__law_dues__law_due (a_cons (d_nm0 F n__law_dues_0 v__law_dues_0 (by decide)) (a_cons (d_nm0 F n__law_dues_3 v__law_dues_3 (by decide)) a_nil)) rfl (hlen := (len_cons (len_cons len_nil)))) (g_tup F (gs_cons (g_name F nd__law_dues n__law_dues_4 l__law_dues_4 (Or.inl rfl) (by decide)) (gs_cons (g_name F nd__law_dues n__law_dues_5 l__law_dues_5 (Or.inl rfl) (by decide)) gs_nil)) rfl (hl := (lenT_cons (lenT_cons lenT_nil)))) (by rfl) (by rfl)) (ss_cons T.xi (s_if (own' := [2]) (t_not (t_tru F (d_nm0 F n__law_dues_4 v__law_dues_4 (by decide)))) (ss_one (s_ret (d_tup (a_cons d_bl (a_cons (DF.de (d_lst a_nil)) a_nil))) rfl (by rfl))) (ss_nil (own' := [2]) (by rfl)) (by rfl)) (ss_cons T.xi (s_app (own' := [2]) F n__law_dues_2 v__law_dues_2 (d_nm0 F n__law_dues_5 v__law_dues_5 (by decide)) (by decide) (by rfl) (by rfl)) (ss_nil (own' := [2]) (by rfl))))) (by rfl) (by rfl) (by rfl)) (ss_one (s_ret (d_tup (a_cons d_bl (a_cons (d_nm F n__law_dues_2 v__law_dues_2) a_nil))) rfl (by rfl))))))
/-! ### _law_many -/
abbrev s__law_many : Stmt := topS 29
abbrev N__law_many : List PySem.Str := ["pool", "prime", "numbers", "base", "widest", "k", "number"]
theorem sc__law_many : FnScope N__law_many ["pool", "prime", "numbers"] (defScope s__law_many) := ⟨rfl, rfl, rfl, by decide +kernel, rfl, by decide +kernel, by decide +kernel⟩
theorem nd__law_many : (bodyS N__law_many s__law_many).N.Nodup := sc__law_many.nd
theorem n__law_many_0 : (bodyS N__law_many s__law_many).N[0]? = some (PySem.Str.ofString "pool") := rfl
theorem v__law_many_0 : Vis (bodyS N__law_many s__law_many).sc (PySem.Str.ofString "pool") := Or.inl (by decide +kernel)
theorem l__law_many_0 : L2.Loc (bodyS N__law_many s__law_many).sc (PySem.Str.ofString "pool") := Or.inl (by decide +kernel)
theorem l0__law_many_0 : (bodyS N__law_many s__law_many).sc.names.lookup (PySem.Str.ofString "pool") = some .local := by decide +kernel
theorem n__law_many_1 : (bodyS N__law_many s__law_many).N[1]? = some (PySem.Str.ofString "prime") := rfl
theorem v__law_many_1 : Vis (bodyS N__law_many s__law_many).sc (PySem.Str.ofString "prime") := Or.inr (Or.inl (by decide +kernel))
theorem l__law_many_1 : L2.Loc (bodyS N__law_many s__law_many).sc (PySem.Str.ofString "prime") := Or.inr (by decide +kernel)
theorem n__law_many_2 : (bodyS N__law_many s__law_many).N[2]? = some (PySem.Str.ofString "numbers") := rfl
theorem v__law_many_2 : Vis (bodyS N__law_many s__law_many).sc (PySem.Str.ofString "numbers") := Or.inl (by decide +kernel)
theorem l__law_many_2 : L2.Loc (bodyS N__law_many s__law_many).sc (PySem.Str.ofString "numbers") := Or.inl (by decide +kernel)
theorem l0__law_many_2 : (bodyS N__law_many s__law_many).sc.names.lookup (PySem.Str.ofString "numbers") = some .local := by decide +kernel
theorem n__law_many_3 : (bodyS N__law_many s__law_many).N[3]? = some (PySem.Str.ofString "base") := rfl
theorem v__law_many_3 : Vis (bodyS N__law_many s__law_many).sc (PySem.Str.ofString "base") := Or.inr (Or.inl (by decide +kernel))
theorem l__law_many_3 : L2.Loc (bodyS N__law_many s__law_many).sc (PySem.Str.ofString "base") := Or.inr (by decide +kernel)
theorem n__law_many_4 : (bodyS N__law_many s__law_many).N[4]? = some (PySem.Str.ofString "widest") := rfl
theorem v__law_many_4 : Vis (bodyS N__law_many s__law_many).sc (PySem.Str.ofString "widest") := Or.inl (by decide +kernel)
theorem l__law_many_4 : L2.Loc (bodyS N__law_many s__law_many).sc (PySem.Str.ofString "widest") := Or.inl (by decide +kernel)
theorem l0__law_many_4 : (bodyS N__law_many s__law_many).sc.names.lookup (PySem.Str.ofString "widest") = some .local := by decide +kernel
theorem n__law_many_5 : (bodyS N__law_many s__law_many).N[5]? = some (PySem.Str.ofString "k") := rfl
theorem n__law_many_6 : (bodyS N__law_many s__law_many).N[6]? = some (PySem.Str.ofString "number") := rfl
theorem gl__law_many__law_number : (bodyS N__law_many s__law_many).sc.names.lookup (PySem.Str.ofString "_law_number") = some .globalImplicit := by decide +kernel
theorem gl__law_many_len : (bodyS N__law_many s__law_many).sc.names.lookup (PySem.Str.ofString "len") = some .globalImplicit := by decide +kernel
theorem gl__law_many_max : (bodyS N__law_many s__law_many).sc.names.lookup (PySem.Str.ofString "max") = some .globalImplicit := by decide +kernel
theorem gl__law_many_range : (bodyS N__law_many s__law_many).sc.names.lookup (PySem.Str.ofString "range") = some .globalImplicit := by decide +kernel
noncomputable def body__law_many : DEnv → Fl := seqF (setF 3 (ifV (toB (b2 gtD (callF lenD (consA (nmD 2) (nilA))) (cD (.int 0)))) (nmD 2) (lstA (consA (callF den__law_number (consA (nmD 0) (consA (cD (.int 60)) (consA (nmD 1) (nilA))))) (nilA))))) (seqF (setF 4 (callF maxD (consA (lcD [6] (itS (nmD 3)) (putD 6) (yesB) (callF lenD (consA (callF den__law_text (consA (nmD 1) (consA (nmD 6) (nilA)))) (nilA)))) (nilA)))) (retF (lcD [5] (rng1 (consA (b2 fdivD (cD (.int 9900)) (b2 addD (nmD 4) (cD (.int 1)))) (nilA))) (putD 5) (yesB) (b2 idxD (nmD 3) (b2 modD (nmD 5) (callF lenD (consA (nmD 3) (nilA))))))))
noncomputable def den__law_many : List D → R D := runD 7 body__law_many
theorem ok__law_many {G : Cfg} (T : Tp G) (c__law_number : FnD G 2 (PySem.Str.ofString "_law_number") 3 false den__law_number) (c__law_text : FnD G 1 (PySem.Str.ofString "_law_text") 2 false den__law_text) {f : Addr} {fd : FuncData} (FF : Fun G.K (PySem.Str.ofString "_law_many") (PySem.Str.ofString "_law_many") s__law_many f fd) : FnOk G.P G.w G.K G.mg G.base (L2.CX G.P G.w) 3 f fd ["pool", "prime", "numbers"] (spD G 3 false den__law_many) :=
  fn_mk (N := N__law_many) (t := _) (g := body__law_many) (own' := []) T.xi FF sc__law_many rfl fun X W F tk po =>
    (ss_cons T.xi (s_set (own' := []) F nd__law_many n__law_many_3 l__law_many_3 (Or.inl rfl) (d_if (t_cmp F cr_gt (d_len F gl__law_many_len T.b_len (a_cons (d_nm0 F n__law_many_2 v__law_many_2 (by decide)) a_nil)) d_int (nomark _)) (d_nm0 F n__law_many_2 v__law_many_2 (by decide)) (DF.de (d_lst (a_cons (d_call F tk c__law_number (by decide) gl__law_many__law_number (a_cons (d_nm0 F n__law_many_0 v__law_many_0 (by decide)) (a_cons d_int (a_cons (d_nm0 F n__law_many_1 v__law_many_1 (by decide)) a_nil))) rfl (hlen := (len_cons (len_cons (len_cons len_nil))))) a_nil)))) (by rfl) (by rfl)) (ss_cons T.xi (s_set (own' := []) F nd__law_many n__law_many_4 l__law_many_4 (Or.inl rfl) (d_max F rfl gl__law_many_max T.b_max (a_cons (DF.de (d_lc (bo := [((PySem.Str.ofString "number"), 6)]) F nd__law_many (by decide +kernel) (i_seq F (d_nm0 F n__law_many_3 v__law_many_3 (by decide))) (fun X1 F1 => (g_name F1 nd__law_many n__law_many_6 (Or.inl rfl) (Or.inr rfl) (by decide))) (fun X1 F1 tk1 => ts_nil) (fun X1 F1 tk1 => (d_len F1 (by rfl) T.b_len (a_cons (d_call F1 tk1 c__law_text (by decide) (by rfl) (a_cons (d_nm0 F1 n__law_many_1 (Or.inr (Or.inl rfl)) (by decide)) (a_cons (d_nm0 F1 n__law_many_6 (Or.inl rfl) (by decide)) a_nil)) rfl (hlen := (len_cons (len_cons len_nil)))) a_nil))) (by decide) (by decide))) a_nil)) (by rfl) (by rfl)) (ss_one (s_ret (DF.de (d_lc (bo := [((PySem.Str.ofString "k"), 5)]) F nd__law_many (by decide +kernel) (i_rng1 F gl__law_many_range T.b_range (a_cons (d_fdiv d_int (d_add F (d_nm0 F n__law_many_4 v__law_many_4 (by decide)) d_int)) a_nil)) (fun X1 F1 => (g_name F1 nd__law_many n__law_many_5 (Or.inl rfl) (Or.inr rfl) (by decide))) (fun X1 F1 tk1 => ts_nil) (fun X1 F1 tk1 => (d_ixN F1 n__law_many_3 (Or.inr (Or.inl rfl)) (d_mod (d_nm0 F1 n__law_many_5 (Or.inl rfl) (by decide)) (d_len F1 (by rfl) T.b_len (a_cons (d_nm0 F1 n__law_many_3 (Or.inr (Or.inl rfl)) (by decide)) a_nil))))) (by decide) (by decide))) rfl (by rfl)))))
/-! ### _law_same -/
abbrev s__law_same : Stmt := topS 30
abbrev N__law_same : List PySem.Str := ["prime", "actual", "due", "part"]
theorem sc__law_same : FnScope N__law_same ["prime", "actual", "due"] (defScope s__law_same) := ⟨rfl, rfl, rfl, by decide +kernel, rfl, by decide +kernel, by decide +kernel⟩
theorem nd__law_same : (bodyS N__law_same s__law_same).N.Nodup := sc__law_same.nd
theorem n__law_same_0 : (bodyS N__law_same s__law_same).N[0]? = some (PySem.Str.ofString "prime") := rfl
theorem v__law_same_0 : Vis (bodyS N__law_same s__law_same).sc (PySem.Str.ofString "prime") := Or.inl (by decide +kernel)
theorem l__law_same_0 : L2.Loc (bodyS N__law_same s__law_same).sc (PySem.Str.ofString "prime") := Or.inl (by decide +kernel)
theorem l0__law_same_0 : (bodyS N__law_same s__law_same).sc.names.lookup (PySem.Str.ofString "prime") = some .local := by decide +kernel
theorem n__law_same_1 : (bodyS N__law_same s__law_same).N[1]? = some (PySem.Str.ofString "actual") := rfl
theorem v__law_same_1 : Vis (bodyS N__law_same s__law_same).sc (PySem.Str.ofString "actual") := Or.inl (by decide +kernel)
theorem l__law_same_1 : L2.Loc (bodyS N__law_same s__law_same).sc (PySem.Str.ofString "actual") := Or.inl (by decide +kernel)
theorem l0__law_same_1 : (bodyS N__law_same s__law_same).sc.names.lookup (PySem.Str.ofString "actual") = some .local := by decide +kernel
theorem n__law_same_2 : (bodyS N__law_same s__law_same).N[2]? = some (PySem.Str.ofString "due") := rfl
theorem v__law_same_2 : Vis (bodyS N__law_same s__law_same).sc (PySem.Str.ofString "due") := Or.inl (by decide +kernel)
theorem l__law_same_2 : L2.Loc (bodyS N__law_same s__law_same).sc (PySem.Str.ofString "due") := Or.inl (by decide +kernel)
theorem l0__law_same_2 : (bodyS N__law_same s__law_same).sc.names.lookup (PySem.Str.ofString "due") = some .local := by decide +kernel
theorem n__law_same_3 : (bodyS N__law_same s__law_same).N[3]? = some (PySem.Str.ofString "part") := rfl
theorem v__law_same_3 : Vis (bodyS N__law_same s__law_same).sc (PySem.Str.ofString "part") := Or.inl (by decide +kernel)
theorem l__law_same_3 : L2.Loc (bodyS N__law_same s__law_same).sc (PySem.Str.ofString "part") := Or.inl (by decide +kernel)
theorem l0__law_same_3 : (bodyS N__law_same s__law_same).sc.names.lookup (PySem.Str.ofString "part") = some .local := by decide +kernel
theorem gl__law_same_bool : (bodyS N__law_same s__law_same).sc.names.lookup (PySem.Str.ofString "bool") = some .globalImplicit := by decide +kernel
theorem gl__law_same_int : (bodyS N__law_same s__law_same).sc.names.lookup (PySem.Str.ofString "int") = some .globalImplicit := by decide +kernel
theorem gl__law_same_isinstance : (bodyS N__law_same s__law_same).sc.names.lookup (PySem.Str.ofString "isinstance") = some .globalImplicit := by decide +kernel
theorem gl__law_same_len : (bodyS N__law_same s__law_same).sc.names.lookup (PySem.Str.ofString "len") = some .globalImplicit := by decide +kernel
theorem gl__law_same_tuple : (bodyS N__law_same s__law_same).sc.names.lookup (PySem.Str.ofString "tuple") = some .globalImplicit := by decide +kernel
noncomputable def body__law_same : DEnv → Fl := seqF (ifF (toB (b2 gtD (nmD 0) (cD (.int 0)))) (retF (andV (u1 (isiD "int") (nmD 1)) (andV (u1 notD (u1 (isiD "bool") (nmD 1))) (b2 eqD (nmD 1) (nmD 2))))) (nxD)) (seqF (ifF (orB (notB (toT (u1 (isiD "tuple") (nmD 1)))) (toB (b2 neD (callF lenD (consA (nmD 1) (nilA))) (cD (.int 2))))) (retF (cD (.bl false))) (nxD)) (seqF (forF (itS (nmD 1)) (putD 3) (seqF (ifF (orB (notB (toT (u1 (isiD "int") (nmD 3)))) (toT (u1 (isiD "bool") (nmD 3)))) (retF (cD (.bl false))) (nxD)) (nxD))) (retF (b2 eqD (nmD 1) (nmD 2)))))
noncomputable def den__law_same : List D → R D := runD 4 body__law_same
theorem ok__law_same {G : Cfg} (T : Tp G)  {f : Addr} {fd : FuncData} (FF : Fun G.K (PySem.Str.ofString "_law_same") (PySem.Str.ofString "_law_same") s__law_same f fd) : FnOk G.P G.w G.K G.mg G.base (L2.CX G.P G.w) 1 f fd ["prime", "actual", "due"] (spD G 3 false den__law_same) :=
  fn_mk (N := N__law_same) (t := _) (g := body__law_same) (own' := []) T.xi FF sc__law_same rfl fun X W F tk po =>
    (ss_cons T.xi (s_if (own' := []) (t_cmp F cr_gt (d_nm0 F n__law_same_0 v__law_same_0 (by decide)) d_int (nomark _)) (ss_one (s_ret (d_and (d_isi F gl__law_same_isinstance T.b_isinstance gl__law_same_int T.b_int (by decide +kernel) (by decide +kernel) (d_nm0 F n__law_same_1 v__law_same_1 (by decide))) (d_and (d_not (d_isi F gl__law_same_isinstance T.b_isinstance gl__law_same_bool T.b_bool (by decide +kernel) (by decide +kernel) (d_nm0 F n__law_same_1 v__law_same_1 (by decide)))) (d_one (d_cmp F cr_eq (d_nm0 F n__law_same_1 v__law_same_1 (by decide)) (d_nm0 F n__law_same_2 v__law_same_2 (by decide)) (nomark _))))) rfl (by rfl))) (ss_nil (own' := []) (by rfl)) (by rfl)) (ss_cons T.xi (s_if (own' := []) (DW.dt (w_or (t_not (t_tru F (d_isi F gl__law_same_isinstance T.b_isinstance gl__law_same_tuple T.b_tuple (by decide +kernel) (by decide +kernel) (d_nm0 F n__law_same_1 v__law_same_1 (by decide))))) (w_or1 (t_cmp F cr_ne (d_len F gl__law_same_len T.b_len (a_cons (d_nm0 F n__law_same_1 v__law_same_1 (by decide)) a_nil)) d_int (nomark _))))) (ss_one (s_ret d_bl rfl (by rfl))) (ss_nil (own' := []) (by rfl)) (by rfl)) (ss_cons T.xi (s_for (own' := []) (olp := []) F po (i_seq F (d_nm0 F n__law_same_1 v__law_same_1 (by decide))) (g_name F nd__law_same n__law_same_3 l__law_same_3 (Or.inl rfl) (by decide)) (ss_cons T.xi (s_if (own' := []) (DW.dt (w_or (t_not (t_tru F (d_isi F gl__law_same_isinstance T.b_isinstance gl__law_same_int T.b_int (by decide +kernel) (by decide +kernel) (d_nm0 F n__law_same_3 v__law_same_3 (by decide))))) (w_or1 (t_tru F (d_isi F gl__law_same_isinstance T.b_isinstance gl__law_same_bool T.b_bool (by decide +kernel) (by decide +kernel) (d_nm0 F n__law_same_3 v__law_same_3 (by decide))))))) (ss_one (s_ret d_bl rfl (by rfl))) (ss_nil (own' := []) (by rfl)) (by rfl)) (ss_nil (own' := []) (by rfl))) (by rfl) (by rfl) (by rfl)) (ss_one (s_ret (d_cmp F cr_eq (d_nm0 F n__law_same_1 v__law_same_1 (by decide)) (d_nm0 F n__law_same_2 v__law_same_2 (by decide)) (nomark _)) rfl (by rfl))))))
/-! ### _law_number_told -/
abbrev s__law_number_told : Stmt := topS 31
abbrev N__law_number_told : List PySem.Str := ["prime", "text", "e"]
theorem sc__law_number_told : FnScope N__law_number_told ["prime", "text"] (defScope s__law_number_told) := ⟨rfl, rfl, rfl, by decide +kernel, rfl, by decide +kernel, by decide +kernel⟩
theorem nd__law_number_told : (bodyS N__law_number_told s__law_number_told).N.Nodup := sc__law_number_told.nd
theorem n__law_number_told_0 : (bodyS N__law_number_told s__law_number_told).N[0]? = some (PySem.Str.ofString "prime") := rfl
theorem v__law_number_told_0 : Vis (bodyS N__law_number_told s__law_number_told).sc (PySem.Str.ofString "prime") := Or.inl (by decide +kernel)
theorem l__law_number_told_0 : L2.Loc (bodyS N__law_number_told s__law_number_told).sc (PySem.Str.ofString "prime") := Or.inl (by decide +kernel)
theorem l0__law_number_told_0 : (bodyS N__law_number_told s__law_number_told).sc.names.lookup (PySem.Str.ofString "prime") = some .local := by decide +kernel
theorem n__law_number_told_1 : (bodyS N__law_number_told s__law_number_told).N[1]? = some (PySem.Str.ofString "text") := rfl
theorem v__law_number_told_1 : Vis (bodyS N__law_number_told s__law_number_told).sc (PySem.Str.ofString "text") := Or.inl (by decide +kernel)
theorem l__law_number_told_1 : L2.Loc (bodyS N__law_number_told s__law_number_told).sc (PySem.Str.ofString "text") := Or.inl (by decide +kernel)
theorem l0__law_number_told_1 : (bodyS N__law_number_told s__law_number_told).sc.names.lookup (PySem.Str.ofString "text") = some .local := by decide +kernel
theorem n__law_number_told_2 : (bodyS N__law_number_told s__law_number_told).N[2]? = some (PySem.Str.ofString "e") := rfl
theorem v__law_number_told_2 : Vis (bodyS N__law_number_told s__law_number_told).sc (PySem.Str.ofString "e") := Or.inl (by decide +kernel)
theorem l__law_number_told_2 : L2.Loc (bodyS N__law_number_told s__law_number_told).sc (PySem.Str.ofString "e") := Or.inl (by decide +kernel)
theorem l0__law_number_told_2 : (bodyS N__law_number_told s__law_number_told).sc.names.lookup (PySem.Str.ofString "e") = some .local := by decide +kernel
theorem gl__law_number_told_GridError : (bodyS N__law_number_told s__law_number_told).sc.names.lookup (PySem.Str.ofString "GridError") = some .globalImplicit := by decide +kernel
theorem gl__law_number_told_InvalidField : (bodyS N__law_number_told s__law_number_told).sc.names.lookup (PySem.Str.ofString "InvalidField") = some .globalImplicit := by decide +kernel
theorem gl__law_number_told_InvalidNumber : (bodyS N__law_number_told s__law_number_told).sc.names.lookup (PySem.Str.ofString "InvalidNumber") = some .globalImplicit := by decide +kernel
theorem gl__law_number_told_InvalidText : (bodyS N__law_number_told s__law_number_told).sc.names.lookup (PySem.Str.ofString "InvalidText") = some .globalImplicit := by decide +kernel
theorem gl__law_number_told_NoInverse : (bodyS N__law_number_told s__law_number_told).sc.names.lookup (PySem.Str.ofString "NoInverse") = some .globalImplicit := by decide +kernel
theorem gl__law_number_told_isinstance : (bodyS N__law_number_told s__law_number_told).sc.names.lookup (PySem.Str.ofString "isinstance") = some .globalImplicit := by decide +kernel
theorem gl__law_number_told_read_number : (bodyS N__law_number_told s__law_number_told).sc.names.lookup (PySem.Str.ofString "read_number") = some .globalImplicit := by decide +kernel
noncomputable def body__law_number_told : DEnv → Fl := seqF (tryF 2 [("InvalidText", true)] (retF (tupA (consA (cD (.bl true)) (consA (callF den_read_number (consA (nmD 0) (consA (nmD 1) (nilA)))) (nilA))))) (fun nm => retF (tupA (consA (cD (.bl false)) (consA (andV (isE [("InvalidText", true)] nm) (u1 notD (isE [("InvalidText", false)] nm))) (nilA)))))) (nxD)
noncomputable def den__law_number_told : List D → R D := runD 3 body__law_number_told
theorem ok__law_number_told {G : Cfg} (T : Tp G) (c_read_number : FnD G 3 (PySem.Str.ofString "read_number") 2 false den_read_number) {f : Addr} {fd : FuncData} (FF : Fun G.K (PySem.Str.ofString "_law_number_told") (PySem.Str.ofString "_law_number_told") s__law_number_told f fd) : FnOk G.P G.w G.K G.mg G.base (L2.CX G.P G.w) 4 f fd ["prime", "text"] (spD G 2 false den__law_number_told) :=
  fn_mk (N := N__law_number_told) (t := _) (g := body__law_number_told) (own' := []) T.xi FF sc__law_number_told rfl fun X W F tk po =>
    (ss_cons T.xi (s_tryAs (own' := []) (oh := []) (ms := [("InvalidText", true)]) F tk nd__law_number_told n__law_number_told_2 l0__law_number_told_2 T.e_InvalidText gl__law_number_told_InvalidText (by simp only [List.forall_mem_cons]; exact ⟨⟨_, T.e_InvalidText.cv, T.e_InvalidText.ec, T.x_InvalidText_InvalidText⟩, by simp⟩) (fun X1 W1 F1 tk1 => (ss_one (s_ret (d_tup (a_cons d_bl (a_cons (d_call F1 tk1 c_read_number (by decide) gl__law_number_told_read_number (a_cons (d_nm0 F1 n__law_number_told_0 v__law_number_told_0 (by decide)) (a_cons (d_nm0 F1 n__law_number_told_1 v__law_number_told_1 (by decide)) a_nil)) rfl (hlen := (len_cons (len_cons len_nil)))) a_nil))) rfl (by rfl)))) (fun X1 a1 D1 nm F1 hnm HH => (ss_one (s_ret (d_tup (a_cons d_bl (a_cons (d_and (d_isE (tbl := [("InvalidText", true)]) F1 HH hnm gl__law_number_told_isinstance T.b_isinstance n__law_number_told_2 v__law_number_told_2 (clsOwn gl__law_number_told_GridError T.e_GridError.gC) (by simp only [List.forall_mem_cons]; exact ⟨T.k1_InvalidText_GridError, by simp⟩)) (d_one (d_not (d_isE3 (tbl := [("InvalidText", false)]) F1 HH hnm gl__law_number_told_isinstance T.b_isinstance n__law_number_told_2 v__law_number_told_2 (clsOwn gl__law_number_told_InvalidField T.e_InvalidField.gC) (clsOwn gl__law_number_told_InvalidNumber T.e_InvalidNumber.gC) (clsOwn gl__law_number_told_NoInverse T.e_NoInverse.gC) (by simp only [List.forall_mem_cons]; exact ⟨T.k3_InvalidText_InvalidField_InvalidNumber_NoInverse, by simp⟩))))) a_nil))) rfl (by rfl)))) (by decide) (by decide) (by decide) (by rfl)) (ss_nil (own' := []) (by rfl)))
/-! ### _law_values_told -/
abbrev s__law_values_told : Stmt := topS 32
abbrev N__law_values_told : List PySem.Str := ["prime", "text", "e", "fits"]
theorem sc__law_values_told : FnScope N__law_values_told ["prime", "text"] (defScope s__law_values_told) := ⟨rfl, rfl, rfl, by decide +kernel, rfl, by decide +kernel, by decide +kernel⟩
theorem nd__law_values_told : (bodyS N__law_values_told s__law_values_told).N.Nodup := sc__law_values_told.nd
theorem n__law_values_told_0 : (bodyS N__law_values_told s__law_values_told).N[0]? = some (PySem.Str.ofString "prime") := rfl
theorem v__law_values_told_0 : Vis (bodyS N__law_values_told s__law_values_told).sc (PySem.Str.ofString "prime") := Or.inl (by decide +kernel)
theorem l__law_values_told_0 : L2.Loc (bodyS N__law_values_told s__law_values_told).sc (PySem.Str.ofString "prime") := Or.inl (by decide +kernel)
theorem l0__law_values_told_0 : (bodyS N__law_values_told s__law_values_told).sc.names.lookup (PySem.Str.ofString "prime") = some .local := by decide +kernel
theorem n__law_values_told_1 : (bodyS N__law_values_told s__law_values_told).N[1]? = some (PySem.Str.ofString "text") := rfl
theorem v__law_values_told_1 : Vis (bodyS N__law_values_told s__law_values_told).sc (PySem.Str.ofString "text") := Or.inl (by decide +kernel)
theorem l__law_values_told_1 : L2.Loc (bodyS N__law_values_told s__law_values_told).sc (PySem.Str.ofString "text") := Or.inl (by decide +kernel)
theorem l0__law_values_told_1 : (bodyS N__law_values_told s__law_values_told).sc.names.lookup (PySem.Str.ofString "text") = some .local := by decide +kernel
theorem n__law_values_told_2 : (bodyS N__law_values_told s__law_values_told).N[2]? = some (PySem.Str.ofString "e") := rfl
theorem v__law_values_told_2 : Vis (bodyS N__law_values_told s__law_values_told).sc (PySem.Str.ofString "e") := Or.inl (by decide +kernel)
theorem l__law_values_told_2 : L2.Loc (bodyS N__law_values_told s__law_values_told).sc (PySem.Str.ofString "e") := Or.inl (by decide +kernel)
theorem l0__law_values_told_2 : (bodyS N__law_values_told s__law_values_told).sc.names.lookup (PySem.Str.ofString "e") = some .local := by decide +kernel
theorem n__law_values_told_3 : (bodyS N__law_values_told s__law_values_told).N[3]? = some (PySem.Str.ofString "fits") := rfl
theorem v__law_values_told_3 : Vis (bodyS N__law_values_told s__law_values_told).sc (PySem.Str.ofString "fits") := Or.inl (by decide +kernel)
theorem l__law_values_told_3 : L2.Loc (bodyS N__law_values_told s__law_values_told).sc (PySem.Str.ofString "fits") := Or.inl (by decide +kernel)
theorem l0__law_values_told_3 : (bodyS N__law_values_told s__law_values_told).sc.names.lookup (PySem.Str.ofString "fits") = some .local := by decide +kernel
theorem gl__law_values_told_GridError : (bodyS N__law_values_told s__law_values_told).sc.names.lookup (PySem.Str.ofString "GridError") = some .globalImplicit := by decide +kernel
theorem gl__law_values_told_InvalidGrid : (bodyS N__law_values_told s__law_values_told).sc.names.lookup (PySem.Str.ofString "InvalidGrid") = some .globalImplicit := by decide +kernel
theorem gl__law_values_told_InvalidNumber : (bodyS N__law_values_told s__law_values_told).sc.names.lookup (PySem.Str.ofString "InvalidNumber") = some .globalImplicit := by decide +kernel
theorem gl__law_values_told_InvalidText : (bodyS N__law_values_told s__law_values_told).sc.names.lookup (PySem.Str.ofString "InvalidText") = some .globalImplicit := by decide +kernel
theorem gl__law_values_told_ValueError : (bodyS N__law_values_told s__law_values_told).sc.names.lookup (PySem.Str.ofString "ValueError") = some .globalImplicit := by decide +kernel
theorem gl__law_values_told_isinstance : (bodyS N__law_values_told s__law_values_told).sc.names.lookup (PySem.Str.ofString "isinstance") = some .globalImplicit := by decide +kernel
theorem gl__law_values_told_read_values : (bodyS N__law_values_told s__law_values_told).sc.names.lookup (PySem.Str.ofString "read_values") = some .globalImplicit := by decide +kernel
noncomputable def body__law_values_told : DEnv → Fl := seqF (tryF 2 [("InvalidText", true)] (retF (tupA (consA (flatE (cD (.bl true))) (consA (newE (isLst (callF den_read_values (consA (nmD 0) (consA (nmD 1) (nilA)))))) (nilA))))) (fun nm => seqF (setF 3 (andV (isE [("InvalidText", true)] nm) (isE [("InvalidText", true)] nm))) (retF (chkImm (tupA (consA (cD (.bl false)) (consA (andV (nmD 3) (u1 notD (isE [("InvalidText", false)] nm))) (nilA)))))))) (nxD)
noncomputable def den__law_values_told : List D → R D := runD 4 body__law_values_told
theorem ok__law_values_told {G : Cfg} (T : Tp G) (c_read_values : FnD G 4 (PySem.Str.ofString "read_values") 2 true den_read_values) {f : Addr} {fd : FuncData} (FF : Fun G.K (PySem.Str.ofString "_law_values_told") (PySem.Str.ofString "_law_values_told") s__law_values_told f fd) : FnOk G.P G.w G.K G.mg G.base (L2.CX G.P G.w) 5 f fd ["prime", "text"] (spD G 2 true den__law_values_told) :=
  fn_mk (N := N__law_values_told) (t := _) (g := body__law_values_told) (own' := []) T.xi FF sc__law_values_told rfl fun X W F tk po =>
    (ss_cons T.xi (s_tryAs (own' := []) (oh := []) (ms := [("InvalidText", true)]) F tk nd__law_values_told n__law_values_told_2 l0__law_values_told_2 T.e_GridError gl__law_values_told_GridError (by simp only [List.forall_mem_cons]; exact ⟨⟨_, T.e_InvalidText.cv, T.e_InvalidText.ec, T.x_InvalidText_GridError⟩, by simp⟩) (fun X1 W1 F1 tk1 => (ss_one (s_retT (n_tup (m_consE d_bl (m_consF (d_callF F1 tk1 c_read_values (by decide) gl__law_values_told_read_values (a_cons (d_nm0 F1 n__law_values_told_0 v__law_values_told_0 (by decide)) (a_cons (d_nm0 F1 n__law_values_told_1 v__law_values_told_1 (by decide)) a_nil)) rfl (hlen := (len_cons (len_cons len_nil)))) m_nil))) rfl (by rfl)))) (fun X1 a1 D1 nm F1 hnm HH => (ss_setE (own1 := []) F1 (held_set (by decide)) nd__law_values_told n__law_values_told_3 l__law_values_told_3 (Or.inl rfl) (d_and (d_isE (tbl := [("InvalidText", true)]) F1 HH hnm gl__law_values_told_isinstance T.b_isinstance n__law_values_told_2 v__law_values_told_2 (clsOwn gl__law_values_told_InvalidText T.e_InvalidText.gC) (by simp only [List.forall_mem_cons]; exact ⟨T.k1_InvalidText_InvalidText, by simp⟩)) (d_one (d_isE (tbl := [("InvalidText", true)]) F1 HH hnm gl__law_values_told_isinstance T.b_isinstance n__law_values_told_2 v__law_values_told_2 (clsTy (T := "ValueError") gl__law_values_told_ValueError T.b_ValueError (by decide +kernel)) (by simp only [List.forall_mem_cons]; exact ⟨T.k1_InvalidText_ValueError, by simp⟩)))) (by rfl) (by rfl) (ss_one (s_retI (d_tup (a_cons d_bl (a_cons (d_and (d_nm0 F1 n__law_values_told_3 v__law_values_told_3 (by decide)) (d_one (d_not (d_isE2 (tbl := [("InvalidText", false)]) F1 HH hnm gl__law_values_told_isinstance T.b_isinstance n__law_values_told_2 v__law_values_told_2 (clsOwn gl__law_values_told_InvalidGrid T.e_InvalidGrid.gC) (clsOwn gl__law_values_told_InvalidNumber T.e_InvalidNumber.gC) (by simp only [List.forall_mem_cons]; exact ⟨T.k2_InvalidText_InvalidGrid_InvalidNumber, by simp⟩))))) a_nil))) rfl (by rfl))))) (by decide) (by decide) (by decide) (by rfl)) (ss_nil (own' := []) (by rfl)))
/-! ### _law_number_read -/
abbrev s__law_number_read : Stmt := topS 33
abbrev N__law_number_read : List PySem.Str := ["prime", "text", "good", "due", "told", "actual"]
theorem sc__law_number_read : FnScope N__law_number_read ["prime", "text"] (defScope s__law_number_read) := ⟨rfl, rfl, rfl, by decide +kernel, rfl, by decide +kernel, by decide +kernel⟩
theorem nd__law_number_read : (bodyS N__law_number_read s__law_number_read).N.Nodup := sc__law_number_read.nd
theorem n__law_number_read_0 : (bodyS N__law_number_read s__law_number_read).N[0]? = some (PySem.Str.ofString "prime") := rfl
theorem v__law_number_read_0 : Vis (bodyS N__law_number_read s__law_number_read).sc (PySem.Str.ofString "prime") := Or.inl (by decide +kernel)
theorem l__law_number_read_0 : L2.Loc (bodyS N__law_number_read s__law_number_read).sc (PySem.Str.ofString "prime") := Or.inl (by decide +kernel)
theorem l0__law_number_read_0 : (bodyS N__law_number_read s__law_number_read).sc.names.lookup (PySem.Str.ofString "prime") = some .local := by decide +kernel
theorem n__law_number_read_1 : (bodyS N__law_number_read s__law_number_read).N[1]? = some (PySem.Str.ofString "text") := rfl
theorem v__law_number_read_1 : Vis (bodyS N__law_number_read s__law_number_read).sc (PySem.Str.ofString "text") := Or.inl (by decide +kernel)
theorem l__law_number_read_1 : L2.Loc (bodyS N__law_number_read s__law_number_read).sc (PySem.Str.ofString "text") := Or.inl (by decide +kernel)
theorem l0__law_number_read_1 : (bodyS N__law_number_read s__law_number_read).sc.names.lookup (PySem.Str.ofString "text") = some .local := by decide +kernel
theorem n__law_number_read_2 : (bodyS N__law_number_read s__law_number_read).N[2]? = some (PySem.Str.ofString "good") := rfl
theorem v__law_number_read_2 : Vis (bodyS N__law_number_read s__law_number_read).sc (PySem.Str.ofString "good") := Or.inl (by decide +kernel)
theorem l__law_number_read_2 : L2.Loc (bodyS N__law_number_read s__law_number_read).sc (PySem.Str.ofString "good") := Or.inl (by decide +kernel)
theorem l0__law_number_read_2 : (bodyS N__law_number_read s__law_number_read).sc.names.lookup (PySem.Str.ofString "good") = some .local := by decide +kernel
theorem n__law_number_read_3 : (bodyS N__law_number_read s__law_number_read).N[3]? = some (PySem.Str.ofString "due") := rfl
theorem v__law_number_read_3 : Vis (bodyS N__law_number_read s__law_number_read).sc (PySem.Str.ofString "due") := Or.inl (by decide +kernel)
theorem l__law_number_read_3 : L2.Loc (bodyS N__law_number_read s__law_number_read).sc (PySem.Str.ofString "due") := Or.inl (by decide +kernel)
theorem l0__law_number_read_3 : (bodyS N__law_number_read s__law_number_read).sc.names.lookup (PySem.Str.ofString "due") = some .local := by decide +kernel
theorem n__law_number_read_4 : (bodyS N__law_number_read s__law_number_read).N[4]? = some (PySem.Str.ofString "told") := rfl
theorem v__law_number_read_4 : Vis (bodyS N__law_number_read s__law_number_read).sc (PySem.Str.ofString "told") := Or.inl (by decide +kernel)
theorem l__law_number_read_4 : L2.Loc (bodyS N__law_number_read s__law_number_read).sc (PySem.Str.ofString "told") := Or.inl (by decide +kernel)
theorem l0__law_number_read_4 : (bodyS N__law_number_read s__law_number_read).sc.names.lookup (PySem.Str.ofString "told") = some .local := by decide +kernel
theorem n__law_number_read_5 : (bodyS N__law_number_read s__law_number_read).N[5]? = some (PySem.Str.ofString "actual") := rfl
theorem v__law_number_read_5 : Vis (bodyS N__law_number_read s__law_number_read).sc (PySem.Str.ofString "actual") := Or.inl (by decide +kernel)
theorem l__law_number_read_5 : L2.Loc (bodyS N__law_number_read s__law_number_read).sc (PySem.Str.ofString "actual") := Or.inl (by decide +kernel)
theorem l0__law_number_read_5 : (bodyS N__law_number_read s__law_number_read).sc.names.lookup (PySem.Str.ofString "actual") = some .local := by decide +kernel
theorem gl__law_number_read__law_due : (bodyS N__law_number_read s__law_number_read).sc.names.lookup (PySem.Str.ofString "_law_due") = some .globalImplicit := by decide +kernel
theorem gl__law_number_read__law_number_told : (bodyS N__law_number_read s__law_number_read).sc.names.lookup (PySem.Str.ofString "_law_number_told") = some .globalImplicit := by decide +kernel
theorem gl__law_number_read__law_same : (bodyS N__law_number_read s__law_number_read).sc.names.lookup (PySem.Str.ofString "_law_same") = some .globalImplicit := by decide +kernel
theorem gl__law_number_read_write_number : (bodyS N__law_number_read s__law_number_read).sc.names.lookup (PySem.Str.ofString "write_number") = some .globalImplicit := by decide +kernel
noncomputable def body__law_number_read : DEnv → Fl := seqF (asgF (callF den__law_due (consA (nmD 0) (consA (nmD 1) (nilA)))) (tupT (consT (putD 2) (consT (putD 3) (nilT))))) (seqF (asgF (callF den__law_number_told (consA (nmD 0) (consA (nmD 1) (nilA)))) (tupT (consT (putD 4) (consT (putD 5) (nilT))))) (seqF (ifF (notB (toT (nmD 2))) (retF (andV (u1 notD (nmD 4)) (nmD 5))) (nxD)) (retF (andV (nmD 4) (andV (callF den__law_same (consA (nmD 0) (consA (nmD 5) (consA (nmD 3) (nilA))))) (b2 eqD (callF den_write_number (consA (nmD 0) (consA (nmD 5) (nilA)))) (nmD 1)))))))
noncomputable def den__law_number_read : List D → R D := runD 6 body__law_number_read
theorem ok__law_number_read {G : Cfg} (T : Tp G) (c_write_number : FnD G 1 (PySem.Str.ofString "write_number") 2 false den_write_number) (c__law_due : FnD G 2 (PySem.Str.ofString "_law_due") 2 false den__law_due) (c__law_same : FnD G 1 (PySem.Str.ofString "_law_same") 3 false den__law_same) (c__law_number_told : FnD G 4 (PySem.Str.ofString "_law_number_told") 2 false den__law_number_told) {f : Addr} {fd : FuncData} (FF : Fun G.K (PySem.Str.ofString "_law_number_read") (PySem.Str.ofString "_law_number_read") s__law_number_read f fd) : FnOk G.P G.w G.K G.mg G.base (L2.CX G.P G.w) 5 f fd ["prime", "text"] (spD G 2 false den__law_number_read) :=
  fn_mk (N := N__law_number_read) (t := _) (g := body__law_number_read) (own' := []) T.xi FF sc__law_number_read rfl fun X W F tk po =>
    (ss_cons T.xi (s_asg (own' := []) (d_call F tk c__law_due (by decide) gl__law_number_read__law_due (a_cons (d_nm0 F n__law_number_read_0 v__law_number_read_0 (by decide)) (a_cons (d_nm0 F n__law_number_read_1 v__law_number_read_1 (by decide)) a_nil)) rfl (hlen := (len_cons (len_cons len_nil)))) (g_tup F (gs_cons (g_name F nd__law_number_read n__law_number_read_2 l__law_number_read_2 (Or.inl rfl) (by decide)) (gs_cons (g_name F nd__law_number_read n__law_number_read_3 l__law_number_read_3 (Or.inl rfl) (by decide)) gs_nil)) rfl (hl := (lenT_cons (lenT_cons lenT_nil)))) (by rfl) (by rfl)) (ss_cons T.xi (s_asg (own' := []) (d_call F tk c__law_number_told (by decide) gl__law_number_read__law_number_told (a_cons (d_nm0 F n__law_number_read_0 v__law_number_read_0 (by decide)) (a_cons (d_nm0 F n__law_number_read_1 v__law_number_read_1 (by decide)) a_nil)) rfl (hlen := (len_cons (len_cons len_nil)))) (g_tup F (gs_cons (g_name F nd__law_number_read n__law_number_read_4 l__law_number_read_4 (Or.inl rfl) (by decide)) (gs_cons (g_name F nd__law_number_read n__law_number_read_5 l__law_number_read_5 (Or.inl rfl) (by decide)) gs_nil)) rfl (hl := (lenT_cons (lenT_cons lenT_nil)))) (by rfl) (by rfl)) (ss_cons T.xi (s_if (own' := []) (t_not (t_tru F (d_nm0 F n__law_number_read_2 v__law_number_read_2 (by decide)))) (ss_one (s_ret (d_and (d_not (d_nm0 F n__law_number_read_4 v__law_number_read_4 (by decide))) (d_one (d_nm0 F n__law_number_read_5 v__law_number_read_5 (by decide)))) rfl (by rfl))) (ss_nil (own' := []) (by rfl)) (by rfl)) (ss_one (s_ret (d_and (d_nm0 F n__law_number_read_4 v__law_number_read_4 (by decide)) (d_and (d_call F tk c__law_same (by decide) gl__law_number_read__law_same (a_cons (d_nm0 F n__law_number_read_0 v__law_number_read_0 (by decide)) (a_cons (d_nm0 F n__law_number_read_5 v__law_number_read_5 (by decide)) (a_cons (d_nm0 F n__law_number_read_3 v__law_number_read_3 (by decide)) a_nil))) rfl (hlen := (len_cons (len_cons (len_cons len_nil))))) (d_one (d_cmp F cr_eq (d_call F tk c_write_number (by decide) gl__law_number_read_write_number (a_cons (d_nm0 F n__law_number_read_0 v__law_number_read_0 (by decide)) (a_cons (d_nm0 F n__law_number_read_5 v__law_number_read_5 (by decide)) a_nil)) rfl (hlen := (len_cons (len_cons len_nil)))) (d_nm0 F n__law_number_read_1 v__law_number_read_1 (by decide)) (nomark _))))) rfl (by rfl))))))
/-! ### _law_values_read -/
abbrev s__law_values_read : Stmt := topS 34
abbrev N__law_values_read : List PySem.Str := ["prime", "text", "k", "again", "good", "due", "told", "actual"]
theorem sc__law_values_read : FnScope N__law_values_read ["prime", "text"] (defScope s__law_values_read) := ⟨rfl, rfl, rfl, by decide +kernel, rfl, by decide +kernel, by decide +kernel⟩
theorem nd__law_values_read : (bodyS N__law_values_read s__law_values_read).N.Nodup := sc__law_values_read.nd
theorem n__law_values_read_0 : (bodyS N__law_values_read s__law_values_read).N[0]? = some (PySem.Str.ofString "prime") := rfl
theorem v__law_values_read_0 : Vis (bodyS N__law_values_read s__law_values_read).sc (PySem.Str.ofString "prime") := Or.inl (by decide +kernel)
theorem l__law_values_read_0 : L2.Loc (bodyS N__law_values_read s__law_values_read).sc (PySem.Str.ofString "prime") := Or.inl (by decide +kernel)
theorem l0__law_values_read_0 : (bodyS N__law_values_read s__law_values_read).sc.names.lookup (PySem.Str.ofString "prime") = some .local := by decide +kernel
theorem n__law_values_read_1 : (bodyS N__law_values_read s__law_values_read).N[1]? = some (PySem.Str.ofString "text") := rfl
theorem v__law_values_read_1 : Vis (bodyS N__law_values_read s__law_values_read).sc (PySem.Str.ofString "text") := Or.inl (by decide +kernel)
theorem l__law_values_read_1 : L2.Loc (bodyS N__law_values_read s__law_values_read).sc (PySem.Str.ofString "text") := Or.inl (by decide +kernel)
theorem l0__law_values_read_1 : (bodyS N__law_values_read s__law_values_read).sc.names.lookup (PySem.Str.ofString "text") = some .local := by decide +kernel
theorem n__law_values_read_2 : (bodyS N__law_values_read s__law_values_read).N[2]? = some (PySem.Str.ofString "k") := rfl
theorem v__law_values_read_2 : Vis (bodyS N__law_values_read s__law_values_read).sc (PySem.Str.ofString "k") := Or.inl (by decide +kernel)
theorem l__law_values_read_2 : L2.Loc (bodyS N__law_values_read s__law_values_read).sc (PySem.Str.ofString "k") := Or.inl (by decide +kernel)
theorem l0__law_values_read_2 : (bodyS N__law_values_read s__law_values_read).sc.names.lookup (PySem.Str.ofString "k") = some .local := by decide +kernel
theorem n__law_values_read_3 : (bodyS N__law_values_read s__law_values_read).N[3]? = some (PySem.Str.ofString "again") := rfl
theorem v__law_values_read_3 : Vis (bodyS N__law_values_read s__law_values_read).sc (PySem.Str.ofString "again") := Or.inl (by decide +kernel)
theorem l__law_values_read_3 : L2.Loc (bodyS N__law_values_read s__law_values_read).sc (PySem.Str.ofString "again") := Or.inl (by decide +kernel)
theorem l0__law_values_read_3 : (bodyS N__law_values_read s__law_values_read).sc.names.lookup (PySem.Str.ofString "again") = some .local := by decide +kernel
theorem n__law_values_read_4 : (bodyS N__law_values_read s__law_values_read).N[4]? = some (PySem.Str.ofString "good") := rfl
theorem v__law_values_read_4 : Vis (bodyS N__law_values_read s__law_values_read).sc (PySem.Str.ofString "good") := Or.inl (by decide +kernel)
theorem l__law_values_read_4 : L2.Loc (bodyS N__law_values_read s__law_values_read).sc (PySem.Str.ofString "good") := Or.inl (by decide +kernel)
theorem l0__law_values_read_4 : (bodyS N__law_values_read s__law_values_read).sc.names.lookup (PySem.Str.ofString "good") = some .local := by decide +kernel
theorem n__law_values_read_5 : (bodyS N__law_values_read s__law_values_read).N[5]? = some (PySem.Str.ofString "due") := rfl
theorem v__law_values_read_5 : Vis (bodyS N__law_values_read s__law_values_read).sc (PySem.Str.ofString "due") := Or.inl (by decide +kernel)
theorem l__law_values_read_5 : L2.Loc (bodyS N__law_values_read s__law_values_read).sc (PySem.Str.ofString "due") := Or.inl (by decide +kernel)
theorem l0__law_values_read_5 : (bodyS N__law_values_read s__law_values_read).sc.names.lookup (PySem.Str.ofString "due") = some .local := by decide +kernel
theorem n__law_values_read_6 : (bodyS N__law_values_read s__law_values_read).N[6]? = some (PySem.Str.ofString "told") := rfl
theorem v__law_values_read_6 : Vis (bodyS N__law_values_read s__law_values_read).sc (PySem.Str.ofString "told") := Or.inl (by decide +kernel)
theorem l__law_values_read_6 : L2.Loc (bodyS N__law_values_read s__law_values_read).sc (PySem.Str.ofString "told") := Or.inl (by decide +kernel)
theorem l0__law_values_read_6 : (bodyS N__law_values_read s__law_values_read).sc.names.lookup (PySem.Str.ofString "told") = some .local := by decide +kernel
theorem n__law_values_read_7 : (bodyS N__law_values_read s__law_values_read).N[7]? = some (PySem.Str.ofString "actual") := rfl
theorem v__law_values_read_7 : Vis (bodyS N__law_values_read s__law_values_read).sc (PySem.Str.ofString "actual") := Or.inl (by decide +kernel)
theorem l__law_values_read_7 : L2.Loc (bodyS N__law_values_read s__law_values_read).sc (PySem.Str.ofString "actual") := Or.inl (by decide +kernel)
theorem l0__law_values_read_7 : (bodyS N__law_values_read s__law_values_read).sc.names.lookup (PySem.Str.ofString "actual") = some .local := by decide +kernel
theorem gl__law_values_read__law_dues : (bodyS N__law_values_read s__law_values_read).sc.names.lookup (PySem.Str.ofString "_law_dues") = some .globalImplicit := by decide +kernel
theorem gl__law_values_read__law_same : (bodyS N__law_values_read s__law_values_read).sc.names.lookup (PySem.Str.ofString "_law_same") = some .globalImplicit := by decide +kernel
theorem gl__law_values_read__law_values_told : (bodyS N__law_values_read s__law_values_read).sc.names.lookup (PySem.Str.ofString "_law_values_told") = some .globalImplicit := by decide +kernel
theorem gl__law_values_read_isinstance : (bodyS N__law_values_read s__law_values_read).sc.names.lookup (PySem.Str.ofString "isinstance") = some .globalImplicit := by decide +kernel
theorem gl__law_values_read_len : (bodyS N__law_values_read s__law_values_read).sc.names.lookup (PySem.Str.ofString "len") = some .globalImplicit := by decide +kernel
theorem gl__law_values_read_list : (bodyS N__law_values_read s__law_values_read).sc.names.lookup (PySem.Str.ofString "list") = some .globalImplicit := by decide +kernel
theorem gl__law_values_read_range : (bodyS N__law_values_read s__law_values_read).sc.names.lookup (PySem.Str.ofString "range") = some .globalImplicit := by decide +kernel
theorem gl__law_values_read_read_values : (bodyS N__law_values_read s__law_values_read).sc.names.lookup (PySem.Str.ofString "read_values") = some .globalImplicit := by decide +kernel
theorem gl__law_values_read_write_values : (bodyS N__law_values_read s__law_values_read).sc.names.lookup (PySem.Str.ofString "write_values") = some .globalImplicit := by decide +kernel
noncomputable def body__law_values_read : DEnv → Fl := seqF (asgF (callF den__law_dues (consA (nmD 0) (consA (nmD 1) (nilA)))) (tupT (consT (putD 4) (consT (putD 5) (nilT))))) (seqF (unpF 6 7 (callF den__law_values_told (consA (nmD 0) (consA (nmD 1) (nilA))))) (seqF (ifF (notB (toT (nmD 4))) (retF (andV (u1 notD (nmD 6)) (nmD 7))) (nxD)) (seqF (ifF (orB (notB (toT (nmD 6))) (orB (notB (toT (u1 (isiD "list") (nmD 7)))) (toB (b2 neD (callF lenD (consA (nmD 7) (nilA))) (callF lenD (consA (nmD 5) (nilA))))))) (retF (cD (.bl false))) (nxD)) (seqF (forF (rng1 (consA (callF lenD (consA (nmD 5) (nilA))) (nilA))) (putD 2) (seqF (ifF (notB (toT (callF den__law_same (consA (nmD 0) (consA (b2 idxD (nmD 7) (nmD 2)) (consA (b2 idxD (nmD 5) (nmD 2)) (nilA))))))) (retF (cD (.bl false))) (nxD)) (nxD))) (seqF (ifF (toB (b2 neD (callF den_write_values (consA (nmD 0) (consA (nmD 7) (nilA)))) (nmD 1))) (retF (cD (.bl false))) (nxD)) (seqF (appF 7 (ifV (toB (b2 gtD (callF lenD (consA (nmD 7) (nilA))) (cD (.int 0)))) (b2 idxD (nmD 7) (cD (.int 0))) (cD (.int 0)))) (seqF (setF 3 (callF den_read_values (consA (nmD 0) (consA (nmD 1) (nilA))))) (retF (andV (u1 (isiD "list") (nmD 3)) (b2 eqD (nmD 3) (nmD 5)))))))))))
noncomputable def den__law_values_read : List D → R D := runD 8 body__law_values_read
theorem ok__law_values_read {G : Cfg} (T : Tp G) (c_write_values : FnD G 2 (PySem.Str.ofString "write_values") 2 false den_write_values) (c_read_values : FnD G 4 (PySem.Str.ofString "read_values") 2 true den_read_values) (c__law_dues : FnD G 3 (PySem.Str.ofString "_law_dues") 2 false den__law_dues) (c__law_same : FnD G 1 (PySem.Str.ofString "_law_same") 3 false den__law_same) (c__law_values_told : FnD G 5 (PySem.Str.ofString "_law_values_told") 2 true den__law_values_told) {f : Addr} {fd : FuncData} (FF : Fun G.K (PySem.Str.ofString "_law_values_read") (PySem.Str.ofString "_law_values_read") s__law_values_read f fd) : FnOk G.P G.w G.K G.mg G.base (L2.CX G.P G.w) 6 f fd ["prime", "text"] (spD G 2 false den__law_values_read) :=
  fn_mk (N := N__law_values_read) (t := _) (g := body__law_values_read) (own' := []) T.xi FF sc__law_values_read rfl fun X W F tk po =>
    (ss_cons T.xi (s_asg (own' := []) (d_call F tk c__law_dues (by decide) gl__law_values_read__law_dues (a_cons (d_nm0 F n__law_values_read_0 v__law_values_read_0 (by decide)) (a_cons (d_nm0 F n__law_values_read_1 v__law_values_read_1 (by decide)) a_nil)) rfl (hlen := (len_cons (len_cons len_nil)))) (g_tup F (gs_cons (g_name F nd__law_values_read n__law_values_read_4 l__law_values_read_4 (Or.inl rfl) (by decide)) (gs_cons (g_name F nd__law_values_read n__law_values_read_5 l__law_values_read_5 (Or.inl rfl) (by decide)) gs_nil)) rfl (hl := (lenT_cons (lenT_cons lenT_nil)))) (by rfl) (by rfl)) (ss_cons T.xi (s_unp (own' := []) F nd__law_values_read n__law_values_read_6 n__law_values_read_7 (by decide) l__law_values_read_6 l__law_values_read_7 (Or.inl rfl) (Or.inl rfl) (n_call F tk c__law_values_told (by decide) gl__law_values_read__law_values_told (a_cons (d_nm0 F n__law_values_read_0 v__law_values_read_0 (by decide)) (a_cons (d_nm0 F n__law_values_read_1 v__law_values_read_1 (by decide)) a_nil)) rfl (hlen := (len_cons (len_cons len_nil)))) (by rfl) (by rfl)) (ss_cons T.xi (s_if (own' := [7]) (t_not (t_tru F (d_nm0 F n__law_values_read_4 v__law_values_read_4 (by decide)))) (ss_one (s_ret (d_and (d_not (d_nm0 F n__law_values_read_6 v__law_values_read_6 (by decide))) (d_one (d_nm F n__law_values_read_7 v__law_values_read_7))) rfl (by rfl))) (ss_nil (own' := [7]) (by rfl)) (by rfl)) (ss_cons T.xi (s_if (own' := [7]) (DW.dt (w_or (t_not (t_tru F (d_nm0 F n__law_values_read_6 v__law_values_read_6 (by decide)))) (w_or (t_not (t_tru F (d_isi F gl__law_values_read_isinstance T.b_isinstance gl__law_values_read_list T.b_list (by decide +kernel) (by decide +kernel) (d_nm F n__law_values_read_7 v__law_values_read_7)))) (w_or1 (t_cmp F cr_ne (d_len F gl__law_values_read_len T.b_len (a_cons (d_nm F n__law_values_read_7 v__law_values_read_7) a_nil)) (d_len F gl__law_values_read_len T.b_len (a_cons (d_nm0 F n__law_values_read_5 v__law_values_read_5 (by decide)) a_nil)) (nomark _)))))) (ss_one (s_ret d_bl rfl (by rfl))) (ss_nil (own' := [7]) (by rfl)) (by rfl)) (ss_cons T.xi (s_for (own' := [7]) (olp := [7]) F po (i_rng1 F gl__law_values_read_range T.b_range (a_cons (d_len F gl__law_values_read_len T.b_len (a_cons (d_nm0 F n__law_values_read_5 v__law_values_read_5 (by decide)) a_nil)) a_nil)) (g_name F nd__law_values_read n__law_values_read_2 l__law_values_read_2 (Or.inl rfl) (by decide)) (ss_cons T.xi (s_if (own' := [7]) (t_not (t_tru F (d_call F tk c__law_same (by decide) gl__law_values_read__law_same (a_cons (d_nm0 F n__law_values_read_0 v__law_values_read_0 (by decide)) (a_cons (d_ixN F n__law_values_read_7 v__law_values_read_7 (d_nm0 F n__law_values_read_2 v__law_values_read_2 (by decide))) (a_cons (d_ixN F n__law_values_read_5 v__law_values_read_5 (d_nm0 F n__law_values_read_2 v__law_values_read_2 (by decide))) a_nil))) rfl (hlen := (len_cons (len_cons (len_cons len_nil))))))) (ss_one (s_ret d_bl rfl (by rfl))) (ss_nil (own' := [7]) (by rfl)) (by rfl)) (ss_nil (own' := [7]) (by rfl))) (by rfl) (by rfl) (by rfl)) (ss_cons T.xi (s_if (own' := [7]) (t_cmp F cr_ne (d_call F tk c_write_values (by decide) gl__law_values_read_write_values (a_cons (d_nm0 F n__law_values_read_0 v__law_values_read_0 (by decide)) (a_cons (d_nm F n__law_values_read_7 v__law_values_read_7) a_nil)) rfl (hlen := (len_cons (len_cons len_nil)))) (d_nm0 F n__law_values_read_1 v__law_values_read_1 (by decide)) (nomark _)) (ss_one (s_ret d_bl rfl (by rfl))) (ss_nil (own' := [7]) (by rfl)) (by rfl)) (ss_cons T.xi (s_app (own' := [7]) F n__law_values_read_7 v__law_values_read_7 (d_if (t_cmp F cr_gt (d_len F gl__law_values_read_len T.b_len (a_cons (d_nm F n__law_values_read_7 v__law_values_read_7) a_nil)) d_int (nomark _)) (d_ixN F n__law_values_read_7 v__law_values_read_7 d_int) d_int) (by decide) (by rfl) (by rfl)) (ss_cons T.xi (s_set (own' := [7]) F nd__law_values_read n__law_values_read_3 l__law_values_read_3 (Or.inl rfl) (d_call F tk c_read_values (by decide) gl__law_values_read_read_values (a_cons (d_nm0 F n__law_values_read_0 v__law_values_read_0 (by decide)) (a_cons (d_nm0 F n__law_values_read_1 v__law_values_read_1 (by decide)) a_nil)) rfl (hlen := (len_cons (len_cons len_nil)))) (by rfl) (by rfl)) (ss_one (s_ret (d_and (d_isi F gl__law_values_read_isinstance T.b_isinstance gl__law_values_read_list T.b_list (by decide +kernel) (by decide +kernel) (d_nm0 F n__law_values_read_3 v__law_values_read_3 (by decide))) (d_one (d_cmp F cr_eq (d_nm0 F n__law_values_read_3 v__law_values_read_3 (by decide)) (d_nm0 F n__law_values_read_5 v__law_values_read_5 (by decide)) (nomark _)))) rfl (by rfl)))))))))))
/-! ### _law_spoilt -/
abbrev s__law_spoilt : Stmt := topS 35
abbrev N__law_spoilt : List PySem.Str := ["text", "pool", "at", "signs", "sign", "kind", "place"]
theorem sc__law_spoilt : FnScope N__law_spoilt ["text", "pool", "at"] (defScope s__law_spoilt) := ⟨rfl, rfl, rfl, by decide +kernel, rfl, by decide +kernel, by decide +kernel⟩
theorem nd__law_spoilt : (bodyS N__law_spoilt s__law_spoilt).N.Nodup := sc__law_spoilt.nd
theorem n__law_spoilt_0 : (bodyS N__law_spoilt s__law_spoilt).N[0]? = some (PySem.Str.ofString "text") := rfl
theorem v__law_spoilt_0 : Vis (bodyS N__law_spoilt s__law_spoilt).sc (PySem.Str.ofString "text") := Or.inl (by decide +kernel)
theorem l__law_spoilt_0 : L2.Loc (bodyS N__law_spoilt s__law_spoilt).sc (PySem.Str.ofString "text") := Or.inl (by decide +kernel)
theorem l0__law_spoilt_0 : (bodyS N__law_spoilt s__law_spoilt).sc.names.lookup (PySem.Str.ofString "text") = some .local := by decide +kernel
theorem n__law_spoilt_1 : (bodyS N__law_spoilt s__law_spoilt).N[1]? = some (PySem.Str.ofString "pool") := rfl
theorem v__law_spoilt_1 : Vis (bodyS N__law_spoilt s__law_spoilt).sc (PySem.Str.ofString "pool") := Or.inl (by decide +kernel)
theorem l__law_spoilt_1 : L2.Loc (bodyS N__law_spoilt s__law_spoilt).sc (PySem.Str.ofString "pool") := Or.inl (by decide +kernel)
theorem l0__law_spoilt_1 : (bodyS N__law_spoilt s__law_spoilt).sc.names.lookup (PySem.Str.ofString "pool") = some .local := by decide +kernel
theorem n__law_spoilt_2 : (bodyS N__law_spoilt s__law_spoilt).N[2]? = some (PySem.Str.ofString "at") := rfl
theorem v__law_spoilt_2 : Vis (bodyS N__law_spoilt s__law_spoilt).sc (PySem.Str.ofString "at") := Or.inl (by decide +kernel)
theorem l__law_spoilt_2 : L2.Loc (bodyS N__law_spoilt s__law_spoilt).sc (PySem.Str.ofString "at") := Or.inl (by decide +kernel)
theorem l0__law_spoilt_2 : (bodyS N__law_spoilt s__law_spoilt).sc.names.lookup (PySem.Str.ofString "at") = some .local := by decide +kernel
theorem n__law_spoilt_3 : (bodyS N__law_spoilt s__law_spoilt).N[3]? = some (PySem.Str.ofString "signs") := rfl
theorem v__law_spoilt_3 : Vis (bodyS N__law_spoilt s__law_spoilt).sc (PySem.Str.ofString "signs") := Or.inl (by decide +kernel)
theorem l__law_spoilt_3 : L2.Loc (bodyS N__law_spoilt s__law_spoilt).sc (PySem.Str.ofString "signs") := Or.inl (by decide +kernel)
theorem l0__law_spoilt_3 : (bodyS N__law_spoilt s__law_spoilt).sc.names.lookup (PySem.Str.ofString "signs") = some .local := by decide +kernel
theorem n__law_spoilt_4 : (bodyS N__law_spoilt s__law_spoilt).N[4]? = some (PySem.Str.ofString "sign") := rfl
theorem v__law_spoilt_4 : Vis (bodyS N__law_spoilt s__law_spoilt).sc (PySem.Str.ofString "sign") := Or.inl (by decide +kernel)
theorem l__law_spoilt_4 : L2.Loc (bodyS N__law_spoilt s__law_spoilt).sc (PySem.Str.ofString "sign") := Or.inl (by decide +kernel)
theorem l0__law_spoilt_4 : (bodyS N__law_spoilt s__law_spoilt).sc.names.lookup (PySem.Str.ofString "sign") = some .local := by decide +kernel
theorem n__law_spoilt_5 : (bodyS N__law_spoilt s__law_spoilt).N[5]? = some (PySem.Str.ofString "kind") := rfl
theorem v__law_spoilt_5 : Vis (bodyS N__law_spoilt s__law_spoilt).sc (PySem.Str.ofString "kind") := Or.inl (by decide +kernel)
theorem l__law_spoilt_5 : L2.Loc (bodyS N__law_spoilt s__law_spoilt).sc (PySem.Str.ofString "kind") := Or.inl (by decide +kernel)
theorem l0__law_spoilt_5 : (bodyS N__law_spoilt s__law_spoilt).sc.names.lookup (PySem.Str.ofString "kind") = some .local := by decide +kernel
theorem n__law_spoilt_6 : (bodyS N__law_spoilt s__law_spoilt).N[6]? = some (PySem.Str.ofString "place") := rfl
theorem v__law_spoilt_6 : Vis (bodyS N__law_spoilt s__law_spoilt).sc (PySem.Str.ofString "place") := Or.inl (by decide +kernel)
theorem l__law_spoilt_6 : L2.Loc (bodyS N__law_spoilt s__law_spoilt).sc (PySem.Str.ofString "place") := Or.inl (by decide +kernel)
theorem l0__law_spoilt_6 : (bodyS N__law_spoilt s__law_spoilt).sc.names.lookup (PySem.Str.ofString "place") = some .local := by decide +kernel
theorem gl__law_spoilt_int : (bodyS N__law_spoilt s__law_spoilt).sc.names.lookup (PySem.Str.ofString "int") = some .globalImplicit := by decide +kernel
theorem gl__law_spoilt_len : (bodyS N__law_spoilt s__law_spoilt).sc.names.lookup (PySem.Str.ofString "len") = some .globalImplicit := by decide +kernel
noncomputable def body__law_spoilt : DEnv → Fl := seqF (setF 3 (cD (.str (PySem.Str.ofString " !\"#$&'()*+,-./0123456789:;<=>?@ABCDEFGHIJKLMNOPQRSTUVWXYZ[\\]^_`")))) (seqF (setF 3 (b2 addD (nmD 3) (cD (.str (PySem.Str.ofString "abcdefghijklmnopqrstuvwxyz{|}~"))))) (seqF (setF 4 (b2 idxD (nmD 3) (b2 modD (callF intAD (consA (b2 idxD (nmD 1) (nmD 2)) (nilA))) (cD (.int 94))))) (seqF (ifF (toB (b2 eqD (b2 modD (callF intAD (consA (b2 idxD (nmD 1) (b2 addD (nmD 2) (cD (.int 1)))) (nilA))) (cD (.int 2))) (cD (.int 0)))) (seqF (setF 4 (b2 idxD (cD (.str (PySem.Str.ofString "0129 -/+"))) (b2 modD (callF intAD (consA (b2 idxD (nmD 1) (nmD 2)) (nilA))) (cD (.int 8))))) (nxD)) (nxD)) (seqF (setF 5 (b2 modD (callF intAD (consA (b2 idxD (nmD 1) (b2 addD (nmD 2) (cD (.int 2)))) (nilA))) (cD (.int 5)))) (seqF (setF 6 (b2 modD (callF intAD (consA (b2 idxD (nmD 1) (b2 addD (nmD 2) (cD (.int 3)))) (nilA))) (b2 addD (callF lenD (consA (nmD 0) (nilA))) (cD (.int 1))))) (seqF (ifF (toB (b2 eqD (nmD 5) (cD (.int 0)))) (retF (b2 addD (b2 addD (sl3 cutD (nmD 0) (noP) (someP (nmD 6))) (nmD 4)) (sl3 cutD (nmD 0) (someP (nmD 6)) (noP)))) (nxD)) (seqF (ifF (toB (b2 eqD (nmD 5) (cD (.int 1)))) (retF (b2 addD (sl3 cutD (nmD 0) (noP) (someP (nmD 6))) (sl3 cutD (nmD 0) (someP (b2 addD (nmD 6) (cD (.int 1)))) (noP)))) (nxD)) (seqF (ifF (toB (b2 eqD (nmD 5) (cD (.int 2)))) (retF (b2 addD (b2 addD (sl3 cutD (nmD 0) (noP) (someP (nmD 6))) (sl3 cutD (nmD 0) (someP (nmD 6)) (someP (b2 addD (nmD 6) (cD (.int 1)))))) (sl3 cutD (nmD 0) (someP (nmD 6)) (noP)))) (nxD)) (seqF (ifF (toB (b2 eqD (nmD 5) (cD (.int 3)))) (retF (b2 addD (b2 addD (b2 addD (sl3 cutD (nmD 0) (noP) (someP (nmD 6))) (sl3 cutD (nmD 0) (someP (b2 addD (nmD 6) (cD (.int 1)))) (someP (b2 addD (nmD 6) (cD (.int 2)))))) (sl3 cutD (nmD 0) (someP (nmD 6)) (someP (b2 addD (nmD 6) (cD (.int 1)))))) (sl3 cutD (nmD 0) (someP (b2 addD (nmD 6) (cD (.int 2)))) (noP)))) (nxD)) (retF (b2 addD (b2 addD (sl3 cutD (nmD 0) (noP) (someP (nmD 6))) (nmD 4)) (sl3 cutD (nmD 0) (someP (b2 addD (nmD 6) (cD (.int 1)))) (noP)))))))))))))
noncomputable def den__law_spoilt : List D → R D := runD 7 body__law_spoilt
theorem ok__law_spoilt {G : Cfg} (T : Tp G)  {f : Addr} {fd : FuncData} (FF : Fun G.K (PySem.Str.ofString "_law_spoilt") (PySem.Str.ofString "_law_spoilt") s__law_spoilt f fd) : FnOk G.P G.w G.K G.mg G.base (L2.CX G.P G.w) 1 f fd ["text", "pool", "at"] (spD G 3 false den__law_spoilt) :=
  fn_mk (N := N__law_spoilt) (t := _) (g := body__law_spoilt) (own' := []) T.xi FF sc__law_spoilt rfl fun X W F tk po =>
    (ss_cons T.xi (s_set (own' := []) F nd__law_spoilt n__law_spoilt_3 l__law_spoilt_3 (Or.inl rfl) d_str (by rfl) (by rfl)) (ss_cons T.xi (s_set (own' := []) F nd__law_spoilt n__law_spoilt_3 l__law_spoilt_3 (Or.inl rfl) (d_add F (d_nm0 F n__law_spoilt_3 v__law_spoilt_3 (by decide)) d_str) (by rfl) (by rfl)) (ss_cons T.xi (s_set (own' := []) F nd__law_spoilt n__law_spoilt_4 l__law_spoilt_4 (Or.inl rfl) (d_ixN F n__law_spoilt_3 v__law_spoilt_3 (d_mod (d_intA F gl__law_spoilt_int T.b_int (a_cons (d_ixN F n__law_spoilt_1 v__law_spoilt_1 (d_nm0 F n__law_spoilt_2 v__law_spoilt_2 (by decide))) a_nil)) d_int)) (by rfl) (by rfl)) (ss_cons T.xi (s_if (own' := []) (t_cmp F cr_eq (d_mod (d_intA F gl__law_spoilt_int T.b_int (a_cons (d_ixN F n__law_spoilt_1 v__law_spoilt_1 (d_add F (d_nm0 F n__law_spoilt_2 v__law_spoilt_2 (by decide)) d_int)) a_nil)) d_int) d_int (nomark _)) (ss_cons T.xi (s_set (own' := []) F nd__law_spoilt n__law_spoilt_4 l__law_spoilt_4 (Or.inl rfl) (d_ix F d_str (d_mod (d_intA F gl__law_spoilt_int T.b_int (a_cons (d_ixN F n__law_spoilt_1 v__law_spoilt_1 (d_nm0 F n__law_spoilt_2 v__law_spoilt_2 (by decide))) a_nil)) d_int)) (by rfl) (by rfl)) (ss_nil (own' := []) (by rfl))) (ss_nil (own' := []) (by rfl)) (by rfl)) (ss_cons T.xi (s_set (own' := []) F nd__law_spoilt n__law_spoilt_5 l__law_spoilt_5 (Or.inl rfl) (d_mod (d_intA F gl__law_spoilt_int T.b_int (a_cons (d_ixN F n__law_spoilt_1 v__law_spoilt_1 (d_add F (d_nm0 F n__law_spoilt_2 v__law_spoilt_2 (by decide)) d_int)) a_nil)) d_int) (by rfl) (by rfl)) (ss_cons T.xi (s_set (own' := []) F nd__law_spoilt n__law_spoilt_6 l__law_spoilt_6 (Or.inl rfl) (d_mod (d_intA F gl__law_spoilt_int T.b_int (a_cons (d_ixN F n__law_spoilt_1 v__law_spoilt_1 (d_add F (d_nm0 F n__law_spoilt_2 v__law_spoilt_2 (by decide)) d_int)) a_nil)) (d_add F (d_len F gl__law_spoilt_len T.b_len (a_cons (d_nm0 F n__law_spoilt_0 v__law_spoilt_0 (by decide)) a_nil)) d_int)) (by rfl) (by rfl)) (ss_cons T.xi (s_if (own' := []) (t_cmp F cr_eq (d_nm0 F n__law_spoilt_5 v__law_spoilt_5 (by decide)) d_int (nomark _)) (ss_one (s_ret (d_add F (d_add F (d_slice F (d_nm0 F n__law_spoilt_0 v__law_spoilt_0 (by decide)) o_none (o_some (d_nm0 F n__law_spoilt_6 v__law_spoilt_6 (by decide)))) (d_nm0 F n__law_spoilt_4 v__law_spoilt_4 (by decide))) (d_slice F (d_nm0 F n__law_spoilt_0 v__law_spoilt_0 (by decide)) (o_some (d_nm0 F n__law_spoilt_6 v__law_spoilt_6 (by decide))) o_none)) rfl (by rfl))) (ss_nil (own' := []) (by rfl)) (by rfl)) (ss_cons T.xi (s_if (own' := []) (t_cmp F cr_eq (d_nm0 F n__law_spoilt_5 v__law_spoilt_5 (by decide)) d_int (nomark _)) (ss_one (s_ret (d_add F (d_slice F (d_nm0 F n__law_spoilt_0 v__law_spoilt_0 (by decide)) o_none (o_some (d_nm0 F n__law_spoilt_6 v__law_spoilt_6 (by decide)))) (d_slice F (d_nm0 F n__law_spoilt_0 v__law_spoilt_0 (by decide)) (o_some (d_add F (d_nm0 F n__law_spoilt_6 v__law_spoilt_6 (by decide)) d_int)) o_none)) rfl (by rfl))) (ss_nil (own' := []) (by rfl)) (by rfl)) (ss_cons T.xi (s_if (own' := []) (t_cmp F cr_eq (d_nm0 F n__law_spoilt_5 v__law_spoilt_5 (by decide)) d_int (nomark _)) (ss_one (s_ret (d_add F (d_add F (d_slice F (d_nm0 F n__law_spoilt_0 v__law_spoilt_0 (by decide)) o_none (o_some (d_nm0 F n__law_spoilt_6 v__law_spoilt_6 (by decide)))) (d_slice F (d_nm0 F n__law_spoilt_0 v__law_spoilt_0 (by decide)) (o_some (d_nm0 F n__law_spoilt_6 v__law_spoilt_6 (by decide))) (o_some (d_add F (d_nm0 F n__law_spoilt_6 v__law_spoilt_6 (by decide)) d_int)))) (d_slice F (d_nm0 F n__law_spoilt_0 v__law_spoilt_0 (by decide)) (o_some (d_nm0 F n__law_spoilt_6 v__law_spoilt_6 (by decide))) o_none)) rfl (by rfl))) (ss_nil (own' := []) (by rfl)) (by rfl)) (ss_cons T.xi (s_if (own' := []) (t_cmp F cr_eq (d_nm0 F n__law_spoilt_5 v__law_spoilt_5 (by decide)) d_int (nomark _)) (ss_one (s_ret (d_add F (d_add F (d_add F (d_slice F (d_nm0 F n__law_spoilt_0 v__law_spoilt_0 (by decide)) o_none (o_some (d_nm0 F n__law_spoilt_6 v__law_spoilt_6 (by decide)))) (d_slice F (d_nm0 F n__law_spoilt_0 v__law_spoilt_0 (by decide)) (o_some (d_add F (d_nm0 F n__law_spoilt_6 v__law_spoilt_6 (by decide)) d_int)) (o_some (d_add F (d_nm0 F n__law_spoilt_6 v__law_spoilt_6 (by decide)) d_int)))) (d_slice F (d_nm0 F n__law_spoilt_0 v__law_spoilt_0 (by decide)) (o_some (d_nm0 F n__law_spoilt_6 v__law_spoilt_6 (by decide))) (o_some (d_add F (d_nm0 F n__law_spoilt_6 v__law_spoilt_6 (by decide)) d_int)))) (d_slice F (d_nm0 F n__law_spoilt_0 v__law_spoilt_0 (by decide)) (o_some (d_add F (d_nm0 F n__law_spoilt_6 v__law_spoilt_6 (by decide)) d_int)) o_none)) rfl (by rfl))) (ss_nil (own' := []) (by rfl)) (by rfl)) (ss_one (s_ret (d_add F (d_add F (d_slice F (d_nm0 F n__law_spoilt_0 v__law_spoilt_0 (by decide)) o_none (o_some (d_nm0 F n__law_spoilt_6 v__law_spoilt_6 (by decide)))) (d_nm0 F n__law_spoilt_4 v__law_spoilt_4 (by decide))) (d_slice F (d_nm0 F n__law_spoilt_0 v__law_spoilt_0 (by decide)) (o_some (d_add F (d_nm0 F n__law_spoilt_6 v__law_spoilt_6 (by decide)) d_int)) o_none)) rfl (by rfl)))))))))))))
/-! ### _law_odd -/
abbrev s__law_odd : Stmt := topS 36
abbrev N__law_odd : List PySem.Str := ["cell", "texts"]
theorem sc__law_odd : FnScope N__law_odd ["cell"] (defScope s__law_odd) := ⟨rfl, rfl, rfl, by decide +kernel, rfl, by decide +kernel, by decide +kernel⟩
theorem nd__law_odd : (bodyS N__law_odd s__law_odd).N.Nodup := sc__law_odd.nd
theorem n__law_odd_0 : (bodyS N__law_odd s__law_odd).N[0]? = some (PySem.Str.ofString "cell") := rfl
theorem v__law_odd_0 : Vis (bodyS N__law_odd s__law_odd).sc (PySem.Str.ofString "cell") := Or.inl (by decide +kernel)
theorem l__law_odd_0 : L2.Loc (bodyS N__law_odd s__law_odd).sc (PySem.Str.ofString "cell") := Or.inl (by decide +kernel)
theorem l0__law_odd_0 : (bodyS N__law_odd s__law_odd).sc.names.lookup (PySem.Str.ofString "cell") = some .local := by decide +kernel
theorem n__law_odd_1 : (bodyS N__law_odd s__law_odd).N[1]? = some (PySem.Str.ofString "texts") := rfl
theorem v__law_odd_1 : Vis (bodyS N__law_odd s__law_odd).sc (PySem.Str.ofString "texts") := Or.inl (by decide +kernel)
theorem l__law_odd_1 : L2.Loc (bodyS N__law_odd s__law_odd).sc (PySem.Str.ofString "texts") := Or.inl (by decide +kernel)
theorem l0__law_odd_1 : (bodyS N__law_odd s__law_odd).sc.names.lookup (PySem.Str.ofString "texts") = some .local := by decide +kernel
theorem gl__law_odd_int : (bodyS N__law_odd s__law_odd).sc.names.lookup (PySem.Str.ofString "int") = some .globalImplicit := by decide +kernel
noncomputable def body__law_odd : DEnv → Fl := seqF (setF 1 (lstA (consA (cD (.str (PySem.Str.ofString ""))) (consA (cD (.str (PySem.Str.ofString "-"))) (consA (cD (.str (PySem.Str.ofString "-0"))) (consA (cD (.str (PySem.Str.ofString "00"))) (consA (cD (.str (PySem.Str.ofString "+1"))) (consA (cD (.str (PySem.Str.ofString "1/1"))) (consA (cD (.str (PySem.Str.ofString "4/2"))) (consA (cD (.str (PySem.Str.ofString "1/-2"))) (consA (cD (.str (PySem.Str.ofString "0/2"))) (consA (cD (.str (PySem.Str.ofString "1/0"))) (consA (cD (.str (PySem.Str.ofString " 1"))) (consA (cD (.str (PySem.Str.ofString "1 "))) (consA (cD (.str (PySem.Str.ofString "none"))) (consA (cD (.str (PySem.Str.ofString "None"))) (consA (cD (.str (PySem.Str.ofString "1//2"))) (consA (cD (.str (PySem.Str.ofString "-1/2"))) (nilA))))))))))))))))))) (seqF (setF 1 (b2 catD (nmD 1) (lstA (consA (cD (.str (PySem.Str.ofString "--1"))) (consA (cD (.str (PySem.Str.ofString "01"))) (consA (cD (.str (PySem.Str.ofString "1/02"))) (consA (cD (.str (PySem.Str.ofString "none none"))) (consA (cD (.str (PySem.Str.ofString "0 0"))) (consA (cD (.str (PySem.Str.ofString "-0/3"))) (consA (cD (.str (PySem.Str.ofString "3/2/1"))) (consA (cD (.str (PySem.Str.ofString "1  0"))) (consA (cD (.str (PySem.Str.ofString "none 1"))) (consA (cD (.str (PySem.Str.ofString "-3"))) (nilA)))))))))))))) (retF (b2 idxD (nmD 1) (b2 modD (callF intAD (consA (nmD 0) (nilA))) (cD (.int 26))))))
noncomputable def den__law_odd : List D → R D := runD 2 body__law_odd
theorem ok__law_odd {G : Cfg} (T : Tp G)  {f : Addr} {fd : FuncData} (FF : Fun G.K (PySem.Str.ofString "_law_odd") (PySem.Str.ofString "_law_odd") s__law_odd f fd) : FnOk G.P G.w G.K G.mg G.base (L2.CX G.P G.w) 1 f fd ["cell"] (spD G 1 false den__law_odd) :=
  fn_mk (N := N__law_odd) (t := _) (g := body__law_odd) (own' := []) T.xi FF sc__law_odd rfl fun X W F tk po =>
    (ss_cons T.xi (s_set (own' := []) F nd__law_odd n__law_odd_1 l__law_odd_1 (Or.inl rfl) (DF.de (d_lst (a_cons d_str (a_cons d_str (a_cons d_str (a_cons d_str (a_cons d_str (a_cons d_str (a_cons d_str (a_cons d_str (a_cons d_str (a_cons d_str (a_cons d_str (a_cons d_str (a_cons d_str (a_cons d_str (a_cons d_str (a_cons d_str a_nil)))))))))))))))))) (by rfl) (by rfl)) (ss_cons T.xi (s_set (own' := []) F nd__law_odd n__law_odd_1 l__law_odd_1 (Or.inl rfl) (DF.de (d_cat (d_nm0 F n__law_odd_1 v__law_odd_1 (by decide)) (DF.de (d_lst (a_cons d_str (a_cons d_str (a_cons d_str (a_cons d_str (a_cons d_str (a_cons d_str (a_cons d_str (a_cons d_str (a_cons d_str (a_cons d_str a_nil)))))))))))))) (by rfl) (by rfl)) (ss_one (s_ret (d_ixN F n__law_odd_1 v__law_odd_1 (d_mod (d_intA F gl__law_odd_int T.b_int (a_cons (d_nm0 F n__law_odd_0 v__law_odd_0 (by decide)) a_nil)) d_int)) rfl (by rfl)))))
/-! ### law -/
abbrev s_law : Stmt := topS 37
abbrev N_law : List PySem.Str := ["script", "pool", "prime", "numbers", "kept", "words", "text", "written", "k", "word", "large", "longest", "longer", "more", "odd", "number"]
theorem sc_law : FnScope N_law ["script"] (defScope s_law) := ⟨rfl, rfl, rfl, by decide +kernel, rfl, by decide +kernel, by decide +kernel⟩
theorem nd_law : (bodyS N_law s_law).N.Nodup := sc_law.nd
theorem n_law_0 : (bodyS N_law s_law).N[0]? = some (PySem.Str.ofString "script") := rfl
theorem v_law_0 : Vis (bodyS N_law s_law).sc (PySem.Str.ofString "script") := Or.inl (by decide +kernel)
theorem l_law_0 : L2.Loc (bodyS N_law s_law).sc (PySem.Str.ofString "script") := Or.inl (by decide +kernel)
theorem l0_law_0 : (bodyS N_law s_law).sc.names.lookup (PySem.Str.ofString "script") = some .local := by decide +kernel
theorem n_law_1 : (bodyS N_law s_law).N[1]? = some (PySem.Str.ofString "pool") := rfl
theorem v_law_1 : Vis (bodyS N_law s_law).sc (PySem.Str.ofString "pool") := Or.inr (Or.inl (by decide +kernel))
theorem l_law_1 : L2.Loc (bodyS N_law s_law).sc (PySem.Str.ofString "pool") := Or.inr (by decide +kernel)
theorem n_law_2 : (bodyS N_law s_law).N[2]? = some (PySem.Str.ofString "prime") := rfl
theorem v_law_2 : Vis (bodyS N_law s_law).sc (PySem.Str.ofString "prime") := Or.inr (Or.inl (by decide +kernel))
theorem l_law_2 : L2.Loc (bodyS N_law s_law).sc (PySem.Str.ofString "prime") := Or.inr (by decide +kernel)
theorem n_law_3 : (bodyS N_law s_law).N[3]? = some (PySem.Str.ofString "numbers") := rfl
theorem v_law_3 : Vis (bodyS N_law s_law).sc (PySem.Str.ofString "numbers") := Or.inl (by decide +kernel)
theorem l_law_3 : L2.Loc (bodyS N_law s_law).sc (PySem.Str.ofString "numbers") := Or.inl (by decide +kernel)
theorem l0_law_3 : (bodyS N_law s_law).sc.names.lookup (PySem.Str.ofString "numbers") = some .local := by decide +kernel
theorem n_law_4 : (bodyS N_law s_law).N[4]? = some (PySem.Str.ofString "kept") := rfl
theorem v_law_4 : Vis (bodyS N_law s_law).sc (PySem.Str.ofString "kept") := Or.inl (by decide +kernel)
theorem l_law_4 : L2.Loc (bodyS N_law s_law).sc (PySem.Str.ofString "kept") := Or.inl (by decide +kernel)
theorem l0_law_4 : (bodyS N_law s_law).sc.names.lookup (PySem.Str.ofString "kept") = some .local := by decide +kernel
theorem n_law_5 : (bodyS N_law s_law).N[5]? = some (PySem.Str.ofString "words") := rfl
theorem v_law_5 : Vis (bodyS N_law s_law).sc (PySem.Str.ofString "words") := Or.inl (by decide +kernel)
theorem l_law_5 : L2.Loc (bodyS N_law s_law).sc (PySem.Str.ofString "words") := Or.inl (by decide +kernel)
theorem l0_law_5 : (bodyS N_law s_law).sc.names.lookup (PySem.Str.ofString "words") = some .local := by decide +kernel
theorem n_law_6 : (bodyS N_law s_law).N[6]? = some (PySem.Str.ofString "text") := rfl
theorem v_law_6 : Vis (bodyS N_law s_law).sc (PySem.Str.ofString "text") := Or.inl (by decide +kernel)
theorem l_law_6 : L2.Loc (bodyS N_law s_law).sc (PySem.Str.ofString "text") := Or.inl (by decide +kernel)
theorem l0_law_6 : (bodyS N_law s_law).sc.names.lookup (PySem.Str.ofString "text") = some .local := by decide +kernel
theorem n_law_7 : (bodyS N_law s_law).N[7]? = some (PySem.Str.ofString "written") := rfl
theorem v_law_7 : Vis (bodyS N_law s_law).sc (PySem.Str.ofString "written") := Or.inl (by decide +kernel)
theorem l_law_7 : L2.Loc (bodyS N_law s_law).sc (PySem.Str.ofString "written") := Or.inl (by decide +kernel)
theorem l0_law_7 : (bodyS N_law s_law).sc.names.lookup (PySem.Str.ofString "written") = some .local := by decide +kernel
theorem n_law_8 : (bodyS N_law s_law).N[8]? = some (PySem.Str.ofString "k") := rfl
theorem v_law_8 : Vis (bodyS N_law s_law).sc (PySem.Str.ofString "k") := Or.inl (by decide +kernel)
theorem l_law_8 : L2.Loc (bodyS N_law s_law).sc (PySem.Str.ofString "k") := Or.inl (by decide +kernel)
theorem l0_law_8 : (bodyS N_law s_law).sc.names.lookup (PySem.Str.ofString "k") = some .local := by decide +kernel
theorem n_law_9 : (bodyS N_law s_law).N[9]? = some (PySem.Str.ofString "word") := rfl
theorem v_law_9 : Vis (bodyS N_law s_law).sc (PySem.Str.ofString "word") := Or.inl (by decide +kernel)
theorem l_law_9 : L2.Loc (bodyS N_law s_law).sc (PySem.Str.ofString "word") := Or.inl (by decide +kernel)
theorem l0_law_9 : (bodyS N_law s_law).sc.names.lookup (PySem.Str.ofString "word") = some .local := by decide +kernel
theorem n_law_10 : (bodyS N_law s_law).N[10]? = some (PySem.Str.ofString "large") := rfl
theorem v_law_10 : Vis (bodyS N_law s_law).sc (PySem.Str.ofString "large") := Or.inl (by decide +kernel)
theorem l_law_10 : L2.Loc (bodyS N_law s_law).sc (PySem.Str.ofString "large") := Or.inl (by decide +kernel)
theorem l0_law_10 : (bodyS N_law s_law).sc.names.lookup (PySem.Str.ofString "large") = some .local := by decide +kernel
theorem n_law_11 : (bodyS N_law s_law).N[11]? = some (PySem.Str.ofString "longest") := rfl
theorem v_law_11 : Vis (bodyS N_law s_law).sc (PySem.Str.ofString "longest") := Or.inl (by decide +kernel)
theorem l_law_11 : L2.Loc (bodyS N_law s_law).sc (PySem.Str.ofString "longest") := Or.inl (by decide +kernel)
theorem l0_law_11 : (bodyS N_law s_law).sc.names.lookup (PySem.Str.ofString "longest") = some .local := by decide +kernel
theorem n_law_12 : (bodyS N_law s_law).N[12]? = some (PySem.Str.ofString "longer") := rfl
theorem v_law_12 : Vis (bodyS N_law s_law).sc (PySem.Str.ofString "longer") := Or.inl (by decide +kernel)
theorem l_law_12 : L2.Loc (bodyS N_law s_law).sc (PySem.Str.ofString "longer") := Or.inl (by decide +kernel)
theorem l0_law_12 : (bodyS N_law s_law).sc.names.lookup (PySem.Str.ofString "longer") = some .local := by decide +kernel
theorem n_law_13 : (bodyS N_law s_law).N[13]? = some (PySem.Str.ofString "more") := rfl
theorem v_law_13 : Vis (bodyS N_law s_law).sc (PySem.Str.ofString "more") := Or.inl (by decide +kernel)
theorem l_law_13 : L2.Loc (bodyS N_law s_law).sc (PySem.Str.ofString "more") := Or.inl (by decide +kernel)
theorem l0_law_13 : (bodyS N_law s_law).sc.names.lookup (PySem.Str.ofString "more") = some .local := by decide +kernel
theorem n_law_14 : (bodyS N_law s_law).N[14]? = some (PySem.Str.ofString "odd") := rfl
theorem v_law_14 : Vis (bodyS N_law s_law).sc (PySem.Str.ofString "odd") := Or.inl (by decide +kernel)
theorem l_law_14 : L2.Loc (bodyS N_law s_law).sc (PySem.Str.ofString "odd") := Or.inl (by decide +kernel)
theorem l0_law_14 : (bodyS N_law s_law).sc.names.lookup (PySem.Str.ofString "odd") = some .local := by decide +kernel
theorem n_law_15 : (bodyS N_law s_law).N[15]? = some (PySem.Str.ofString "number") := rfl
theorem gl_law__law_large : (bodyS N_law s_law).sc.names.lookup (PySem.Str.ofString "_law_large") = some .globalImplicit := by decide +kernel
theorem gl_law__law_many : (bodyS N_law s_law).sc.names.lookup (PySem.Str.ofString "_law_many") = some .globalImplicit := by decide +kernel
theorem gl_law__law_number_read : (bodyS N_law s_law).sc.names.lookup (PySem.Str.ofString "_law_number_read") = some .globalImplicit := by decide +kernel
theorem gl_law__law_odd : (bodyS N_law s_law).sc.names.lookup (PySem.Str.ofString "_law_odd") = some .globalImplicit := by decide +kernel
theorem gl_law__law_pool : (bodyS N_law s_law).sc.names.lookup (PySem.Str.ofString "_law_pool") = some .globalImplicit := by decide +kernel
theorem gl_law__law_spoilt : (bodyS N_law s_law).sc.names.lookup (PySem.Str.ofString "_law_spoilt") = some .globalImplicit := by decide +kernel
theorem gl_law__law_text : (bodyS N_law s_law).sc.names.lookup (PySem.Str.ofString "_law_text") = some .globalImplicit := by decide +kernel
theorem gl_law__law_values_read : (bodyS N_law s_law).sc.names.lookup (PySem.Str.ofString "_law_values_read") = some .globalImplicit := by decide +kernel
theorem gl_law_int : (bodyS N_law s_law).sc.names.lookup (PySem.Str.ofString "int") = some .globalImplicit := by decide +kernel
theorem gl_law_isinstance : (bodyS N_law s_law).sc.names.lookup (PySem.Str.ofString "isinstance") = some .globalImplicit := by decide +kernel
theorem gl_law_len : (bodyS N_law s_law).sc.names.lookup (PySem.Str.ofString "len") = some .globalImplicit := by decide +kernel
theorem gl_law_list : (bodyS N_law s_law).sc.names.lookup (PySem.Str.ofString "list") = some .globalImplicit := by decide +kernel
theorem gl_law_range : (bodyS N_law s_law).sc.names.lookup (PySem.Str.ofString "range") = some .globalImplicit := by decide +kernel
theorem gl_law_str : (bodyS N_law s_law).sc.names.lookup (PySem.Str.ofString "str") = some .globalImplicit := by decide +kernel
theorem gl_law_write_number : (bodyS N_law s_law).sc.names.lookup (PySem.Str.ofString "write_number") = some .globalImplicit := by decide +kernel
theorem gl_law_write_values : (bodyS N_law s_law).sc.names.lookup (PySem.Str.ofString "write_values") = some .globalImplicit := by decide +kernel
noncomputable def body_law : DEnv → Fl := seqF (setF 1 (callF den__law_pool (consA (nmD 0) (consA (cD (.int 150)) (nilA))))) (seqF (setF 2 (b2 idxD (tupA (consA (cD (.int 2)) (consA (cD (.int 3)) (consA (cD (.int 5)) (consA (cD (.int 7)) (consA (cD (.int 11)) (consA (cD (.int 0)) (nilA)))))))) (b2 modD (callF intAD (consA (b2 idxD (nmD 1) (cD (.int 0))) (nilA))) (cD (.int 6))))) (seqF (setF 3 (lcD [8] (rng1 (consA (b2 modD (callF intAD (consA (b2 idxD (nmD 1) (cD (.int 1))) (nilA))) (cD (.int 8))) (nilA))) (putD 8) (yesB) (callF den__law_number (consA (nmD 1) (consA (b2 addD (cD (.int 10)) (b2 mulD (cD (.int 4)) (nmD 8))) (consA (nmD 2) (nilA))))))) (seqF (setF 4 (callF listD (consA (nmD 3) (nilA)))) (seqF (setF 5 (lcD [15] (itS (nmD 3)) (putD 15) (yesB) (callF den__law_text (consA (nmD 2) (consA (nmD 15) (nilA)))))) (seqF (setF 6 (ifV (toB (b2 gtD (callF lenD (consA (nmD 5) (nilA))) (cD (.int 0)))) (m1D joiD (cD (.str (PySem.Str.ofString " "))) (nmD 5)) (cD (.str (PySem.Str.ofString "none"))))) (seqF (setF 7 (callF den_write_values (consA (nmD 2) (consA (nmD 3) (nilA))))) (seqF (ifF (orB (notB (toT (u1 (isiD "str") (nmD 7)))) (orB (toB (b2 neD (nmD 7) (nmD 6))) (toB (b2 neD (nmD 3) (nmD 4))))) (retF (cD (.bl false))) (nxD)) (seqF (forF (rng1 (consA (callF lenD (consA (nmD 3) (nilA))) (nilA))) (putD 8) (seqF (setF 7 (callF den_write_number (consA (nmD 2) (consA (b2 idxD (nmD 3) (nmD 8)) (nilA))))) (seqF (ifF (orB (notB (toT (u1 (isiD "str") (nmD 7)))) (orB (toB (b2 neD (nmD 7) (b2 idxD (nmD 5) (nmD 8)))) (notB (toT (callF den__law_number_read (consA (nmD 2) (consA (b2 idxD (nmD 5) (nmD 8)) (nilA)))))))) (retF (cD (.bl false))) (nxD)) (nxD)))) (seqF (parF 10 11 (consA (callF den__law_large (consA (nmD 1) (consA (cD (.int 40)) (consA (cD (.int 9)) (nilA))))) (consA (callF den__law_large (consA (nmD 1) (consA (cD (.int 100)) (consA (cD (.int 20)) (nilA))))) (nilA)))) (seqF (setF 9 (ifV (toB (b2 eqD (nmD 2) (cD (.int 0)))) (callF den__law_text (consA (cD (.int 0)) (consA (nmD 10) (nilA)))) (callF strD (consA (b2 idxD (nmD 10) (cD (.int 0))) (nilA))))) (seqF (ifF (orB (notB (toT (callF den__law_values_read (consA (nmD 2) (consA (nmD 6) (nilA)))))) (notB (toT (callF den__law_number_read (consA (nmD 2) (consA (nmD 9) (nilA))))))) (retF (cD (.bl false))) (nxD)) (seqF (ifF (notB (toT (callF den__law_number_read (consA (nmD 2) (consA (ifV (toB (b2 eqD (nmD 2) (cD (.int 0)))) (callF den__law_text (consA (cD (.int 0)) (consA (nmD 11) (nilA)))) (callF strD (consA (b2 idxD (nmD 11) (cD (.int 0))) (nilA)))) (nilA)))))) (retF (cD (.bl false))) (nxD)) (seqF (ifF (toB (b2 eqD (b2 modD (callF intAD (consA (b2 idxD (nmD 1) (cD (.int 95))) (nilA))) (cD (.int 8))) (cD (.int 0)))) (seqF (setF 12 (callF den__law_many (consA (nmD 1) (consA (nmD 2) (consA (nmD 3) (nilA)))))) (seqF (setF 13 (m1D joiD (cD (.str (PySem.Str.ofString " "))) (lcD [15] (itS (nmD 12)) (putD 15) (yesB) (callF den__law_text (consA (nmD 2) (consA (nmD 15) (nilA))))))) (seqF (ifF (orB (toB (b2 neD (callF den_write_values (consA (nmD 2) (consA (nmD 12) (nilA)))) (nmD 13))) (notB (toT (callF den__law_values_read (consA (nmD 2) (consA (nmD 13) (nilA))))))) (retF (cD (.bl false))) (nxD)) (seqF (ifF (notB (toT (callF den__law_values_read (consA (nmD 2) (consA (callF den__law_spoilt (consA (nmD 13) (consA (nmD 1) (consA (cD (.int 70)) (nilA))))) (nilA)))))) (retF (cD (.bl false))) (nxD)) (nxD))))) (nxD)) (seqF (forF (rng1 (consA (cD (.int 4)) (nilA))) (putD 8) (seqF (setF 14 (callF den__law_odd (consA (b2 idxD (nmD 1) (b2 addD (cD (.int 2)) (nmD 8))) (nilA)))) (seqF (ifF (orB (notB (toT (callF den__law_number_read (consA (nmD 2) (consA (nmD 14) (nilA)))))) (notB (toT (callF den__law_values_read (consA (nmD 2) (consA (nmD 14) (nilA))))))) (retF (cD (.bl false))) (nxD)) (seqF (ifF (notB (toT (callF den__law_values_read (consA (nmD 2) (consA (callF den__law_spoilt (consA (nmD 6) (consA (nmD 1) (consA (b2 addD (cD (.int 74)) (b2 mulD (cD (.int 4)) (nmD 8))) (nilA))))) (nilA)))))) (retF (cD (.bl false))) (nxD)) (seqF (ifF (andB (toB (b2 ltD (nmD 8) (callF lenD (consA (nmD 5) (nilA))))) (notB (toT (callF den__law_number_read (consA (nmD 2) (consA (callF den__law_spoilt (consA (b2 idxD (nmD 5) (nmD 8)) (consA (nmD 1) (consA (b2 addD (cD (.int 75)) (b2 mulD (cD (.int 4)) (nmD 8))) (nilA))))) (nilA))))))) (retF (cD (.bl false))) (nxD)) (nxD)))))) (retF (callF den__law_number_read (consA (nmD 2) (consA (callF den__law_spoilt (consA (nmD 9) (consA (nmD 1) (consA (cD (.int 90)) (nilA))))) (nilA)))))))))))))))))))
noncomputable def den_law : List D → R D := runD 16 body_law
theorem ok_law {G : Cfg} (T : Tp G) (c_write_number : FnD G 1 (PySem.Str.ofString "write_number") 2 false den_write_number) (c_write_values : FnD G 2 (PySem.Str.ofString "write_values") 2 false den_write_values) (c__law_pool : FnD G 1 (PySem.Str.ofString "_law_pool") 2 false den__law_pool) (c__law_number : FnD G 2 (PySem.Str.ofString "_law_number") 3 false den__law_number) (c__law_large : FnD G 2 (PySem.Str.ofString "_law_large") 3 false den__law_large) (c__law_text : FnD G 1 (PySem.Str.ofString "_law_text") 2 false den__law_text) (c__law_many : FnD G 3 (PySem.Str.ofString "_law_many") 3 false den__law_many) (c__law_number_read : FnD G 5 (PySem.Str.ofString "_law_number_read") 2 false den__law_number_read) (c__law_values_read : FnD G 6 (PySem.Str.ofString "_law_values_read") 2 false den__law_values_read) (c__law_spoilt : FnD G 1 (PySem.Str.ofString "_law_spoilt") 3 false den__law_spoilt) (c__law_odd : FnD G 1 (PySem.Str.ofString "_law_odd") 1 false den__law_odd) {f : Addr} {fd : FuncData} (FF : Fun G.K (PySem.Str.ofString "law") (PySem.Str.ofString "law") s_law f fd) : FnOk G.P G.w G.K G.mg G.base (L2.CX G.P G.w) 7 f fd ["script"] (spD G 1 false den_law) :=
  fn_mk (N := N_law) (t := _) (g := body_law) (own' := []) T.xi FF sc_law rfl fun X W F tk po =>
    (ss_cons T.xi (s_set (own' := []) F nd_law n_law_1 l_law_1 (Or.inl rfl) (d_call F tk c__law_pool (by decide) gl_law__law_pool (a_cons (d_nm0 F n_law_0 v_law_0 (by decide)) (a_cons d_int a_nil)) rfl (hlen := (len_cons (len_cons len_nil)))) (by rfl) (by rfl)) (ss_cons T.xi (s_set (own' := []) F nd_law n_law_2 l_law_2 (Or.inl rfl) (d_ix F (d_tup (a_cons d_int (a_cons d_int (a_cons d_int (a_cons d_int (a_cons d_int (a_cons d_int a_nil))))))) (d_mod (d_intA F gl_law_int T.b_int (a_cons (d_ixN F n_law_1 v_law_1 d_int) a_nil)) d_int)) (by rfl) (by rfl)) (ss_cons T.xi (s_weak (own' := []) (s_setLcF (own' := []) (bo := [((PySem.Str.ofString "k"), 8)]) F nd_law n_law_3 l0_law_3 (by decide +kernel) (i_rng1 F gl_law_range T.b_range (a_cons (d_mod (d_intA F gl_law_int T.b_int (a_cons (d_ixN F n_law_1 v_law_1 d_int) a_nil)) d_int) a_nil)) (fun X1 F1 => (g_name F1 nd_law n_law_8 (Or.inl rfl) (Or.inr rfl) (by decide))) (fun X1 F1 tk1 => ts_nil) (fun X1 F1 tk1 => (d_call F1 tk1 c__law_number (by decide) (by rfl) (a_cons (d_nm0 F1 n_law_1 (Or.inr (Or.inl rfl)) (by decide)) (a_cons (d_add F1 d_int (d_mul d_int (d_nm0 F1 n_law_8 (Or.inl rfl) (by decide)))) (a_cons (d_nm0 F1 n_law_2 (Or.inr (Or.inl rfl)) (by decide)) a_nil))) rfl (hlen := (len_cons (len_cons (len_cons len_nil)))))) (by decide) (by decide) (by rfl) (by rfl) (by rfl) (by decide +kernel)) (by rfl)) (ss_cons T.xi (s_set (own' := []) F nd_law n_law_4 l_law_4 (Or.inl rfl) (DF.de (d_list F gl_law_list T.b_list (a_cons (d_nm0 F n_law_3 v_law_3 (by decide)) a_nil))) (by rfl) (by rfl)) (ss_cons T.xi (s_weak (own' := []) (s_setLcF (own' := []) (bo := [((PySem.Str.ofString "number"), 15)]) F nd_law n_law_5 l0_law_5 (by decide +kernel) (i_seq F (d_nm0 F n_law_3 v_law_3 (by decide))) (fun X1 F1 => (g_name F1 nd_law n_law_15 (Or.inl rfl) (Or.inr rfl) (by decide))) (fun X1 F1 tk1 => ts_nil) (fun X1 F1 tk1 => (d_call F1 tk1 c__law_text (by decide) (by rfl) (a_cons (d_nm0 F1 n_law_2 (Or.inr (Or.inl rfl)) (by decide)) (a_cons (d_nm0 F1 n_law_15 (Or.inl rfl) (by decide)) a_nil)) rfl (hlen := (len_cons (len_cons len_nil))))) (by decide) (by decide) (by rfl) (by rfl) (by rfl) (by decide +kernel)) (by rfl)) (ss_cons T.xi (s_set (own' := []) F nd_law n_law_6 l_law_6 (Or.inl rfl) (d_if (t_cmp F cr_gt (d_len F gl_law_len T.b_len (a_cons (d_nm0 F n_law_5 v_law_5 (by decide)) a_nil)) d_int (nomark _)) (d_join F d_str (d_nm0 F n_law_5 v_law_5 (by decide))) d_str) (by rfl) (by rfl)) (ss_cons T.xi (s_set (own' := []) F nd_law n_law_7 l_law_7 (Or.inl rfl) (d_call F tk c_write_values (by decide) gl_law_write_values (a_cons (d_nm0 F n_law_2 v_law_2 (by decide)) (a_cons (d_nm0 F n_law_3 v_law_3 (by decide)) a_nil)) rfl (hlen := (len_cons (len_cons len_nil)))) (by rfl) (by rfl)) (ss_cons T.xi (s_if (own' := []) (DW.dt (w_or (t_not (t_tru F (d_isi F gl_law_isinstance T.b_isinstance gl_law_str T.b_str (by decide +kernel) (by decide +kernel) (d_nm0 F n_law_7 v_law_7 (by decide))))) (w_or (t_cmp F cr_ne (d_nm0 F n_law_7 v_law_7 (by decide)) (d_nm0 F n_law_6 v_law_6 (by decide)) (nomark _)) (w_or1 (t_cmp F cr_ne (d_nm0 F n_law_3 v_law_3 (by decide)) (d_nm0 F n_law_4 v_law_4 (by decide)) (nomark _)))))) (ss_one (s_ret d_bl rfl (by rfl))) (ss_nil (own' := []) (by rfl)) (by rfl)) (ss_cons T.xi (s_for (own' := []) (olp := []) F po (i_rng1 F gl_law_range T.b_range (a_cons (d_len F gl_law_len T.b_len (a_cons (d_nm0 F n_law_3 v_law_3 (by decide)) a_nil)) a_nil)) (g_name F nd_law n_law_8 l_law_8 (Or.inl rfl) (by decide)) (ss_cons T.xi (s_set (own' := []) F nd_law n_law_7 l_law_7 (Or.inl rfl) (d_call F tk c_write_number (by decide) gl_law_write_number (a_cons (d_nm0 F n_law_2 v_law_2 (by decide)) (a_cons (d_ixN F n_law_3 v_law_3 (d_nm0 F n_law_8 v_law_8 (by decide))) a_nil)) rfl (hlen := (len_cons (len_cons len_nil)))) (by rfl) (by rfl)) (ss_cons T.xi (s_if (own' := []) (DW.dt (w_or (t_not (t_tru F (d_isi F gl_law_isinstance T.b_isinstance gl_law_str T.b_str (by decide +kernel) (by decide +kernel) (d_nm0 F n_law_7 v_law_7 (by decide))))) (w_or (t_cmp F cr_ne (d_nm0 F n_law_7 v_law_7 (by decide)) (d_ixN F n_law_5 v_law_5 (d_nm0 F n_law_8 v_law_8 (by decide))) (nomark _)) (w_or1 (t_not (t_tru F (d_call F tk c__law_number_read (by decide) gl_law__law_number_read (a_cons (d_nm0 F n_law_2 v_law_2 (by decide)) (a_cons (d_ixN F n_law_5 v_law_5 (d_nm0 F n_law_8 v_law_8 (by decide))) a_nil)) rfl (hlen := (len_cons (len_cons len_nil)))))))))) (ss_one (s_ret d_bl rfl (by rfl))) (ss_nil (own' := []) (by rfl)) (by rfl)) (ss_nil (own' := []) (by rfl)))) (by rfl) (by rfl) (by rfl)) (ss_cons T.xi (s_par (own' := []) F nd_law n_law_10 n_law_11 (by decide) l0_law_10 l0_law_11 (a_cons (d_call F tk c__law_large (by decide) gl_law__law_large (a_cons (d_nm0 F n_law_1 v_law_1 (by decide)) (a_cons d_int (a_cons d_int a_nil))) rfl (hlen := (len_cons (len_cons (len_cons len_nil))))) (a_cons (d_call F tk c__law_large (by decide) gl_law__law_large (a_cons (d_nm0 F n_law_1 v_law_1 (by decide)) (a_cons d_int (a_cons d_int a_nil))) rfl (hlen := (len_cons (len_cons (len_cons len_nil))))) a_nil)) (by rfl) (by rfl) (sws_some F.sc (by rfl) (by decide +kernel) (by rfl) (by rfl))) (ss_cons T.xi (s_set (own' := []) F nd_law n_law_9 l_law_9 (Or.inl rfl) (d_if (t_cmp F cr_eq (d_nm0 F n_law_2 v_law_2 (by decide)) d_int (nomark _)) (d_call F tk c__law_text (by decide) gl_law__law_text (a_cons d_int (a_cons (d_nm0 F n_law_10 v_law_10 (by decide)) a_nil)) rfl (hlen := (len_cons (len_cons len_nil)))) (d_strI F gl_law_str T.b_str (a_cons (d_ixN F n_law_10 v_law_10 d_int) a_nil))) (by rfl) (by rfl)) (ss_cons T.xi (s_if (own' := []) (DW.dt (w_or (t_not (t_tru F (d_call F tk c__law_values_read (by decide) gl_law__law_values_read (a_cons (d_nm0 F n_law_2 v_law_2 (by decide)) (a_cons (d_nm0 F n_law_6 v_law_6 (by decide)) a_nil)) rfl (hlen := (len_cons (len_cons len_nil)))))) (w_or1 (t_not (t_tru F (d_call F tk c__law_number_read (by decide) gl_law__law_number_read (a_cons (d_nm0 F n_law_2 v_law_2 (by decide)) (a_cons (d_nm0 F n_law_9 v_law_9 (by decide)) a_nil)) rfl (hlen := (len_cons (len_cons len_nil))))))))) (ss_one (s_ret d_bl rfl (by rfl))) (ss_nil (own' := []) (by rfl)) (by rfl)) (ss_cons T.xi (s_if (own' := []) (t_not (t_tru F (d_call F tk c__law_number_read (by decide) gl_law__law_number_read (a_cons (d_nm0 F n_law_2 v_law_2 (by decide)) (a_cons (d_if (t_cmp F cr_eq (d_nm0 F n_law_2 v_law_2 (by decide)) d_int (nomark _)) (d_call F tk c__law_text (by decide) gl_law__law_text (a_cons d_int (a_cons (d_nm0 F n_law_11 v_law_11 (by decide)) a_nil)) rfl (hlen := (len_cons (len_cons len_nil)))) (d_strI F gl_law_str T.b_str (a_cons (d_ixN F n_law_11 v_law_11 d_int) a_nil))) a_nil)) rfl (hlen := (len_cons (len_cons len_nil)))))) (ss_one (s_ret d_bl rfl (by rfl))) (ss_nil (own' := []) (by rfl)) (by rfl)) (ss_cons T.xi (s_if (own' := []) (t_cmp F cr_eq (d_mod (d_intA F gl_law_int T.b_int (a_cons (d_ixN F n_law_1 v_law_1 d_int) a_nil)) d_int) d_int (nomark _)) (ss_cons T.xi (s_set (own' := []) F nd_law n_law_12 l_law_12 (Or.inl rfl) (d_call F tk c__law_many (by decide) gl_law__law_many (a_cons (d_nm0 F n_law_1 v_law_1 (by decide)) (a_cons (d_nm0 F n_law_2 v_law_2 (by decide)) (a_cons (d_nm0 F n_law_3 v_law_3 (by decide)) a_nil))) rfl (hlen := (len_cons (len_cons (len_cons len_nil))))) (by rfl) (by rfl)) (ss_cons T.xi (s_set (own' := []) F nd_law n_law_13 l_law_13 (Or.inl rfl) (d_join F d_str (DF.de (d_lc (bo := [((PySem.Str.ofString "number"), 15)]) F nd_law (by decide +kernel) (i_seq F (d_nm0 F n_law_12 v_law_12 (by decide))) (fun X1 F1 => (g_name F1 nd_law n_law_15 (Or.inl rfl) (Or.inr rfl) (by decide))) (fun X1 F1 tk1 => ts_nil) (fun X1 F1 tk1 => (d_call F1 tk1 c__law_text (by decide) (by rfl) (a_cons (d_nm0 F1 n_law_2 (Or.inr (Or.inl rfl)) (by decide)) (a_cons (d_nm0 F1 n_law_15 (Or.inl rfl) (by decide)) a_nil)) rfl (hlen := (len_cons (len_cons len_nil))))) (by decide) (by decide)))) (by rfl) (by rfl)) (ss_cons T.xi (s_if (own' := []) (DW.dt (w_or (t_cmp F cr_ne (d_call F tk c_write_values (by decide) gl_law_write_values (a_cons (d_nm0 F n_law_2 v_law_2 (by decide)) (a_cons (d_nm0 F n_law_12 v_law_12 (by decide)) a_nil)) rfl (hlen := (len_cons (len_cons len_nil)))) (d_nm0 F n_law_13 v_law_13 (by decide)) (nomark _)) (w_or1 (t_not (t_tru F (d_call F tk c__law_values_read (by decide) gl_law__law_values_read (a_cons (d_nm0 F n_law_2 v_law_2 (by decide)) (a_cons (d_nm0 F n_law_13 v_law_13 (by decide)) a_nil)) rfl (hlen := (len_cons (len_cons len_nil))))))))) (ss_one (s_ret d_bl rfl (by rfl))) (ss_nil (own' := []) (by rfl)) (by rfl)) (ss_cons T.xi (s_if (own' := []) (t_not (t_tru F (d_call F tk c__law_values_read (by decide) gl_law__law_values_read (a_cons (d_nm0 F n_law_2 v_law_2 (by decide)) (a_cons (d_call F tk c__law_spoilt (by decide) gl_law__law_spoilt (a_cons (d_nm0 F n_law_13 v_law_13 (by decide)) (a_cons (d_nm0 F n_law_1 v_law_1 (by decide)) (a_cons d_int a_nil))) rfl (hlen := (len_cons (len_cons (len_cons len_nil))))) a_nil)) rfl (hlen := (len_cons (len_cons len_nil)))))) (ss_one (s_ret d_bl rfl (by rfl))) (ss_nil (own' := []) (by rfl)) (by rfl)) (ss_nil (own' := []) (by rfl)))))) (ss_nil (own' := []) (by rfl)) (by rfl)) (ss_cons T.xi (s_for (own' := []) (olp := []) F po (i_rng1 F gl_law_range T.b_range (a_cons d_int a_nil)) (g_name F nd_law n_law_8 l_law_8 (Or.inl rfl) (by decide)) (ss_cons T.xi (s_set (own' := []) F nd_law n_law_14 l_law_14 (Or.inl rfl) (d_call F tk c__law_odd (by decide) gl_law__law_odd (a_cons (d_ixN F n_law_1 v_law_1 (d_add F d_int (d_nm0 F n_law_8 v_law_8 (by decide)))) a_nil) rfl (hlen := (len_cons len_nil))) (by rfl) (by rfl)) (ss_cons T.xi (s_if (own' := []) (DW.dt (w_or (t_not (t_tru F (d_call F tk c__law_number_read (by decide) gl_law__law_number_read (a_cons (d_nm0 F n_law_2 v_law_2 (by decide)) (a_cons (d_nm0 F n_law_14 v_law_14 (by decide)) a_nil)) rfl (hlen := (len_cons (len_cons len_nil)))))) (w_or1 (t_not (t_tru F (d_call F tk c__law_values_read (by decide) gl_law__law_values_read (a_cons (d_nm0 F n_law_2 v_law_2 (by decide)) (a_cons (d_nm0 F n_law_14 v_law_14 (by decide)) a_nil)) rfl (hlen := (len_cons (len_cons len_nil))))))))) (ss_one (s_ret d_bl rfl (by rfl))) (ss_nil (own' := []) (by rfl)) (by rfl)) (ss_cons T.xi (s_if (own' := []) (t_not (t_tru F (d_call F tk c__law_values_read (by decide) gl_law__law_values_read (a_cons (d_nm0 F n_law_2 v_law_2 (by decide)) (a_cons (d_call F tk c__law_spoilt (by decide) gl_law__law_spoilt (a_cons (d_nm0 F n_law_6 v_law_6 (by decide)) (a_cons (d_nm0 F n_law_1 v_law_1 (by decide)) (a_cons (d_add F d_int (d_mul d_int (d_nm0 F n_law_8 v_law_8 (by decide)))) a_nil))) rfl (hlen := (len_cons (len_cons (len_cons len_nil))))) a_nil)) rfl (hlen := (len_cons (len_cons len_nil)))))) (ss_one (s_ret d_bl rfl (by rfl))) (ss_nil (own' := []) (by rfl)) (by rfl)) (ss_cons T.xi (s_if (own' := []) (DW.dt (w_and (t_cmp F cr_lt (d_nm0 F n_law_8 v_law_8 (by decide)) (d_len F gl_law_len T.b_len (a_cons (d_nm0 F n_law_5 v_law_5 (by decide)) a_nil)) (nomark _)) (w_and1 (t_not (t_tru F (d_call F tk c__law_number_read (by decide) gl_law__law_number_read (a_cons (d_nm0 F n_law_2 v_law_2 (by decide)) (a_cons (d_call F tk c__law_spoilt (by decide) gl_law__law_spoilt (a_cons (d_ixN F n_law_5 v_law_5 (d_nm0 F n_law_8 v_law_8 (by decide))) (a_cons (d_nm0 F n_law_1 v_law_1 (by decide)) (a_cons (d_add F d_int (d_mul d_int (d_nm0 F n_law_8 v_law_8 (by decide)))) a_nil))) rfl (hlen := (len_cons (len_cons (len_cons len_nil))))) a_nil)) rfl (hlen := (len_cons (len_cons len_nil))))))))) (ss_one (s_ret d_bl rfl (by rfl))) (ss_nil (own' := []) (by rfl)) (by rfl)) (ss_nil (own' := []) (by rfl)))))) (by rfl) (by rfl) (by rfl)) (ss_one (s_ret (d_call F tk c__law_number_read (by decide) gl_law__law_number_read (a_cons (d_nm0 F n_law_2 v_law_2 (by decide)) (a_cons (d_call F tk c__law_spoilt (by decide) gl_law__law_spoilt (a_cons (d_nm0 F n_law_9 v_law_9 (by decide)) (a_cons (d_nm0 F n_law_1 v_law_1 (by decide)) (a_cons d_int a_nil))) rfl (hlen := (len_cons (len_cons (len_cons len_nil))))) a_nil)) rfl (hlen := (len_cons (len_cons len_nil)))) rfl (by rfl))))))))))))))))))
end DL

set_option maxRecDepth 100001
set_option maxHeartbeats 1000001
namespace DL
open PySem PySem.Spec PyProof.Rows L2
theorem ci_cond (a : List Nat) : Ci a = ((!(if a.head? = some 45 then a.tail else a).isEmpty && (if a.head? = some 45 then a.tail else a).all dgt) && !((if a.head? = some 45 then a.tail else a).take 1 == [48] && !decide (a = [48]))) := by
  by_cases hh : a.head? = some 45
  · cases a with
    | nil => exact nomatch hh
    | cons c r =>
      simp at hh; subst hh
      simp only [List.head?_cons, if_true, List.tail_cons, Ci]
      match r with
      | [] => rfl
      | [x] => by_cases h : x = 48 <;> simp [Cu, h, dgt]
      | x :: y :: r => by_cases h : x = 48 <;> simp [Cu, h]
  · rw [(Ci_pos hh).1, if_neg hh]
    match a with
    | [] => rfl
    | [x] => by_cases h : x = 48 <;> simp [Cu, h, dgt]
    | x :: y :: r => by_cases h : x = 48 <;> simp [Cu, h]
theorem m_read_integer {a : List Nat} (ha : Asc a) (hl : a.length ≤ 640) : den_read_integer [.str (TS a)] = if Ci a = true then .ok (.int (ival a)) else .err ⟨"InvalidText"⟩ := by
  have hd : Asc (if a.head? = some 45 then a.tail else a) := by split; exact ha.tail; exact ha
  have hz : (Asc [48]) := Asc.of _ (by decide)
  have h1 : rpxD (TS a) (.str (TS [45])) = .ok (.str (TS (if a.head? = some 45 then a.tail else a))) := o_rpx (by omega)
  have hc := ci_cond a
  generalize (if a.head? = some 45 then a.tail else a) = d at h1 hd hc
  rw [hc]
  by_cases c1 : (!d.isEmpty && d.all dgt) = true
  · by_cases c2 : (d.take 1 == [48]) = true
    · by_cases c3 : a = [48]
      · have hci : Ci a = true := by rw [c3]; decide
        have c3' : (a = [48]) = True := eq_true c3
        simp [den_read_integer, e_run, body_read_integer, h1, o_isd hd, c1, o_swi, c2, o_neT ha hz, c3', o_intT hci hl]
      · simp [den_read_integer, e_run, body_read_integer, h1, o_isd hd, c1, o_swi, c2, o_neT ha hz, c3]
    · have c2' : (d.take 1 == [48]) = false := by simpa using c2
      have hci : Ci a = true := by rw [hc, c1, c2']; rfl
      simp [den_read_integer, e_run, body_read_integer, h1, o_isd hd, c1, o_swi, c2', o_intT hci hl]
  · have c1' : (!d.isEmpty && d.all dgt) = false := by simpa using c1
    simp [den_read_integer, e_run, body_read_integer, h1, o_isd hd, c1']
/-! is_number, write_number -/
@[simp] theorem isTb1 : isTb "int" "bool" = false := by decide
@[simp] theorem isTb2 : isTb "bool" "bool" = true := by decide
@[simp] theorem isTb3 : isTb "tuple" "int" = false := by decide
def isI : D → Bool
  | .int _ => true
  | _ => false
theorem m_is_integer (i : Int) : den_is_integer [.int i] = .ok (.bl true) := by
  simp [den_is_integer, e_run, body_is_integer]
theorem m_is_number_p {p i : Int} (hp : 0 < p) : den_is_number [.int p, .int i] = .ok (.bl (decide (0 ≤ i) && decide (i < p))) := by
  by_cases h : 0 ≤ i
  · simp [den_is_number, e_run, body_is_number, hp, m_is_integer, h]
  · simp [den_is_number, e_run, body_is_number, hp, m_is_integer, h]
theorem m_is_number_q {n d : Int} : den_is_number [.int 0, .tup [.int n, .int d]] = .ok (.bl (decide (0 < d) && decide (Int.gcd n d = 1))) := by
  have e : Nat.gcd n.natAbs d.natAbs = Int.gcd n d := rfl
  by_cases h : 0 < d
  · simp [den_is_number, e_run, body_is_number, m_is_integer, h, e]
    norm_cast
  · simp [den_is_number, e_run, body_is_number, m_is_integer, h]
theorem m_write_p {p i : Int} (hp : 0 < p) (h : Bz 1920 i) : den_write_number [.int p, .int i] = .ok (.str (TS (numS i))) := by
  simp [den_write_number, e_run, body_write_number, hp, o_str h]
theorem fs_nil (acc : PySem.Str) (δ : DEnv) : fsD [] acc δ = .ok (.str acc) := rfl
theorem fs_cons {f : DEnv → R D} {fs : List (DEnv → R D)} {a y : List Nat} {δ : DEnv} (h : f δ = .ok (.str (TS y))) (hl : a.length + y.length ≤ 100000) : fsD (f :: fs) (TS a) δ = fsD fs (TS (a ++ y)) δ := by
  show (f δ).bind _ = _
  rw [h]
  simp only [R.bind_ok]
  rw [SX.S_cat, if_pos (by rw [SX.S_len, List.length_append]; exact sl_le hl)]
def wr (n d : Int) : List Nat := if d = 1 then numS n else numS n ++ ([47] ++ numS d)
theorem bz_len {i : Int} {k : Nat} (h : i.natAbs < 10 ^ 500) : (numS i).length ≤ 501 := numS_len (by decide) h
theorem bz_of {i : Int} (h : i.natAbs < 10 ^ 500) : Bz 1920 i := Nat.lt_of_lt_of_le h (by decide +kernel)
theorem m_write_q {n d : Int} (hn : n.natAbs < 10 ^ 500) (hd : d.natAbs < 10 ^ 500) : den_write_number [.int 0, .tup [.int n, .int d]] = .ok (.str (TS (wr n d))) := by
  have ln := bz_len (k := 0) hn
  have ld := bz_len (k := 0) hd
  unfold wr
  by_cases h : d = 1
  · subst h
    simp [den_write_number, e_run, body_write_number, o_str (bz_of hn)]
  · simp [den_write_number, e_run, body_write_number, h]
    rw [fs_cons (y := numS n) (by simp [o_fmt (bz_of hn)]) (by simp; omega), fs_cons (y := [47]) (by simp) (by simp; omega), fs_cons (y := numS d) (by simp [o_fmt (bz_of hd)]) (by simp; omega), fs_nil]
    simp
end DL

set_option maxRecDepth 100001
set_option maxHeartbeats 1000001
set_option exponentiation.threshold 2000
namespace DL
open PySem PySem.Spec PyProof.Rows L2
theorem uval_lt : ∀ (n : Nat) (cs : List Nat), cs.length = n → cs.all dgt = true → uval cs < 10 ^ n := by
  intro n
  induction n with
  | zero => intro cs h _; rw [List.length_eq_zero_iff.mp h]; decide
  | succ n ih =>
    intro cs h hc
    obtain ⟨ds, c, rfl⟩ : ∃ ds c, cs = ds ++ [c] := ⟨cs.dropLast, cs.getLast (by rintro rfl; simp at h), (List.dropLast_concat_getLast _).symm⟩
    rw [List.all_append, Bool.and_eq_true] at hc
    have h1 := ih ds (by simpa using h) hc.1
    have h2 := dgt_iff.mp (by simpa using hc.2 : dgt c = true)
    rw [uval_snoc, Nat.pow_succ]
    omega
theorem ival_lt {a : List Nat} (h : Ci a = true) (hl : a.length ≤ 400) : (ival a).natAbs < 10 ^ 400 := by
  by_cases hh : a.head? = some 45
  · cases a with
    | nil => exact nomatch hh
    | cons c r =>
      simp at hh; subst hh
      simp only [Ci, Bool.and_eq_true, decide_eq_true_eq] at h
      have h1 := uval_lt r.length r rfl (Cu_all h.1)
      have h2 : (10 : Nat) ^ r.length ≤ 10 ^ 400 := Nat.pow_le_pow_right (by decide) (by simp at hl; omega)
      show (-((uval r : Nat) : Int)).natAbs < _
      omega
  · obtain ⟨e1, e2⟩ := Ci_pos hh
    rw [e1] at h
    have h1 := uval_lt a.length a rfl (Cu_all h)
    have h2 : (10 : Nat) ^ a.length ≤ 10 ^ 400 := Nat.pow_le_pow_right (by decide) hl
    rw [e2]
    omega
theorem ten_le : (10 : Nat) ^ 400 ≤ 10 ^ 500 := Nat.pow_le_pow_right (by decide) (by decide)
theorem o_par {a : List Nat} (h : a.length ≤ 100000) : ∃ x y z, parD (TS a) (.str (TS [47])) = .ok (.tup [.str (TS x), .str (TS y), .str (TS z)]) ∧
    ((47 ∉ a ∧ x = a ∧ y = [] ∧ z = []) ∨ (47 ∉ x ∧ y = [47] ∧ a = x ++ 47 :: z)) := by
  have e : parD (TS a) (.str (TS [47])) = .ok (.tup [.str (Txt.partition (TS a) (TS [47])).1, .str (Txt.partition (TS a) (TS [47])).2.1, .str (Txt.partition (TS a) (TS [47])).2.2]) := by
    unfold parD
    simp only
    rw [if_pos ⟨rfl, by rw [SX.S_len]; exact sl_le h⟩]
  by_cases hm : 47 ∈ a
  · obtain ⟨x, z, rfl, hx⟩ := List.eq_append_cons_of_mem hm
    have h1 : TL.par [47] [] (x ++ 47 :: z) = some (x, z) := by simpa using SX.par_head (sep := []) z hx
    rw [SX.partition_some (by simp) h1] at e
    exact ⟨x, [47], z, e, .inr ⟨hx, rfl, rfl⟩⟩
  · rw [SX.partition_none (by simp) (SX.par_head_none hm)] at e
    exact ⟨a, [], [], e, .inl ⟨hm, rfl, rfl, rfl⟩⟩
def okP (p : Int) (a : List Nat) : Bool := Ci a && (decide (0 ≤ ival a) && decide (ival a < p))
theorem m_read_p {p : Int} {a : List Nat} (hp : 0 < p) (ha : Asc a) (hl : a.length ≤ 400) : den_read_number [.int p, .str (TS a)] = if okP p a = true then .ok (.int (ival a)) else .err ⟨"InvalidText"⟩ := by
  obtain ⟨x, y, z, e, _⟩ := o_par (a := a) (by omega)
  unfold okP
  by_cases hc : Ci a = true
  · have hi := m_read_integer ha (by omega : a.length ≤ 640)
    rw [if_pos hc] at hi
    have hn := m_is_number_p (i := ival a) hp
    have hw := m_write_p hp (bz_of (Nat.lt_of_lt_of_le (ival_lt hc hl) ten_le))
    rw [Ci_nm hc] at hw
    rw [hc, Bool.true_and]
    by_cases hr : (decide (0 ≤ ival a) && decide (ival a < p)) = true
    · rw [hr] at hn
      simp [den_read_number, e_run, body_read_number, e, hp, hi, hn, hw, o_neT ha ha, hr]
    · have hr' : (decide (0 ≤ ival a) && decide (ival a < p)) = false := by simpa using hr
      rw [hr'] at hn
      rw [hr', if_neg (by simp)]
      simp [den_read_number, e_run, body_read_number, e, hp, hi, hn]
  · have hi := m_read_integer ha (by omega : a.length ≤ 640)
    rw [if_neg hc] at hi
    have hc' : Ci a = false := by simpa using hc
    rw [hc', Bool.false_and, if_neg (by simp)]
    simp [den_read_number, e_run, body_read_number, e, hp, hi]
/-- what a text says over the fractions -/
def okQ (x z : List Nat) : Bool := Ci x && (Ci z && (decide (1 < ival z) && decide (Int.gcd (ival x) (ival z) = 1)))
theorem m_read_q0 {a : List Nat} (ha : Asc a) (hl : a.length ≤ 400) (hs : 47 ∉ a) : den_read_number [.int 0, .str (TS a)] = if Ci a = true then .ok (.tup [.int (ival a), .int 1]) else .err ⟨"InvalidText"⟩ := by
  obtain ⟨x, y, z, e, h⟩ := o_par (a := a) (by omega)
  rcases h with ⟨_, hx, hy, hz⟩ | ⟨_, _, h⟩
  · rw [hx, hy, hz] at e
    have hi := m_read_integer ha (by omega : a.length ≤ 640)
    by_cases hc : Ci a = true
    · rw [if_pos hc] at hi ⊢
      have hb := Nat.lt_of_lt_of_le (ival_lt hc hl) ten_le
      have hn := m_is_number_q (n := ival a) (d := 1)
      have hw := m_write_q (n := ival a) (d := 1) hb (by decide +kernel)
      have e1 : wr (ival a) 1 = a := by unfold wr; rw [if_pos rfl, Ci_nm hc]
      rw [e1] at hw
      have hg : (decide ((0 : Int) < 1) && decide (Int.gcd (ival a) 1 = 1)) = true := by simp
      rw [hg] at hn
      simp [den_read_number, e_run, body_read_number, e, hi, hn, hw, o_eqT Asc.nil Asc.nil, o_neT ha ha]
    · rw [if_neg hc] at hi ⊢
      simp [den_read_number, e_run, body_read_number, e, hi, o_eqT Asc.nil Asc.nil]
  · exact absurd (by rw [h]; simp) hs
theorem m_read_q {x z : List Nat} (ha : Asc (x ++ 47 :: z)) (hl : (x ++ 47 :: z).length ≤ 400) (hs : 47 ∉ x) : den_read_number [.int 0, .str (TS (x ++ 47 :: z))] = if okQ x z = true then .ok (.tup [.int (ival x), .int (ival z)]) else .err ⟨"InvalidText"⟩ := by
  obtain ⟨x', y, z', e, h⟩ := o_par (a := x ++ 47 :: z) (by omega)
  rcases h with ⟨h, _⟩ | ⟨hx', rfl, h⟩
  · exact absurd (by simp) h
  · have hx : x' = x ∧ z' = z := by
      have h1 := SX.par_head (sep := []) z hs
      have h2 := SX.par_head (sep := []) z' hx'
      simp only [List.cons_append, List.nil_append] at h1 h2
      rw [h, h2] at h1
      simpa using h1
    obtain ⟨rfl, rfl⟩ := hx
    have ax : Asc x' := fun c hc => ha c (by simp [hc])
    have az : Asc z' := fun c hc => ha c (by simp [hc])
    simp only [List.length_append, List.length_cons] at hl
    have ix := m_read_integer ax (by omega : x'.length ≤ 640)
    have iz := m_read_integer az (by omega : z'.length ≤ 640)
    have hn7 : Asc [47] := Asc.of _ (by decide)
    unfold okQ
    by_cases hcx : Ci x' = true
    · rw [if_pos hcx] at ix
      by_cases hcz : Ci z' = true
      · rw [if_pos hcz] at iz
        rw [hcx, hcz, Bool.true_and, Bool.true_and]
        have hn := m_is_number_q (n := ival x') (d := ival z')
        have bx := Nat.lt_of_lt_of_le (ival_lt hcx (by omega)) ten_le
        have bz := Nat.lt_of_lt_of_le (ival_lt hcz (by omega)) ten_le
        have hw := m_write_q bx bz
        by_cases h1 : 0 < ival z' ∧ Int.gcd (ival x') (ival z') = 1
        · have hb : (decide (0 < ival z') && decide (Int.gcd (ival x') (ival z') = 1)) = true := by simp [h1.1, h1.2]
          rw [hb] at hn
          by_cases h2 : ival z' = 1
          · have hne : numS (ival x') ≠ x' ++ 47 :: z' := fun q => by
              rw [Ci_nm hcx] at q
              have := congrArg List.length q
              simp at this
            have aw : Asc (numS (ival x')) := Asc.num _
            unfold wr at hw
            rw [if_pos h2] at hw
            have hf : ¬ ((decide (1 < ival z') && decide (Int.gcd (ival x') (ival z') = 1)) = true) := by rw [h2]; simp
            rw [if_neg hf]
            simp [den_read_number, e_run, body_read_number, e, ix, iz, hn, hw, o_eqT hn7 Asc.nil, o_neT aw ha, hne]
          · unfold wr at hw
            rw [if_neg h2, Ci_nm hcx, Ci_nm hcz] at hw
            simp only [List.cons_append, List.nil_append] at hw
            have ht : (decide (1 < ival z') && decide (Int.gcd (ival x') (ival z') = 1)) = true := by simp [h1.2]; omega
            rw [if_pos ht]
            simp [den_read_number, e_run, body_read_number, e, ix, iz, hn, hw, o_eqT hn7 Asc.nil, o_neT ha ha]
        · have hb : (decide (0 < ival z') && decide (Int.gcd (ival x') (ival z') = 1)) = false := by
            by_cases q : 0 < ival z'
            · simp [q]; exact fun w => h1 ⟨q, w⟩
            · simp [q]
          rw [hb] at hn
          have hf : ¬ ((decide (1 < ival z') && decide (Int.gcd (ival x') (ival z') = 1)) = true) := fun q => by
            simp at q
            exact h1 ⟨by omega, q.2⟩
          rw [if_neg hf]
          simp [den_read_number, e_run, body_read_number, e, ix, iz, hn, o_eqT hn7 Asc.nil]
      · rw [if_neg hcz] at iz
        have hcz' : Ci z' = false := by simpa using hcz
        rw [hcz', Bool.false_and, Bool.and_false, if_neg (by simp)]
        simp [den_read_number, e_run, body_read_number, e, ix, iz, o_eqT hn7 Asc.nil]
    · rw [if_neg hcx] at ix
      have hcx' : Ci x' = false := by simpa using hcx
      rw [hcx', Bool.false_and, if_neg (by simp)]
      simp [den_read_number, e_run, body_read_number, e, ix, o_eqT hn7 Asc.nil]
end DL

set_option maxRecDepth 100001
set_option maxHeartbeats 1000001
set_option exponentiation.threshold 2000
namespace DL
open PySem PySem.Spec PyProof.Rows L2
theorem abs_nat (i : Int) : (if i < 0 then -i else i) = (i.natAbs : Int) := by split <;> omega
theorem m_common (a b : Int) : den__law_common [.int a, .int b] = .ok (.int ((Nat.gcd a.natAbs b.natAbs : Nat) : Int)) := by
  obtain ⟨δ', m, e1, e2, hI⟩ := while_run (c := toB (b2 neD (nmD 1) (cD (.int 0)))) (b := seqF (parF 0 1 (consA (nmD 1) (consA (b2 modD (callF intAD (consA (nmD 0) (nilA))) (nmD 1)) (nilA)))) (nxD))
    (fun n δ => ∃ x : Nat, δ = [some (.int x), some (.int n)] ∧ Nat.gcd x n = Nat.gcd a.natAbs b.natAbs) (fun n δ hI => by
      obtain ⟨x, rfl, hg⟩ := hI
      by_cases hn : n = 0
      · left
        subst hn
        simp
      · right
        refine ⟨by simp [hn], [some (.int n), some (.int ((x % n : Nat) : Int))], x % n, ?_, Nat.mod_lt _ (by omega), n, rfl, ?_⟩
        · left
          simp [o_modp (i := (x : Int)) (j := (n : Int)) (by omega)]
        · rw [← hg, Nat.gcd_comm x n, Nat.gcd_comm n (x % n)]
          exact (Nat.gcd_rec n x).symm) b.natAbs [some (.int (a.natAbs : Nat)), some (.int (b.natAbs : Nat))] ⟨a.natAbs, rfl, rfl⟩
  obtain ⟨x, rfl, hg⟩ := hI
  have hm : m = 0 := by simpa using e2
  subst hm
  rw [Nat.gcd_zero_right] at hg
  simp [den__law_common, e_run, body__law_common, abs_nat, e1, hg]
theorem m_text_p {p i : Int} (hp : 0 < p) (h : Bz 1920 i) : den__law_text [.int p, .int i] = .ok (.str (TS (numS i))) := by
  simp [den__law_text, e_run, body__law_text, hp, o_str h]
theorem m_text_q {n d : Int} (hn : n.natAbs < 10 ^ 500) (hd : d.natAbs < 10 ^ 500) : den__law_text [.int 0, .tup [.int n, .int d]] = .ok (.str (TS (wr n d))) := by
  have ln := bz_len (k := 0) hn
  have ld := bz_len (k := 0) hd
  unfold wr
  by_cases h : d = 1
  · subst h
    simp [den__law_text, e_run, body__law_text, o_str (bz_of hn)]
  · simp [den__law_text, e_run, body__law_text, h, o_str (bz_of hn), o_str (bz_of hd)]
    rw [o_addT (by simp; omega)]
    simp
    rw [o_addT (by simp; omega)]
    simp
/-! _law_digits -/
theorem digs_iff (c : Nat) : (c ∈ [48, 49, 50, 51, 52, 53, 54, 55, 56, 57]) ↔ dgt c = true := by
  rw [dgt_iff]
  simp
  omega
theorem o_nin (c : Nat) : ninSD (.str (TS [c])) (.str (TS [48, 49, 50, 51, 52, 53, 54, 55, 56, 57])) = .ok (.bl (!dgt c)) := by
  unfold ninSD
  simp only
  rw [SX.in_one]
  congr 3
  rw [Bool.eq_iff_iff, decide_eq_true_iff, digs_iff]
noncomputable def bDig : DEnv → Fl := seqF (ifF (toB (b2 ninSD (nmD 1) (cD (.str (PySem.Str.ofString "0123456789"))))) (retF (cD (.bl false))) (nxD)) (nxD)
theorem dig_loop (s : Option D) : ∀ (l : List Nat) (x : Option D), ∃ y, forD (putD 1) bDig (l.map fun c => D.str ⟨#[c]⟩) [s, x] = if l.all dgt = true then .nx [s, y] else .rt (.bl false)
  | [], x => ⟨x, rfl⟩
  | c :: l, x => by
    obtain ⟨y, e⟩ := dig_loop s l (some (.str (TS [c])))
    refine ⟨y, ?_⟩
    have e0 : (⟨#[c]⟩ : PySem.Str) = TS [c] := rfl
    rw [List.map_cons, forD]
    have h1 : putD 1 (D.str ⟨#[c]⟩) [s, x] = .ok [s, some (.str (TS [c]))] := by simp
    rw [h1]
    simp only
    by_cases h : dgt c = true
    · have hb : bDig [s, some (.str (TS [c]))] = .nx [s, some (.str (TS [c]))] := by simp [bDig, o_nin, h]
      rw [hb]
      simp only
      rw [e, List.all_cons, h, Bool.true_and]
    · have h' : dgt c = false := by simpa using h
      have hb : bDig [s, some (.str (TS [c]))] = .rt (.bl false) := by simp [bDig, o_nin, h']
      rw [hb, List.all_cons, h']
      simp
theorem m_digits {a : List Nat} (ha : Asc a) (hl : a.length ≤ 100000) : den__law_digits [.str (TS a)] = .ok (.bl (Cu a)) := by
  have e0 : eqD (.str (TS a)) (.str (TS [])) = .ok (.bl (decide (a = []))) := o_eqT ha Asc.nil
  have hz : Asc [48] := Asc.of _ (by decide)
  have hb : body__law_digits = seqF (ifF (orB (toB (b2 eqD (nmD 0) (cD (.str (PySem.Str.ofString ""))))) (andB (toB (b2 gtD (callF lenD (consA (nmD 0) (nilA))) (cD (.int 1)))) (toB (b2 eqD (b2 idxD (nmD 0) (cD (.int 0))) (cD (.str (PySem.Str.ofString "0"))))))) (retF (cD (.bl false))) (nxD)) (seqF (forF (itX (nmD 0)) (putD 1) bDig) (retF (cD (.bl true)))) := rfl
  rw [den__law_digits, e_run, hb]
  have hit : ∀ x, itX (nmD 0) [some (.str (TS a)), x] = .ok (a.map fun c => D.str ⟨#[c]⟩) := fun x => by
    unfold itX nmD
    simp
  obtain ⟨y, e⟩ := dig_loop (some (.str (TS a))) a none
  generalize (a.map fun c => D.str ⟨#[c]⟩) = L at hit e
  match a, ha, hl, e0, hit, e with
  | [], _, _, e0, _, _ => simp [e0, Cu]
  | [c], _, hl, e0, hit, e =>
    by_cases h : dgt c = true
    · simp [e0, o_lenT' hl, hit, e, Cu, h]
    · have h' : dgt c = false := by simpa using h
      simp [e0, o_lenT' hl, hit, e, Cu, h']
  | c :: d :: r, ha, hl, e0, hit, e =>
    have hi : idxD (.str (TS (c :: d :: r))) (.int 0) = .ok (.str (TS [c])) := o_idxT (i := 0) hl rfl
    have hc : Asc [c] := fun x hx => ha x (by rw [List.mem_singleton.mp hx]; simp)
    have h1 : (1 : Int) < ((r.length : Int) + 1 + 1) := by omega
    by_cases h0 : c = 48
    · subst h0
      simp [e0, o_lenT' hl, hi, o_eqT hc hz, Cu, h1]
    · have hne : ¬ ([c] = [48]) := by simpa using h0
      by_cases h : (c :: d :: r).all dgt = true
      · rw [if_pos h] at e
        have : Cu (c :: d :: r) = true := by
          rw [List.all_cons, Bool.and_eq_true] at h
          simp only [Cu, Bool.and_eq_true, decide_eq_true_eq]
          exact ⟨⟨h.1, h0⟩, h.2⟩
        rw [this]
        simp [e0, o_lenT' hl, hi, o_eqT hc hz, h0, hit, e, h1]
      · rw [if_neg h] at e
        have : Cu (c :: d :: r) = false := by
          rw [Bool.eq_false_iff]
          intro q
          exact h (Cu_all q)
        rw [this]
        simp [e0, o_lenT' hl, hi, o_eqT hc hz, h0, hit, e, h1]
end DL

set_option maxRecDepth 100001
set_option maxHeartbeats 1000001
set_option exponentiation.threshold 2000
namespace DL
open PySem PySem.Spec PyProof.Rows L2
/-- what a text says -/
def res (p : Int) (a : List Nat) : Option D := if 0 < p then (if okP p a = true then some (.int (ival a)) else none) else
  match TL.par [47] [] a with
  | none => if Ci a = true then some (.tup [.int (ival a), .int 1]) else none
  | some (x, z) => if okQ x z = true then some (.tup [.int (ival x), .int (ival z)]) else none
theorem par0 {a : List Nat} (h : 47 ∉ a) : TL.par [47] [] a = none := SX.par_head_none h
theorem par1 {x z : List Nat} (h : 47 ∉ x) : TL.par [47] [] (x ++ 47 :: z) = some (x, z) := by simpa using SX.par_head (sep := []) z h
theorem m_read {p : Int} {a : List Nat} (hp : 0 ≤ p) (ha : Asc a) (hl : a.length ≤ 400) : den_read_number [.int p, .str (TS a)] = match res p a with | some d => .ok d | none => .err ⟨"InvalidText"⟩ := by
  unfold res
  by_cases h0 : 0 < p
  · rw [if_pos h0, m_read_p h0 ha hl]
    by_cases h : okP p a = true <;> simp [h]
  · rw [if_neg h0]
    have : p = 0 := by omega
    subst this
    by_cases hm : 47 ∈ a
    · obtain ⟨x, z, rfl, hx⟩ := List.eq_append_cons_of_mem hm
      rw [par1 hx, m_read_q ha hl hx]
      by_cases h : okQ x z = true <;> simp [h]
    · rw [par0 hm, m_read_q0 ha hl hm]
      by_cases h : Ci a = true <;> simp [h]
/-! _law_due: the rests -/
noncomputable def bDue : DEnv → Fl := seqF (ifF (toB (b2 eqD (nmD 1) (callF strD (consA (nmD 6) (nilA))))) (retF (tupA (consA (cD (.bl true)) (consA (nmD 6) (nilA))))) (nxD)) (nxD)
theorem due_loop (P : D) (a : List Nat) (ha : Asc a) : ∀ (l : List Int) (x : Option D), (∀ k ∈ l, k.natAbs < 100) → ∃ y, forD (putD 6) bDue (l.map D.int) [some P, some (.str (TS a)), none, none, none, none, x] = match l.find? (fun k => decide (a = numS k)) with
    | some k => .rt (.tup [.bl true, .int k])
    | none => .nx [some P, some (.str (TS a)), none, none, none, none, y]
  | [], x, _ => ⟨x, rfl⟩
  | k :: l, x, hk => by
    obtain ⟨y, e⟩ := due_loop P a ha l (some (.int k)) fun q hq => hk q (List.mem_cons_of_mem _ hq)
    refine ⟨y, ?_⟩
    rw [List.map_cons, forD]
    have h1 : putD 6 (D.int k) [some P, some (.str (TS a)), none, none, none, none, x] = .ok [some P, some (.str (TS a)), none, none, none, none, some (.int k)] := by simp
    rw [h1]
    simp only
    have hb : Bz 1920 k := Nat.lt_of_lt_of_le (hk k List.mem_cons_self) (by decide +kernel)
    rw [List.find?_cons]
    by_cases h : a = numS k
    · have hb2 : bDue [some P, some (.str (TS a)), none, none, none, none, some (.int k)] = .rt (.tup [.bl true, .int k])   := by
        (have ht : (a = numS k) = True := eq_true h; simp [bDue, o_str hb, o_eqT ha (Asc.num k), ht])
      rw [hb2, decide_eq_true h]
    · have hb2 : bDue [some P, some (.str (TS a)), none, none, none, none, some (.int k)] = .nx [some P, some (.str (TS a)), none, none, none, none, some (.int k)] := by simp [bDue, o_str hb, o_eqT ha (Asc.num k), h]
      rw [hb2, decide_eq_false h]
      exact e
theorem find_okP {p : Int} (h : Pm p) (a : List Nat) : ((List.range p.toNat).map fun k : Nat => (k : Int)).find? (fun k => decide (a = numS k)) = if okP p a = true then some (ival a) else none := by
  have hp := h.pos
  by_cases hk : okP p a = true
  · rw [if_pos hk]
    unfold okP at hk
    simp only [Bool.and_eq_true, decide_eq_true_eq] at hk
    obtain ⟨h1, h2, h3⟩ := hk
    have hm : ival a ∈ (List.range p.toNat).map fun k : Nat => (k : Int) := List.mem_map.mpr ⟨(ival a).toNat, List.mem_range.mpr (by omega), by omega⟩
    cases q : ((List.range p.toNat).map fun k : Nat => (k : Int)).find? (fun k => decide (a = numS k)) with
    | none =>
      have := List.find?_eq_none.mp q _ hm
      rw [Ci_nm h1] at this
      simp at this
    | some k =>
      have := List.find?_some q
      simp only [decide_eq_true_eq] at this
      rw [this, (Ci_num k).2]
  · rw [if_neg hk]
    rw [List.find?_eq_none]
    intro k hm e
    simp only [decide_eq_true_eq] at e
    obtain ⟨j, hj, rfl⟩ := List.mem_map.mp hm
    have hj := List.mem_range.mp hj
    apply hk
    unfold okP
    rw [e, (Ci_num _).1, (Ci_num _).2]
    simp
    omega
theorem ints_map (n : Nat) : intsFrom 0 n = ((List.range n).map fun k : Nat => (k : Int)).map D.int := by
  unfold intsFrom
  simp
theorem m_due_p {p : Int} (h : Pm p) {a : List Nat} (ha : Asc a) : den__law_due [.int p, .str (TS a)] = .ok (.tup [.bl (okP p a), if okP p a = true then .int (ival a) else .int 0]) := by
  have hp := h.pos
  have hle := h.le
  obtain ⟨y, e⟩ := due_loop (.int p) a ha ((List.range p.toNat).map fun k : Nat => (k : Int)) none (fun k hk => by
    obtain ⟨j, hj, rfl⟩ := List.mem_map.mp hk
    have := List.mem_range.mp hj
    omega)
  rw [find_okP h, ← ints_map] at e
  have hr : rgK [.int p] = .ok (intsFrom 0 p.toNat) := rgK_ok (by omega) (by omega)
  rw [den__law_due, e_run]
  unfold body__law_due
  rw [e_seq, e_if]
  have hc : toB (b2 gtD (nmD 0) (cD (.int 0))) (startD 7 [.int p, .str (TS a)]) = .ok true := by simp [hp]
  rw [hc, ite_t]
  rw [show (seqF (ifF (toB (b2 eqD (nmD 1) (callF strD (consA (nmD 6) (nilA))))) (retF (tupA (consA (cD (.bl true)) (consA (nmD 6) (nilA))))) (nxD)) (nxD)) = bDue from rfl]
  by_cases hk : okP p a = true
  · rw [if_pos hk] at e
    simp [hr, e, hk]
  · rw [if_neg hk] at e
    simp [hr, e, hk]
end DL

set_option maxRecDepth 100001
set_option maxHeartbeats 1000001
set_option exponentiation.threshold 2000
namespace DL
open PySem PySem.Spec PyProof.Rows L2
def dT (l : List Nat) : D := .str (TS l)
theorem o_spl {a b : List Nat} (h : a.length ≤ 100000) (hb : b ≠ []) (hk : b.all (· < 256) = true) : splD (TS a) (.str (TS b)) = .ok (.lst ((TL.spl b 0 [] a).map dT)) := by
  unfold splD
  simp only
  rw [if_pos ⟨by rw [SX.S_len]; cases b with | nil => exact absurd rfl hb | cons _ _ => rfl, by rw [SX.S_len]; rw [sizeLine_eq]; omega⟩, SX.split_S hb hk, List.map_map]
  rfl
theorem o_intU {a : List Nat} (h : Cu a = true) (hl : a.length ≤ 640) : intAD [.str (TS a)] = .ok (.int ((uval a : Nat) : Int)) := by
  obtain ⟨h1, h2⟩ := Ci_pos (Cu_head h)
  rw [o_intT (by rw [h1]; exact h) hl, h2]
theorem spl1 (s : Nat) {a : List Nat} (h : s ∉ a) : TL.spl [s] 0 [] a = [a] := by simpa using TL.spl_last1 (S := []) (acc := []) h
theorem spl2 (s : Nat) {x z : List Nat} (h : s ∉ x) : TL.spl [s] 0 [] (x ++ s :: z) = x :: TL.spl [s] 0 [] z := by simpa using TL.spl_part1 (S := []) (acc := []) (rest := z) h
theorem spl_ne (s : Nat) (a : List Nat) : TL.spl [s] 0 [] a ≠ [] := by
  by_cases hm : s ∈ a
  · obtain ⟨x, z, rfl, hx⟩ := List.eq_append_cons_of_mem hm
    rw [spl2 s hx]; simp
  · rw [spl1 s hm]; simp
theorem cut1_to (a : List Nat) : cutL a none (some 1) = a.take 1 := by
  unfold cutL
  rw [HT.sIx_none, show (1 : Int) = ((1 : Nat) : Int) from rfl, HT.sIx_nat, List.drop_zero, Nat.sub_zero]
  cases a <;> simp
theorem cut1_from (a : List Nat) : cutL a (some 1) none = a.tail := by
  unfold cutL
  rw [HT.sIx_none, show (1 : Int) = ((1 : Nat) : Int) from rfl, HT.sIx_nat]
  cases a with
  | nil => rfl
  | cons c r => simp
def above (x : List Nat) : List Nat := if x.head? = some 45 then x.tail else x
theorem Ci_above (x : List Nat) : Ci x = (Cu (above x) && !(decide (x.head? = some 45) && decide (above x = [48]))) := by
  unfold above
  by_cases h : x.head? = some 45
  · cases x with
    | nil => exact nomatch h
    | cons c r =>
      simp at h; subst h
      simp [Ci]
  · rw [(Ci_pos h).1]
    simp [h]
theorem ival_above (x : List Nat) : ival x = if x.head? = some 45 then -((uval (above x) : Nat) : Int) else ((uval (above x) : Nat) : Int) := by
  unfold above
  by_cases h : x.head? = some 45
  · cases x with
    | nil => exact nomatch h
    | cons c r =>
      simp at h; subst h
      simp [ival]
  · rw [(Ci_pos h).2]
    simp [h]
def dueR (x : List Nat) : List (List Nat) → D
  | [] => if Ci x = true then .tup [.bl true, .tup [.int (ival x), .int 1]] else .tup [.bl false, .int 0]
  | [z] => if okQ x z = true then .tup [.bl true, .tup [.int (ival x), .int (ival z)]] else .tup [.bl false, .int 0]
  | _ => .tup [.bl false, .int 0]
theorem dueR1 (x z : List Nat) : dueR x [z] = if okQ x z = true then .tup [.bl true, .tup [.int (ival x), .int (ival z)]] else .tup [.bl false, .int 0] := rfl
theorem okQ_u (x z : List Nat) : okQ x z = (Ci x && (Cu z && (!decide (((uval z : Nat) : Int) < 2) && decide (Int.gcd (ival x) ((uval z : Nat) : Int) = 1)))) := by
  unfold okQ
  congr 1
  by_cases h : z.head? = some 45
  · have hz : Cu z = false := by
      rw [Bool.eq_false_iff]
      intro q
      exact Cu_head q h
    rw [hz, Bool.false_and]
    cases z with
    | nil => exact nomatch h
    | cons c r =>
      simp at h; subst h
      have : ¬ (1 < ival (45 :: r)) := by simp [ival]; try omega
      simp [this]
  · obtain ⟨h1, h2⟩ := Ci_pos h
    rw [h1, h2]
    congr 2
    rw [Bool.eq_iff_iff]
    simp
    try omega
theorem m_due_core {a x : List Nat} {L : List (List Nat)} (ha : Asc a) (hl : a.length ≤ 400) (hx : Asc x) (hxl : x.length ≤ 400) (hL : ∀ z ∈ L, Asc z ∧ z.length ≤ 400) (hs : TL.spl [47] 0 [] a = x :: L) (hm : (a.take 1 = [45]) = (x.head? = some 45)) :
    den__law_due [.int 0, .str (TS a)] = .ok (dueR x L) := by
  have es : splD (TS a) (.str (TS [47])) = .ok (.lst (dT x :: L.map dT)) := by rw [o_spl (by omega) (by simp) (by decide), hs]; rfl
  have ec : cutD (.str (TS a)) none (some 1) = .ok (.str (TS (a.take 1))) := by rw [o_cutT (by omega), cut1_to]
  have ef : cutD (dT x) (some 1) none = .ok (.str (TS x.tail)) := by unfold dT; rw [o_cutT (by omega), cut1_from]
  have em : eqD (.str (TS (a.take 1))) (.str (TS [45])) = .ok (.bl (decide (x.head? = some 45))) := by
    rw [o_eqT (ha.take 1) (Asc.of _ (by decide))]
    simp only [hm]
  have aA : Asc (above x) := by unfold above; split; exact hx.tail; exact hx
  have aL : (above x).length ≤ 400 := by unfold above; split; simp; omega; exact hxl
  have ed : den__law_digits [.str (TS (above x))] = .ok (.bl (Cu (above x))) := m_digits aA (by omega)
  have e0 : eqD (.str (TS (above x))) (.str (TS [48])) = .ok (.bl (decide (above x = [48]))) := o_eqT aA (Asc.of _ (by decide))
  have hci := Ci_above x
  have hiv := ival_above x
  -- the words
  rw [den__law_due, e_run]
  unfold body__law_due
  have h1 : (above x = if x.head? = some 45 then x.tail else x) := rfl
  cases hh : decide (x.head? = some 45) with
  | true =>
    have hp : x.head? = some 45 := of_decide_eq_true hh
    rw [if_pos hp] at h1 hiv
    rw [hh, Bool.true_and] at hci
    rw [← h1] at ef
    rw [hh] at em
    have ef' : cutD (.str (TS x)) (some 1) none = .ok (.str (TS (above x))) := ef
    by_cases hc : Ci x = true
    · rw [hc] at hci
      have hci' := hci.symm
      rw [Bool.and_eq_true] at hci'
      have c1 := hci'.1
      have c2 : decide (above x = [48]) = false := by simpa using hci'.2
      rw [c1] at ed
      rw [c2] at e0
      have ei := o_intU c1 (by omega)
      match L, hL, es with
      | [], _, es => simp [es, ec, em, ef, ed, e0, ei, dueR, hc, hiv]
      | [z], hL, es =>
        obtain ⟨az, lz⟩ := hL z (by simp)
        have edz : den__law_digits [.str (TS z)] = .ok (.bl (Cu z)) := m_digits az (by omega)
        rw [dueR1, okQ_u, hc, Bool.true_and]
        by_cases hz : Cu z = true
        · have eiz := o_intU hz (by omega)
          have eg := m_common (ival x) ((uval z : Nat) : Int)
          rw [hz, Bool.true_and]
          have e1 : ival z = ((uval z : Nat) : Int) := (Ci_pos (Cu_head hz)).2
          have e2 : Nat.gcd (ival x).natAbs (((uval z : Nat) : Int)).natAbs = Int.gcd (ival x) ((uval z : Nat) : Int) := rfl
          rw [e2] at eg
          rw [e1]
          rw [hiv] at eg ⊢
          by_cases g1 : ((uval z : Nat) : Int) < 2
          · simp [es, ec, em, ef', ed, e0, ei, hiv, dT, edz, hz, eiz, g1]
          · by_cases g2 : Int.gcd (-((uval (above x) : Nat) : Int)) ((uval z : Nat) : Int) = 1
            · rw [g2] at eg
              simp [es, ec, em, ef', ed, e0, ei, hiv, dT, edz, hz, eiz, g1, eg, g2]
            · have g2' : ¬ ((((Int.gcd (-((uval (above x) : Nat) : Int)) ((uval z : Nat) : Int)) : Nat) : Int) = 1) := by omega
              simp only [g1, g2, decide_false, Bool.not_false, Bool.and_false, Bool.false_eq_true, if_false]
              simp [es, ec, em, ef', ed, e0, ei, dT, edz, hz, eiz, g1, eg, g2', -Int.gcd_neg, -Int.neg_gcd]
        · have hz' : Cu z = false := by simpa using hz
          rw [hz'] at edz
          simp [es, ec, em, ef', ed, e0, ei, hiv, dT, edz, hz']
      | z :: w :: r, _, es =>
        have : (2 : Int) < (r.length : Int) + 1 + 1 + 1 := by omega
        simp [es, ec, em, ef, ed, e0, ei, dueR, hc, hiv, this]
    · have hc' : Ci x = false := by simpa using hc
      have hr : dueR x L = .tup [.bl false, .int 0] := by
        unfold dueR
        split
        · simp [hc']
        · simp [okQ_u, hc']
        · rfl
      rw [hr]
      rw [hc'] at hci
      by_cases hlen : (2 : Int) < ((L.length : Nat) : Int) + 1
      · simp [es, ec, em, ef, hlen]
      · by_cases c1 : Cu (above x) = true
        · rw [c1] at ed
          have c2 : decide (above x = [48]) = true := by
            rw [c1, Bool.true_and] at hci
            simpa using hci.symm
          rw [c2] at e0
          simp [es, ec, em, ef, ed, e0, hlen]
        · have c1' : Cu (above x) = false := by simpa using c1
          rw [c1'] at ed
          simp [es, ec, em, ef, ed, hlen]
  | false =>
    have hp : ¬ (x.head? = some 45) := of_decide_eq_false hh
    rw [if_neg hp] at h1 hiv
    rw [hh, Bool.false_and, Bool.not_false, Bool.and_true] at hci
    rw [hh] at em
    rw [h1] at ed hci hiv
    by_cases hc : Ci x = true
    · have c1 := hci.symm.trans hc
      rw [c1] at ed
      have ei := o_intU c1 (by omega)
      match L, hL, es with
      | [], _, es => simp [es, ec, em, ed, ei, dueR, hc, hiv, dT]
      | [z], hL, es =>
        obtain ⟨az, lz⟩ := hL z (by simp)
        have edz : den__law_digits [.str (TS z)] = .ok (.bl (Cu z)) := m_digits az (by omega)
        rw [dueR1, okQ_u, hc, Bool.true_and]
        by_cases hz : Cu z = true
        · have eiz := o_intU hz (by omega)
          have eg := m_common (ival x) ((uval z : Nat) : Int)
          rw [hz, Bool.true_and]
          have e1 : ival z = ((uval z : Nat) : Int) := (Ci_pos (Cu_head hz)).2
          have e2 : Nat.gcd (ival x).natAbs (((uval z : Nat) : Int)).natAbs = Int.gcd (ival x) ((uval z : Nat) : Int) := rfl
          rw [e2] at eg
          rw [e1]
          rw [hiv] at eg ⊢
          by_cases g1 : ((uval z : Nat) : Int) < 2
          · simp [es, ec, em, ed, ei, hiv, dT, edz, hz, eiz, g1]
          · by_cases g2 : Int.gcd (((uval x : Nat) : Int)) ((uval z : Nat) : Int) = 1
            · rw [g2] at eg
              simp only [g1, g2, decide_false, decide_true, Bool.not_false, Bool.and_true, if_true]
              simp [es, ec, em, ed, ei, dT, edz, hz, eiz, g1, eg, -Int.gcd_natCast_natCast]
            · have g2' : ¬ ((((Int.gcd (((uval x : Nat) : Int)) ((uval z : Nat) : Int)) : Nat) : Int) = 1) := by omega
              simp only [g1, g2, decide_false, Bool.not_false, Bool.and_false, Bool.false_eq_true, if_false]
              simp [es, ec, em, ed, ei, dT, edz, hz, eiz, g1, eg, g2', -Int.gcd_natCast_natCast]
        · have hz' : Cu z = false := by simpa using hz
          rw [hz'] at edz
          simp [es, ec, em, ed, ei, hiv, dT, edz, hz']
      | z :: w :: r, _, es =>
        have : (2 : Int) < (r.length : Int) + 1 + 1 + 1 := by omega
        simp [es, ec, em, ed, ei, dueR, hc, hiv, this, dT]
    · have hc' : Ci x = false := by simpa using hc
      have hr : dueR x L = .tup [.bl false, .int 0] := by
        unfold dueR
        split
        · simp [hc']
        · simp [okQ_u, hc']
        · rfl
      rw [hr]
      have c1' := hci.symm.trans hc'
      rw [c1'] at ed
      by_cases hlen : (2 : Int) < ((L.length : Nat) : Int) + 1
      · simp [es, ec, em, hlen, dT]
      · simp [es, ec, em, ed, hlen, dT]
end DL

set_option maxRecDepth 100001
set_option maxHeartbeats 1000001
set_option exponentiation.threshold 2000
namespace DL
open PySem PySem.Spec PyProof.Rows L2
theorem spl_part (s : Nat) : ∀ (n : Nat) (a : List Nat), a.length ≤ n → ∀ w ∈ TL.spl [s] 0 [] a, (∀ c ∈ w, c ∈ a) ∧ w.length ≤ a.length ∧ s ∉ w := by
  intro n
  induction n with
  | zero =>
    intro a ha w hw
    have : a = [] := List.length_eq_zero_iff.mp (by omega)
    subst this
    rw [spl1 s (by simp)] at hw
    rw [List.mem_singleton.mp hw]
    simp
  | succ n ih =>
    intro a ha w hw
    by_cases hm : s ∈ a
    · obtain ⟨x, z, rfl, hx⟩ := List.eq_append_cons_of_mem hm
      rw [spl2 s hx] at hw
      rcases List.mem_cons.mp hw with rfl | hw
      · exact ⟨fun c hc => by simp [hc], by simp, hx⟩
      · simp only [List.length_append, List.length_cons] at ha
        obtain ⟨h1, h2, h3⟩ := ih z (by omega) w hw
        exact ⟨fun c hc => by simp [h1 c hc], by simp; omega, h3⟩
    · rw [spl1 s hm] at hw
      rw [List.mem_singleton.mp hw]
      exact ⟨fun c hc => hc, Nat.le_refl _, hm⟩
theorem Fd.nn {p : Int} (h : Fd p) : 0 ≤ p := by
  rcases h with rfl | h
  · decide
  · have := h.pos; omega
theorem m_due {p : Int} (h : Fd p) {a : List Nat} (ha : Asc a) (hl : a.length ≤ 400) : den__law_due [.int p, .str (TS a)] = .ok (.tup [.bl (res p a).isSome, (res p a).getD (.int 0)]) := by
  rcases h with rfl | h
  · unfold res
    rw [if_neg (by decide)]
    by_cases hm : 47 ∈ a
    · obtain ⟨x, z, rfl, hx⟩ := List.eq_append_cons_of_mem hm
      rw [par1 hx]
      have ax : Asc x := fun c hc => ha c (by simp [hc])
      have az : Asc z := fun c hc => ha c (by simp [hc])
      simp only [List.length_append, List.length_cons] at hl
      have hh : ((x ++ 47 :: z).take 1 = [45]) = (x.head? = some 45) := by cases x <;> simp
      by_cases hz : 47 ∈ z
      · obtain ⟨y, w, rfl, hy⟩ := List.eq_append_cons_of_mem hz
        have hs : TL.spl [47] 0 [] (x ++ 47 :: (y ++ 47 :: w)) = x :: y :: TL.spl [47] 0 [] w := by rw [spl2 47 hx, spl2 47 hy]
        rw [m_due_core ha (by simp at hl ⊢; omega) ax (by omega) (fun u hu => ?_) hs hh]
        · have hk : okQ x (y ++ 47 :: w) = false := by
            have : Ci (y ++ 47 :: w) = false := by
              rw [Bool.eq_false_iff]
              intro q
              exact Ci_free q (s := 47) (by decide) (by simp)
            unfold okQ
            rw [this]; simp
          cases q : TL.spl [47] 0 [] w with
          | nil => exact absurd q (spl_ne 47 w)
          | cons u r => simp [dueR, hk]
        · rcases List.mem_cons.mp hu with rfl | hu
          · exact ⟨fun c hc => az c (by simp [hc]), by simp at hl; omega⟩
          · obtain ⟨h1, h2, _⟩ := spl_part 47 _ w (Nat.le_refl _) u hu
            exact ⟨fun c hc => az c (by simp [h1 c hc]), by simp at hl; omega⟩
      · have hs : TL.spl [47] 0 [] (x ++ 47 :: z) = [x, z] := by rw [spl2 47 hx, spl1 47 hz]
        rw [m_due_core ha (by simp; omega) ax (by omega) (fun u hu => by rw [List.mem_singleton.mp hu]; exact ⟨az, by omega⟩) hs hh, dueR1]
        by_cases hk : okQ x z = true <;> simp [hk]
    · rw [par0 hm, m_due_core ha hl ha hl (L := []) (fun u hu => absurd hu (by simp)) (spl1 47 hm) (by cases a <;> simp)]
      unfold dueR
      by_cases hk : Ci a = true <;> simp [hk]
  · rw [m_due_p h ha]
    unfold res
    rw [if_pos h.pos]
    by_cases hk : okP p a = true
    · simp [hk]
    · have hk' : okP p a = false := by simpa using hk
      simp [hk']
/-- what a text says, seen from its number -/
inductive Num (p : Int) (a : List Nat) : D → Prop where
  | p (i : Int) : 0 < p → i.natAbs < 10 ^ 400 → a = numS i → Num p a (.int i)
  | q (n d : Int) : p = 0 → n.natAbs < 10 ^ 400 → d.natAbs < 10 ^ 400 → a = wr n d → Num p a (.tup [.int n, .int d])
theorem res_num {p : Int} (h : Fd p) {a : List Nat} (hl : a.length ≤ 400) {d : D} (e : res p a = some d) : Num p a d := by
  unfold res at e
  rcases h with rfl | h
  · rw [if_neg (by decide)] at e
    by_cases hm : 47 ∈ a
    · obtain ⟨x, z, rfl, hx⟩ := List.eq_append_cons_of_mem hm
      rw [par1 hx] at e
      simp only at e
      simp only [List.length_append, List.length_cons] at hl
      by_cases hk : okQ x z = true
      · rw [if_pos hk] at e
        cases e
        unfold okQ at hk
        simp only [Bool.and_eq_true, decide_eq_true_eq] at hk
        obtain ⟨h1, h2, h3, h4⟩ := hk
        refine .q _ _ rfl (ival_lt h1 (by omega)) (ival_lt h2 (by omega)) ?_
        unfold wr
        rw [if_neg (by omega), Ci_nm h1, Ci_nm h2]
        rfl
      · rw [if_neg hk] at e; cases e
    · rw [par0 hm] at e
      simp only at e
      by_cases hk : Ci a = true
      · rw [if_pos hk] at e
        cases e
        exact .q _ _ rfl (ival_lt hk hl) (by decide +kernel) (by unfold wr; rw [if_pos rfl, Ci_nm hk])
      · rw [if_neg hk] at e; cases e
  · rw [if_pos h.pos] at e
    by_cases hk : okP p a = true
    · rw [if_pos hk] at e
      cases e
      unfold okP at hk
      simp only [Bool.and_eq_true, decide_eq_true_eq] at hk
      exact .p _ h.pos (ival_lt hk.1 hl) (Ci_nm hk.1).symm
    · rw [if_neg hk] at e; cases e
theorem Num.wr {p : Int} {a : List Nat} {d : D} (h : Num p a d) : den_write_number [.int p, d] = .ok (.str (TS a)) := by
  cases h with
  | p i h0 h1 h2 => rw [m_write_p h0 (bz_of (Nat.lt_of_lt_of_le h1 ten_le)), h2]
  | q n d h0 h1 h2 h3 => rw [h0, m_write_q (Nat.lt_of_lt_of_le h1 ten_le) (Nat.lt_of_lt_of_le h2 ten_le), h3]
theorem Num.tx {p : Int} {a : List Nat} {d : D} (h : Num p a d) : den__law_text [.int p, d] = .ok (.str (TS a)) := by
  cases h with
  | p i h0 h1 h2 => rw [m_text_p h0 (bz_of (Nat.lt_of_lt_of_le h1 ten_le)), h2]
  | q n d h0 h1 h2 h3 => rw [h0, m_text_q (Nat.lt_of_lt_of_le h1 ten_le) (Nat.lt_of_lt_of_le h2 ten_le), h3]
theorem Num.imm {p : Int} {a : List Nat} {d : D} (h : Num p a d) : DL.imm d = true ∧ noN d = true ∧ shp d 7 = true := by
  cases h <;> exact ⟨rfl, rfl, rfl⟩
theorem Num.asc {p : Int} {a : List Nat} {d : D} (h : Num p a d) : Asc a := by
  cases h with
  | p i h0 h1 h2 => rw [h2]; exact Asc.num _
  | q n d h0 h1 h2 h3 =>
    rw [h3]; unfold DL.wr
    split
    · exact Asc.num _
    · exact (Asc.num _).app ((Asc.of _ (by decide)).app (Asc.num _))
@[simp] theorem isTbi : isTb "int" "int" = true := by decide
@[simp] theorem isTbt : isTb "tuple" "tuple" = true := by decide
@[simp] theorem isTbl : isTb "list" "list" = true := by decide
@[simp] theorem isTbs : isTb "str" "str" = true := by decide
theorem Num.same {p : Int} {a : List Nat} {d : D} (h : Num p a d) : den__law_same [.int p, d, d] = .ok (.bl true) := by
  cases h with
  | p i h0 h1 h2 => simp [den__law_same, e_run, body__law_same, h0]
  | q n d h0 h1 h2 h3 =>
    subst h0
    simp [den__law_same, e_run, body__law_same, forD]
theorem m_number_told {p : Int} (h : Fd p) {a : List Nat} (ha : Asc a) (hl : a.length ≤ 400) : den__law_number_told [.int p, .str (TS a)] = .ok (.tup [.bl (res p a).isSome, (res p a).getD (.bl true)]) := by
  have hr := m_read h.nn ha hl
  cases e : res p a with
  | some d =>
    rw [e] at hr
    simp only at hr
    simp [den__law_number_told, e_run, body__law_number_told, hr]
  | none =>
    rw [e] at hr
    simp only at hr
    have t : List.lookup "InvalidText" [("InvalidText", true)] = some true := by decide
    have t2 : List.lookup "InvalidText" [("InvalidText", false)] = some false := by decide
    simp [den__law_number_told, e_run, body__law_number_told, hr, tr_ex _ _ _ _ t, e_isE _ t, e_isE _ t2]
theorem m_number_read {p : Int} (h : Fd p) {a : List Nat} (ha : Asc a) (hl : a.length ≤ 400) : den__law_number_read [.int p, .str (TS a)] = .ok (.bl true) := by
  have hd := m_due h ha hl
  have ht := m_number_told h ha hl
  cases e : res p a with
  | some d =>
    have hn := res_num h hl e
    rw [e] at hd ht
    simp [den__law_number_read, e_run, body__law_number_read, hd, ht, hn.wr, hn.same, o_eqT ha ha]
  | none =>
    rw [e] at hd ht
    simp [den__law_number_read, e_run, body__law_number_read, hd, ht]
end DL

set_option maxRecDepth 100001
set_option maxHeartbeats 1000001
set_option exponentiation.threshold 2000
namespace DL
open PySem PySem.Spec PyProof.Rows L2
abbrev lnone : List Nat := [110, 111, 110, 101]
theorem asc_none : Asc lnone := Asc.of _ (by decide)
theorem m_words_of {a : List Nat} (ha : Asc a) (hl : a.length ≤ 100000) : den_words_of [.str (TS a)] = .ok (.lst (if a = lnone then [] else (TL.spl [32] 0 [] a).map dT)) := by
  have es : splD (TS a) (.str (TS [32])) = .ok (.lst ((TL.spl [32] 0 [] a).map dT)) := o_spl hl (by simp) (by decide)
  by_cases h : a = lnone
  · have ht : (a = lnone) = True := eq_true h
    simp [den_words_of, e_run, body_words_of, o_neT ha asc_none, ht]
  · simp [den_words_of, e_run, body_words_of, o_neT ha asc_none, h, es]
def resL (p : Int) : List (List Nat) → Option (List D)
  | [] => some []
  | w :: r => match res p w with
    | some d => (match resL p r with | some ds => some (d :: ds) | none => none)
    | none => none
theorem read_loop {p : Int} (h : Fd p) (A : Option D) : ∀ (ws : List (List Nat)), (∀ w ∈ ws, Asc w ∧ w.length ≤ 400) → compHD [2] (putD 2) (callF den_read_number (consA (nmD 0) (consA (nmD 2) (nilA)))) [some (.int p), A, none] (ws.map dT) = match resL p ws with | some ds => .ok ds | none => .err ⟨"InvalidText"⟩
  | [], _ => rfl
  | w :: r, hw => by
    have hr := m_read h.nn (hw w List.mem_cons_self).1 (hw w List.mem_cons_self).2
    have ih := read_loop h A r fun u hu => hw u (List.mem_cons_of_mem _ hu)
    rw [List.map_cons]
    have hput : putD 2 (dT w) (wipeD [some (.int p), A, none] [2]) = .ok [some (.int p), A, some (dT w)] := by simp [wipeD]
    have hel : callF den_read_number (consA (nmD 0) (consA (nmD 2) (nilA))) [some (.int p), A, some (dT w)] = den_read_number [.int p, .str (TS w)] := by simp [dT]
    unfold compHD resL
    rw [hput]
    simp only [R.ne_ok, R.bind_ok]
    rw [hel, hr]
    cases e : res p w with
    | none => simp
    | some d =>
      simp only [R.bind_ok]
      rw [ih]
      cases e2 : resL p r with
      | none => simp
      | some ds => simp
def words (a : List Nat) : List (List Nat) := if a = lnone then [] else TL.spl [32] 0 [] a
theorem m_read_values {p : Int} (h : Fd p) {a : List Nat} (ha : Asc a) (hl : a.length ≤ 100000) (hw : ∀ w ∈ words a, Asc w ∧ w.length ≤ 400) (hn : (words a).length ≤ 100000) :
    den_read_values [.int p, .str (TS a)] = match resL p (words a) with | some ds => .ok (.lst ds) | none => .err ⟨"InvalidText"⟩ := by
  have e1 := m_words_of ha hl
  have e2 : (if a = lnone then [] else (TL.spl [32] 0 [] a).map dT) = (words a).map dT := by unfold words; split <;> simp
  rw [e2] at e1
  have e3 := read_loop h (some (.str (TS a))) (words a) hw
  rw [den_read_values, e_run]
  unfold body_read_values
  rw [e_ret]
  have e4 : lcHD [2] (itS (callF den_words_of (consA (nmD 1) (nilA)))) (putD 2) (callF den_read_number (consA (nmD 0) (consA (nmD 2) (nilA)))) (startD 3 [.int p, .str (TS a)]) = match resL p (words a) with | some ds => .ok (.lst ds) | none => .err ⟨"InvalidText"⟩ := by
    have e5 : itS (callF den_words_of (consA (nmD 1) (nilA))) (startD 3 [.int p, .str (TS a)]) = .ok ((words a).map dT) := by simp [e1]
    unfold lcHD
    rw [e5]
    simp only [R.bind_ok, List.length_map]
    rw [if_pos (sl_le hn)]
    have e6 : startD 3 [.int p, .str (TS a)] = [some (.int p), some (.str (TS a)), none] := rfl
    rw [e6, e3]
    cases resL p (words a) <;> rfl
  rw [e4]
  cases resL p (words a) with
  | none => simp
  | some ds => simp
noncomputable def bDs : DEnv → Fl := seqF (asgF (callF den__law_due (consA (nmD 0) (consA (nmD 3) (nilA)))) (tupT (consT (putD 4) (consT (putD 5) (nilT))))) (seqF (ifF (notB (toT (nmD 4))) (retF (tupA (consA (cD (.bl false)) (consA (lstA (nilA)) (nilA))))) (nxD)) (seqF (appF 2 (nmD 5)) (nxD)))
theorem dues_loop {p : Int} (h : Fd p) (A : Option D) : ∀ (ws : List (List Nat)) (acc : List D) (x y z : Option D), (∀ w ∈ ws, Asc w ∧ w.length ≤ 400) → acc.length + ws.length ≤ 100000 →
    ∃ x' y' z', forD (putD 3) bDs (ws.map dT) [some (.int p), A, some (.lst acc), x, y, z] = match resL p ws with | some ds => .nx [some (.int p), A, some (.lst (acc ++ ds)), x', y', z'] | none => .rt (.tup [.bl false, .lst []])
  | [], acc, x, y, z, _, _ => ⟨x, y, z, by simp [resL, forD]⟩
  | w :: r, acc, x, y, z, hw, hl => by
    have hr := m_due h (hw w List.mem_cons_self).1 (hw w List.mem_cons_self).2
    have hput : putD 3 (dT w) [some (.int p), A, some (.lst acc), x, y, z] = .ok [some (.int p), A, some (.lst acc), some (dT w), y, z] := by simp
    rw [List.map_cons]
    simp only [List.length_cons] at hl
    cases e : res p w with
    | none =>
      rw [e] at hr
      refine ⟨x, y, z, ?_⟩
      have hb : bDs [some (.int p), A, some (.lst acc), some (dT w), y, z] = .rt (.tup [.bl false, .lst []]) := by simp [bDs, dT, hr]
      unfold forD resL
      rw [hput, e]
      simp only [hb]
    | some d =>
      rw [e] at hr
      obtain ⟨x', y', z', ih⟩ := dues_loop h A r (acc ++ [d]) (some (dT w)) (some (.bl true)) (some d) (fun u hu => hw u (List.mem_cons_of_mem _ hu)) (by simp; omega)
      refine ⟨x', y', z', ?_⟩
      have hz : acc.length < sizeLine := by rw [sizeLine_eq]; omega
      have hb : bDs [some (.int p), A, some (.lst acc), some (dT w), y, z] = .nx [some (.int p), A, some (.lst (acc ++ [d])), some (dT w), some (.bl true), some d] := by simp [bDs, dT, hr, apK2_ok, hz]
      unfold forD resL
      rw [hput, e]
      simp only [hb]
      rw [ih]
      cases e2 : resL p r with
      | none => simp
      | some ds => simp
theorem m_dues {p : Int} (h : Fd p) {a : List Nat} (ha : Asc a) (hl : a.length ≤ 100000) (hw : ∀ w ∈ words a, Asc w ∧ w.length ≤ 400) (hn : (words a).length ≤ 100000) :
    den__law_dues [.int p, .str (TS a)] = .ok (match resL p (words a) with | some ds => .tup [.bl true, .lst ds] | none => .tup [.bl false, .lst []]) := by
  by_cases hnone : a = lnone
  · have ht : (a = lnone) = True := eq_true hnone
    have hwd : words a = [] := by unfold words; rw [if_pos hnone]
    rw [hwd]
    simp [den__law_dues, e_run, body__law_dues, o_eqT ha asc_none, ht, resL]
  · have hwd : words a = TL.spl [32] 0 [] a := by unfold words; rw [if_neg hnone]
    have es : splD (TS a) (.str (TS [32])) = .ok (.lst ((words a).map dT)) := by rw [hwd]; exact o_spl hl (by simp) (by decide)
    obtain ⟨x, y, z, e⟩ := dues_loop h (some (.str (TS a))) (words a) [] none none none hw (by simpa using hn)
    have hb : body__law_dues = seqF (ifF (toB (b2 eqD (nmD 1) (cD (.str (PySem.Str.ofString "none"))))) (retF (tupA (consA (cD (.bl true)) (consA (lstA (nilA)) (nilA))))) (nxD)) (seqF (setF 2 (lstA (nilA))) (seqF (forF (itS (m1D splD (nmD 1) (cD (.str (PySem.Str.ofString " "))))) (putD 3) bDs) (retF (tupA (consA (cD (.bl true)) (consA (nmD 2) (nilA))))))) := rfl
    rw [den__law_dues, e_run, hb]
    cases e2 : resL p (words a) with
    | none =>
      rw [e2] at e
      simp [o_eqT ha asc_none, hnone, es, e]
    | some ds =>
      rw [e2] at e
      simp [o_eqT ha asc_none, hnone, es, e]
end DL

set_option maxRecDepth 100001
set_option maxHeartbeats 1000001
set_option exponentiation.threshold 2000
namespace DL
open PySem PySem.Spec PyProof.Rows L2
theorem join_spl (s : Nat) : ∀ (n : Nat) (a : List Nat), a.length ≤ n → TL.joinL [s] (TL.spl [s] 0 [] a) = a := by
  intro n
  induction n with
  | zero =>
    intro a ha
    have : a = [] := List.length_eq_zero_iff.mp (by omega)
    subst this
    rw [spl1 s (by simp)]; rfl
  | succ n ih =>
    intro a ha
    by_cases hm : s ∈ a
    · obtain ⟨x, z, rfl, hx⟩ := List.eq_append_cons_of_mem hm
      rw [spl2 s hx]
      simp only [List.length_append, List.length_cons] at ha
      have := ih z (by omega)
      cases q : TL.spl [s] 0 [] z with
      | nil => exact absurd q (spl_ne s z)
      | cons u r =>
        rw [q] at this
        show x ++ ([s] ++ TL.joinL [s] (u :: r)) = _
        rw [this]; rfl
    · rw [spl1 s hm]; rfl
/-- the words joined -/
def textOf (ws : List (List Nat)) : List Nat := if ws = [] then lnone else TL.joinL [32] ws
theorem text_words (a : List Nat) : textOf (words a) = a := by
  unfold textOf words
  by_cases h : a = lnone
  · rw [if_pos h, if_pos rfl, h]
  · rw [if_neg h, if_neg (spl_ne 32 a), join_spl 32 _ a (Nat.le_refl _)]
inductive Nums (p : Int) : List (List Nat) → List D → Prop where
  | nil : Nums p [] []
  | cons {w : List Nat} {ws : List (List Nat)} {d : D} {ds : List D} : Num p w d → Nums p ws ds → Nums p (w :: ws) (d :: ds)
theorem resL_nums {p : Int} (h : Fd p) : ∀ {ws : List (List Nat)} {ds : List D}, (∀ w ∈ ws, w.length ≤ 400) → resL p ws = some ds → Nums p ws ds
  | [], ds, _, e => by cases e; exact .nil
  | w :: r, ds, hw, e => by
    unfold resL at e
    cases q : res p w with
    | none => rw [q] at e; cases e
    | some d =>
      rw [q] at e
      simp only at e
      cases q2 : resL p r with
      | none => rw [q2] at e; cases e
      | some es =>
        rw [q2] at e
        cases e
        exact .cons (res_num h (hw w List.mem_cons_self) q) (resL_nums h (fun u hu => hw u (List.mem_cons_of_mem _ hu)) q2)
theorem Nums.len {p : Int} {ws : List (List Nat)} {ds : List D} (h : Nums p ws ds) : ds.length = ws.length := by
  induction h with
  | nil => rfl
  | cons _ _ ih => simp [ih]
theorem Nums.good {p : Int} {ws : List (List Nat)} {ds : List D} (h : Nums p ws ds) : immL ds = true ∧ noNL ds = true ∧ shpL ds 7 = true := by
  induction h with
  | nil => exact ⟨rfl, rfl, rfl⟩
  | cons h _ ih =>
    refine ⟨?_, ?_, ?_⟩
    · rw [immL, h.imm.1, ih.1]; rfl
    · rw [noNL, h.imm.2.1, ih.2.1]; rfl
    · rw [shpL, h.imm.2.2, ih.2.2]; rfl
theorem Nums.at {p : Int} {ws : List (List Nat)} {ds : List D} (h : Nums p ws ds) : ∀ i : Nat, i < ds.length → ∃ w d, ds[i]? = some d ∧ ws[i]? = some w ∧ Num p w d := by
  induction h with
  | nil => intro i hi; exact absurd hi (by simp)
  | cons h _ ih =>
    intro i hi
    cases i with
    | zero => exact ⟨_, _, rfl, rfl, h⟩
    | succ i =>
      obtain ⟨w, d, h1, h2, h3⟩ := ih i (by simpa using hi)
      exact ⟨w, d, by simpa using h1, by simpa using h2, h3⟩
theorem asStrs_dT : ∀ ws : List (List Nat), asStrs (ws.map dT) = some (ws.map TS)
  | [] => rfl
  | w :: r => by
    rw [List.map_cons, List.map_cons]
    show (asStrs (r.map dT)).map (TS w :: ·) = _
    rw [asStrs_dT r]; rfl
theorem shp_dT {ws : List (List Nat)} (h : ∀ w ∈ ws, Asc w) : ∀ n, shpL (ws.map dT) n = true := by
  intro n
  induction ws with
  | nil => rfl
  | cons w r ih =>
    rw [List.map_cons, shpL, ih fun u hu => h u (List.mem_cons_of_mem _ hu)]
    have : shp (dT w) n = true := by unfold dT; rw [shp]; exact strOk_asc (h w List.mem_cons_self)
    rw [this]; rfl
theorem joinL_len : ∀ ws : List (List Nat), (ws.map (·.length)).sum + ws.length ≤ (TL.joinL [32] ws).length + 1
  | [] => by simp
  | [w] => by simp [TL.joinL]
  | w :: u :: r => by
    have ih := joinL_len (u :: r)
    show _ ≤ (w ++ ([32] ++ TL.joinL [32] (u :: r))).length + 1
    simp only [List.map_cons, List.sum_cons, List.length_cons, List.length_append, List.length_nil] at ih ⊢
    omega
theorem o_join {ws : List (List Nat)} (h : (TL.joinL [32] ws).length ≤ 100000) : joiD (TS [32]) (.lst (ws.map dT)) = .ok (.str (TS (TL.joinL [32] ws))) := by
  unfold joiD
  simp only
  rw [asStrs_dT]
  simp only
  have e : ((ws.map TS).map (·.length)).sum = (ws.map (·.length)).sum := by rw [SX.lens]
  have := joinL_len ws
  rw [if_pos (by rw [e, SX.S_len, List.length_map, List.length_singleton, Nat.mul_one]; omega), SX.join_S]
theorem ne_nil {ws : List (List Nat)} (h : ∀ w ∈ ws, Asc w) : neD (.lst (ws.map dT)) (.lst []) = .ok (.bl (!decide (ws = []))) := by
  unfold neD
  rw [if_pos ⟨by rw [shp]; exact shp_dT h 7, rfl⟩, eqv_lst]
  cases ws with
  | nil => simp [toPyL, PyData.eqvAll]
  | cons w r => simp [toPyL, PyData.eqvAll]
theorem m_write_words {ws : List (List Nat)} (h : ∀ w ∈ ws, Asc w) (hl : (textOf ws).length ≤ 100000) : den_write_words [.lst (ws.map dT)] = .ok (.str (TS (textOf ws))) := by
  have e := ne_nil h
  unfold textOf at hl ⊢
  by_cases hn : ws = []
  · subst hn
    simp only [List.map_nil, decide_true, Bool.not_true] at e
    simp [den_write_words, e_run, body_write_words, e]
  · rw [if_neg hn] at hl ⊢
    have hd : decide (ws = []) = false := decide_eq_false hn
    rw [hd] at e
    simp [den_write_words, e_run, body_write_words, e, o_join hl]
theorem m_write_values {p : Int} {ws : List (List Nat)} {ds : List D} (h : Nums p ws ds) (hl : (textOf ws).length ≤ 100000) (hn : ws.length ≤ 100000) : den_write_values [.int p, .lst ds] = .ok (.str (TS (textOf ws))) := by
  have ha : ∀ w ∈ ws, Asc w := by
    clear hl hn
    induction h with
    | nil => intro w hw; exact nomatch hw
    | cons h _ ih =>
      intro w hw
      rcases List.mem_cons.mp hw with rfl | hw
      · exact h.asc
      · exact ih w hw
  have hw := m_write_words ha hl
  have e : lcD [2] (itS (nmD 1)) (putD 2) (yesB) (callF den_write_number (consA (nmD 0) (consA (nmD 2) (nilA)))) [some (.int p), some (.lst ds), none] = .ok (.lst (ws.map dT)) := by
    have key : ∀ {ws : List (List Nat)} {es : List D}, Nums p ws es → compD [2] (putD 2) yesB (callF den_write_number (consA (nmD 0) (consA (nmD 2) (nilA)))) [some (.int p), some (.lst ds), none] es = .ok (ws.map dT) := by
      intro ws es hh
      induction hh with
      | nil => rfl
      | cons h _ ih =>
        rename_i w ws d es _
        have hput : putD 2 d (wipeD [some (.int p), some (.lst ds), none] [2]) = .ok [some (.int p), some (.lst ds), some d] := by simp [wipeD]
        unfold compD
        rw [hput]
        simp only [R.bind_ok, yesB, if_true]
        have hel : callF den_write_number (consA (nmD 0) (consA (nmD 2) (nilA))) [some (.int p), some (.lst ds), some d] = .ok (dT w) := by simp [h.wr, dT]
        rw [hel]
        simp only [R.bind_ok, ih]
        rfl
    have hi : itS (nmD 1) [some (.int p), some (.lst ds), none] = .ok ds := by simp
    unfold lcD
    rw [hi]
    simp only [R.bind_ok]
    rw [key h]
    simp only [R.ne_ok, R.bind_ok, List.length_map]
    rw [if_pos (sl_le hn)]
  rw [den_write_values, e_run]
  unfold body_write_values
  have e0 : startD 3 [.int p, .lst ds] = [some (.int p), some (.lst ds), none] := rfl
  rw [e0, e_ret, e_call, e_cons, e, e_nil, cons_ok, R.bind_ok, hw]
  rfl
theorem o_nest {ds : List D} (h : noNL ds = true) : nestD (.lst ds) = .ok (.nst ds) := by unfold nestD; simp only; rw [if_pos h]
theorem o_top {ds : List D} (h : noNL ds = true) : topD (.nst ds) = .ok (.lst ds) := by unfold topD; simp only; rw [if_pos h]
@[simp] theorem o_topb (b : Bool) : topD (.bl b) = .ok (.bl b) := rfl
@[simp] theorem e_flat (f : DEnv → R D) (δ : DEnv) : flatE f δ = (f δ).bind fun d => if noN d = true then .ok d else .stk := rfl
@[simp] theorem e_newE (f : DEnv → R D) (δ : DEnv) : newE f δ = (f δ).bind nestD := rfl
@[simp] theorem e_isLst (f : DEnv → R D) (δ : DEnv) : isLst f δ = (f δ).bind fun d => if isTop d = true then .ok d else .stk := rfl
@[simp] theorem e_chkImm (f : DEnv → R D) (δ : DEnv) : chkImm f δ = (f δ).bind fun d => if imm d = true then .ok d else .stk := rfl
theorem m_values_told {p : Int} (h : Fd p) {a : List Nat} (ha : Asc a) (hl : a.length ≤ 100000) (hw : ∀ w ∈ words a, Asc w ∧ w.length ≤ 400) (hn : (words a).length ≤ 100000) :
    den__law_values_told [.int p, .str (TS a)] = .ok (match resL p (words a) with | some ds => .tup [.bl true, .nst ds] | none => .tup [.bl false, .bl true]) := by
  have hr := m_read_values h ha hl hw hn
  cases e : resL p (words a) with
  | some ds =>
    have hg := (resL_nums h (fun w hu => (hw w hu).2) e).good
    rw [e] at hr
    simp only at hr
    simp [den__law_values_told, e_run, body__law_values_told, hr, o_nest hg.2.1, isTop, noN]
  | none =>
    rw [e] at hr
    simp only at hr
    have t : List.lookup "InvalidText" [("InvalidText", true)] = some true := by decide
    have t2 : List.lookup "InvalidText" [("InvalidText", false)] = some false := by decide
    simp [den__law_values_told, e_run, body__law_values_told, hr, tr_ex _ _ _ _ t, e_isE _ t, e_isE _ t2, imm, immL, noN]
end DL

set_option maxRecDepth 100001
set_option maxHeartbeats 1000001
set_option exponentiation.threshold 2000
namespace DL
open PySem PySem.Spec PyProof.Rows L2
theorem rgK_nat {n : Nat} (h : n ≤ 1000000) : rgK [.int ((n : Nat) : Int)] = .ok (intsFrom 0 n) := by
  have := rgK_ok (j := ((n : Nat) : Int)) (by omega) (by omega)
  simpa using this
@[simp] theorem e_unp (i j : Nat) (f : DEnv → R D) (δ : DEnv) : unpF i j f δ = (f δ).wi (fun d δ => match d with
  | .tup [a, b] => if i < δ.length ∧ j < δ.length then (match topD b with | .ok b' => .nx ((δ.set i (some a)).set j (some b')) | _ => .stk) else .stk
  | _ => .stk) δ := e_with _ _ _
noncomputable def bVR : DEnv → Fl := seqF (ifF (notB (toT (callF den__law_same (consA (nmD 0) (consA (b2 idxD (nmD 7) (nmD 2)) (consA (b2 idxD (nmD 5) (nmD 2)) (nilA))))))) (retF (cD (.bl false))) (nxD)) (nxD)
theorem vr_loop {p : Int} {A : Option D} {ws : List (List Nat)} {ds : List D} (h : Nums p ws ds) (e : List (Option D) × Unit := ([], ())) : ∀ (n k : Nat) (x y z w : Option D), n + k = ds.length → ∃ x', forD (putD 2) bVR ((List.range' k n).map fun i : Nat => D.int i) [some (.int p), A, x, y, z, some (.lst ds), w, some (.lst ds)] = .nx [some (.int p), A, x', y, z, some (.lst ds), w, some (.lst ds)] := by
  intro n
  induction n with
  | zero => intro k x y z w _; exact ⟨x, rfl⟩
  | succ n ih =>
    intro k x y z w hk
    obtain ⟨x', e'⟩ := ih (k + 1) (some (.int k)) y z w (by omega)
    refine ⟨x', ?_⟩
    obtain ⟨u, d, h1, _, h3⟩ := h.at k (by omega)
    rw [List.range'_succ, List.map_cons]
    unfold forD
    have hput : putD 2 (D.int k) [some (.int p), A, x, y, z, some (.lst ds), w, some (.lst ds)] = .ok [some (.int p), A, some (.int k), y, z, some (.lst ds), w, some (.lst ds)] := by simp
    have hi : idxD (.lst ds) (.int k) = .ok d := idx_lst (by omega) (by simpa using h1)
    have hb : bVR [some (.int p), A, some (.int k), y, z, some (.lst ds), w, some (.lst ds)] = .nx [some (.int p), A, some (.int k), y, z, some (.lst ds), w, some (.lst ds)] := by simp [bVR, hi, h3.same]
    rw [hput]
    simp only [hb]
    exact e'
theorem ints_range (n : Nat) : intsFrom 0 n = (List.range' 0 n).map fun i : Nat => D.int i := by
  rw [ints_map, List.map_map, List.range_eq_range']
  rfl
theorem m_values_read {p : Int} (h : Fd p) {a : List Nat} (ha : Asc a) (hl : a.length ≤ 100000) (hw : ∀ w ∈ words a, Asc w ∧ w.length ≤ 400) (hn : (words a).length ≤ 100000) :
    den__law_values_read [.int p, .str (TS a)] = .ok (.bl true) := by
  have hd := m_dues h ha hl hw hn
  have ht := m_values_told h ha hl hw hn
  have hr := m_read_values h ha hl hw hn
  have hb : body__law_values_read = seqF (asgF (callF den__law_dues (consA (nmD 0) (consA (nmD 1) (nilA)))) (tupT (consT (putD 4) (consT (putD 5) (nilT))))) (seqF (unpF 6 7 (callF den__law_values_told (consA (nmD 0) (consA (nmD 1) (nilA))))) (seqF (ifF (notB (toT (nmD 4))) (retF (andV (u1 notD (nmD 6)) (nmD 7))) (nxD)) (seqF (ifF (orB (notB (toT (nmD 6))) (orB (notB (toT (u1 (isiD "list") (nmD 7)))) (toB (b2 neD (callF lenD (consA (nmD 7) (nilA))) (callF lenD (consA (nmD 5) (nilA))))))) (retF (cD (.bl false))) (nxD)) (seqF (forF (rng1 (consA (callF lenD (consA (nmD 5) (nilA))) (nilA))) (putD 2) bVR) (seqF (ifF (toB (b2 neD (callF den_write_values (consA (nmD 0) (consA (nmD 7) (nilA)))) (nmD 1))) (retF (cD (.bl false))) (nxD)) (seqF (appF 7 (ifV (toB (b2 gtD (callF lenD (consA (nmD 7) (nilA))) (cD (.int 0)))) (b2 idxD (nmD 7) (cD (.int 0))) (cD (.int 0)))) (seqF (setF 3 (callF den_read_values (consA (nmD 0) (consA (nmD 1) (nilA))))) (retF (andV (u1 (isiD "list") (nmD 3)) (b2 eqD (nmD 3) (nmD 5))))))))))) := rfl
  rw [den__law_values_read, e_run, hb]
  cases e : resL p (words a) with
  | none =>
    rw [e] at hd ht
    simp [hd, ht]
  | some ds =>
    have hN := resL_nums h (fun w hu => (hw w hu).2) e
    have hg := hN.good
    have hlen := hN.len
    rw [e] at hd ht hr
    simp only at hd ht hr
    obtain ⟨x, ef⟩ := vr_loop (A := some (.str (TS a))) hN ([], ()) ds.length 0 none none (some (.bl true)) (some (.bl true)) (by omega)
    rw [← ints_range] at ef
    have er := rgK_nat (n := ds.length) (by omega)
    have ew := m_write_values hN (by rw [text_words]; exact hl) hn
    rw [text_words] at ew
    have hz : ds.length < sizeLine := by rw [sizeLine_eq]; omega
    have eq : eqD (.lst ds) (.lst ds) = .ok (.bl true) := eqD_refl (by rw [shp]; exact hg.2.2)
    cases ds with
    | nil =>
      have hz0 : 0 < sizeLine := by rw [sizeLine_eq]; decide
      simp only [List.length_nil] at er ef
      have er : rgK [.int 0] = .ok (intsFrom 0 0) := er
      simp [hd, ht, o_top hg.2.1, er, ef, ew, o_neT ha ha, hr, eq, apK2_ok, hz0]
    | cons d r =>
      have hpos : (0 : Int) < (r.length : Int) + 1 := by omega
      simp only [List.length_cons] at er ef hz
      have er : rgK [.int ((r.length : Int) + 1)] = .ok (intsFrom 0 (r.length + 1)) := er
      simp [hd, ht, o_top hg.2.1, er, ef, ew, o_neT ha ha, hr, eq, apK2_ok, hz, hpos]
end DL

set_option maxRecDepth 100001
set_option maxHeartbeats 1000001
namespace DL
open PySem PySem.Spec PyProof.Rows L2
def Pv (ps : List Int) : Prop := ∀ v ∈ ps, 0 ≤ v ∧ v < 1000
theorem Pv.app {ps : List Int} {v : Int} (h : Pv ps) (h1 : 0 ≤ v) (h2 : v < 1000) : Pv (ps ++ [v]) := by
  intro w hw
  rcases List.mem_append.mp hw with q | q
  · exact h w q
  · rw [List.mem_singleton.mp q]
    exact ⟨h1, h2⟩
theorem d7 : divOk 7 = true := by decide
theorem d11 : divOk 11 = true := by decide
theorem d1000 : divOk 1000 = true := by decide
theorem pw18 : powD (.int 10) (.int 18) = .ok (.int 1000000000000000000) := by
  show (if (0 : Int) ≤ 18 ∧ (18 : Int) ≤ 1000000 ∧ (10 : Int).natAbs < 2 ^ 64 then R.ok (D.int ((10 : Int) ^ (18 : Int).toNat)) else .stk) = _
  rw [if_pos (by decide)]
  rfl
theorem sz_lt {n : Nat} (h : n ≤ 300000) : n < sizeLine := by rw [sizeLine_eq]; omega
/-- the pool's state: so many items may still come -/
def IP (c : Nat) (S : D) (b : Nat) (δ : DEnv) : Prop := ∃ (ps : List Int) (t : Int) (c4 c5 c6 c7 : Option D), δ = [some S, some (.int c), some (.lst (ps.map D.int)), some (.int t), c4, c5, c6, c7] ∧ Pv ps ∧ ps.length + b ≤ 200000
def IP1 (c : Nat) (S : D) (b : Nat) (ds : List D) (δ : DEnv) : Prop := ∃ (ps : List Int) (t l : Int) (c4 c5 c7 : Option D), δ = [some S, some (.int c), some (.lst (ps.map D.int)), some (.int t), c4, c5, some (.int l), c7] ∧ Pv ps ∧ ps.length + b + ds.length ≤ 200000
def IP2 (c : Nat) (S : D) (b : Nat) (ds : List D) (δ : DEnv) : Prop := ∃ (ps : List Int) (t m : Int) (c4 c5 c6 : Option D), δ = [some S, some (.int c), some (.lst (ps.map D.int)), some (.int t), c4, c5, c6, some (.int m)] ∧ Pv ps ∧ ps.length + b + ds.length ≤ 200000
def IP3 (c : Nat) (S : D) (ds : List D) (δ : DEnv) : Prop := ∃ (ps : List Int) (t : Int) (c4 c5 c6 c7 : Option D), δ = [some S, some (.int c), some (.lst (ps.map D.int)), some (.int t), c4, c5, c6, c7] ∧ Pv ps ∧ ps.length + ds.length ≤ 200000 ∧ c ≤ ps.length + ds.length
def bP1 : DEnv → Fl := seqF (ifF (toB (b2 gtD (nmD 6) (cD (.int 0)))) (seqF (appF 2 (b2 modD (nmD 6) (cD (.int 1000)))) (seqF (setF 6 (b2 fdivD (nmD 6) (cD (.int 1000)))) (nxD))) (nxD)) (nxD)
theorem sP1 (c : Nat) (S : D) (b : Nat) (q : D) (ds : List D) (δ : DEnv) (h : IP1 c S b (q :: ds) δ) : ∃ δ1 δ2, putD 5 q δ = .ok δ1 ∧ (bP1 δ1 = .nx δ2 ∨ bP1 δ1 = .ct δ2) ∧ IP1 c S b ds δ2 := by
  obtain ⟨ps, t, l, c4, c5, c7, rfl, hp, hl⟩ := h
  simp only [List.length_cons] at hl
  have hz : ps.length < sizeLine := sz_lt (by omega)
  by_cases h0 : 0 < l
  · refine ⟨_, _, by simp; rfl, .inl (by simp [bP1, h0, o_modp, o_fdivp, d1000, apK2_ok, hz]; rfl), ps ++ [l % 1000], t, l / 1000, c4, some q, c7, by simp, hp.app (by omega) (by omega), by simp; omega⟩
  · refine ⟨_, _, by simp; rfl, .inl (by simp [bP1, h0]; rfl), ps, t, l, c4, some q, c7, by simp, hp, by omega⟩
def bP2 : DEnv → Fl := seqF (setF 7 (b2 modD (callF intAD (consA (b2 addD (b2 mulD (nmD 7) (cD (.int 48271))) (cD (.int 11))) (nilA))) (cD (.int 2147483647)))) (seqF (appF 2 (b2 modD (b2 fdivD (nmD 7) (cD (.int 7))) (cD (.int 1000)))) (nxD))
theorem sP2 (c : Nat) (S : D) (b : Nat) (q : D) (ds : List D) (δ : DEnv) (h : IP2 c S b (q :: ds) δ) : ∃ δ1 δ2, putD 5 q δ = .ok δ1 ∧ (bP2 δ1 = .nx δ2 ∨ bP2 δ1 = .ct δ2) ∧ IP2 c S b ds δ2 := by
  obtain ⟨ps, t, m, c4, c5, c6, rfl, hp, hl⟩ := h
  simp only [List.length_cons] at hl
  have hz : ps.length < sizeLine := sz_lt (by omega)
  refine ⟨_, _, by simp; rfl, .inl (by simp [bP2, o_modp, o_fdivp, d7, o_mul, mulOk_r, apK2_ok, hz]; rfl), ps ++ [(m * 48271 + 11) % 2147483647 / 7 % 1000], t, (m * 48271 + 11) % 2147483647, c4, some q, c6, by simp, hp.app (by omega) (by omega), by simp; omega⟩
def bP3 : DEnv → Fl := seqF (setF 3 (b2 modD (callF intAD (consA (b2 addD (b2 mulD (nmD 3) (cD (.int 69621))) (cD (.int 13))) (nilA))) (cD (.int 2147483629)))) (seqF (appF 2 (b2 modD (b2 fdivD (nmD 3) (cD (.int 11))) (cD (.int 1000)))) (nxD))
theorem sP3 (c : Nat) (S : D) (q : D) (ds : List D) (δ : DEnv) (h : IP3 c S (q :: ds) δ) : ∃ δ1 δ2, putD 5 q δ = .ok δ1 ∧ (bP3 δ1 = .nx δ2 ∨ bP3 δ1 = .ct δ2) ∧ IP3 c S ds δ2 := by
  obtain ⟨ps, t, c4, c5, c6, c7, rfl, hp, hl, h60⟩ := h
  simp only [List.length_cons] at hl h60
  have hz : ps.length < sizeLine := sz_lt (by omega)
  refine ⟨_, _, by simp; rfl, .inl (by simp [bP3, o_modp, o_fdivp, d11, o_mul, mulOk_r, apK2_ok, hz]; rfl), ps ++ [(t * 69621 + 13) % 2147483629 / 11 % 1000], (t * 69621 + 13) % 2147483629, c4, some q, c6, c7, by simp, hp.app (by omega) (by omega), by simp; omega, by simp; omega⟩
noncomputable def bP0 : DEnv → Fl := seqF (setF 6 (ifV (toB (b2 geD (nmD 4) (cD (.int 0)))) (b2 mulD (cD (.int 2)) (callF intAD (consA (nmD 4) (nilA)))) (b2 subD (b2 mulD (u1 negD (cD (.int 2))) (callF intAD (consA (nmD 4) (nilA)))) (cD (.int 1))))) (seqF (setF 3 (b2 modD (callF intAD (consA (b2 addD (b2 mulD (nmD 3) (cD (.int 31))) (nmD 6)) (nilA))) (cD (.int 2147483629)))) (seqF (ifF (toB (b2 geD (nmD 6) (b2 powD (cD (.int 10)) (cD (.int 18))))) (seqF (forF (rng1 (consA (nmD 1) (nilA))) (putD 5) bP1) (nxD)) (seqF (setF 7 (b2 modD (callF intAD (consA (b2 addD (b2 mulD (b2 addD (nmD 6) (cD (.int 5))) (cD (.int 40692))) (cD (.int 977))) (nilA))) (cD (.int 2147483399)))) (seqF (forF (rng1 (consA (cD (.int 6)) (nilA))) (putD 5) bP2) (nxD)))) (nxD)))
theorem rgK_n {n : Nat} (h : n ≤ 1000000) : rgK [.int ((n : Nat) : Int)] = .ok (intsFrom 0 n) := by
  have := rgK_ok (j := ((n : Nat) : Int)) (by omega) (by omega)
  simpa using this
theorem r6 : rgK [.int 6] = .ok (intsFrom 0 6) := rgK_ok (by decide) (by decide)
noncomputable def bP0' : DEnv → Fl := seqF (setF 3 (b2 modD (callF intAD (consA (b2 addD (b2 mulD (nmD 3) (cD (.int 31))) (nmD 6)) (nilA))) (cD (.int 2147483629)))) (seqF (ifF (toB (b2 geD (nmD 6) (b2 powD (cD (.int 10)) (cD (.int 18))))) (seqF (forF (rng1 (consA (nmD 1) (nilA))) (putD 5) bP1) (nxD)) (seqF (setF 7 (b2 modD (callF intAD (consA (b2 addD (b2 mulD (b2 addD (nmD 6) (cD (.int 5))) (cD (.int 40692))) (cD (.int 977))) (nilA))) (cD (.int 2147483399)))) (seqF (forF (rng1 (consA (cD (.int 6)) (nilA))) (putD 5) bP2) (nxD)))) (nxD))
theorem sP0' (c : Nat) (hc : c ≤ 1000) (S : D) (b : Nat) (ps : List Int) (t l : Int) (c4 c5 c7 : Option D) (hp : Pv ps) (hl : ps.length + (b + (c + 6)) ≤ 200000) :
    ∃ δ2, bP0' [some S, some (.int c), some (.lst (ps.map D.int)), some (.int t), c4, c5, some (.int l), c7] = .nx δ2 ∧ IP c S b δ2 := by
  have r60 := rgK_n (n := c) (by omega)
  by_cases h : 1000000000000000000 ≤ l
  · obtain ⟨δ', e, ps', t', l', c4', c5', c7', rfl, hp', hl'⟩ := for_thru (IP1 c S b) (sP1 c S b) (intsFrom 0 c) [some S, some (.int c), some (.lst (ps.map D.int)), some (.int ((t * 31 + l) % 2147483629)), c4, c5, some (.int l), c7]
      ⟨ps, _, l, c4, c5, c7, rfl, hp, by rw [ints_len]; omega⟩
    refine ⟨_, by simp [bP0', o_modp, o_mul, mulOk_r, pw18, h, r60, e], ps', t', c4', c5', some (.int l'), c7', rfl, hp', by simp at hl'; omega⟩
  · obtain ⟨δ', e, ps', t', l', c4', c5', c6', rfl, hp', hl'⟩ := for_thru (IP2 c S b) (sP2 c S b) (intsFrom 0 6) [some S, some (.int c), some (.lst (ps.map D.int)), some (.int ((t * 31 + l) % 2147483629)), c4, c5, some (.int l), some (.int (((l + 5) * 40692 + 977) % 2147483399))]
      ⟨ps, _, _, c4, c5, some (.int l), rfl, hp, by rw [ints_len]; omega⟩
    refine ⟨_, by simp [bP0', o_modp, o_mul, mulOk_r, pw18, h, r6, e], ps', t', c4', c5', c6', some (.int l'), rfl, hp', by simp at hl'; omega⟩
def IPs (c : Nat) (S : D) (ds : List D) (δ : DEnv) : Prop := IP c S ((c + 6) * ds.length + (c + 100)) δ ∧ ∀ q ∈ ds, ∃ i : Int, q = .int i
theorem sP0 (c : Nat) (hc : c ≤ 1000) (S : D) (q : D) (ds : List D) (δ : DEnv) (h : IPs c S (q :: ds) δ) : ∃ δ1 δ2, putD 4 q δ = .ok δ1 ∧ (bP0 δ1 = .nx δ2 ∨ bP0 δ1 = .ct δ2) ∧ IPs c S ds δ2 := by
  obtain ⟨⟨ps, t, c4, c5, c6, c7, rfl, hp, hl⟩, hq⟩ := h
  simp only [List.length_cons, Nat.mul_succ] at hl
  obtain ⟨i, rfl⟩ := hq _ List.mem_cons_self
  have key : ∃ l : Int, bP0 [some S, some (.int c), some (.lst (ps.map D.int)), some (.int t), some (.int i), c5, c6, c7] = bP0' [some S, some (.int c), some (.lst (ps.map D.int)), some (.int t), some (.int i), c5, some (.int l), c7] := by
    by_cases h : 0 ≤ i
    · exact ⟨2 * i, by unfold bP0 bP0'; rw [e_seq]; simp only [e_set, e_ifV]; simp [o_mul, mulOk_l, h, -e_seq, -e_if]⟩
    · exact ⟨-2 * i - 1, by unfold bP0 bP0'; rw [e_seq]; simp only [e_set, e_ifV]; simp [o_mul, mulOk_l, h, -e_seq, -e_if]⟩
  obtain ⟨l, hl2⟩ := key
  obtain ⟨δ2, e2, h2⟩ := sP0' c hc S ((c + 6) * ds.length + (c + 100)) ps t l (some (.int i)) c5 c7 hp (by omega)
  exact ⟨_, δ2, by simp, .inl (hl2.trans e2), h2, fun q hq' => hq q (List.mem_cons_of_mem _ hq')⟩
theorem cutL_to {α : Type} {n : Nat} (xs : List α) : cutL xs none (some (n : Int)) = xs.take n := by
  unfold cutL
  rw [HT.sIx_none, HT.sIx_nat, List.drop_zero, Nat.sub_zero]
  by_cases h : n ≤ xs.length
  · rw [Nat.min_eq_left h]
  · rw [Nat.min_eq_right (by omega), List.take_of_length_le (Nat.le_refl _), List.take_of_length_le (by omega)]
theorem m_pool {c : Nat} (hc : c ≤ 1000) {ns : List Int} (hn : ns.length ≤ 63) : ∃ ps : List Int, den__law_pool [.scr (ns.map D.int), .int c] = .ok (.lst (ps.map D.int)) ∧ ps.length = c ∧ Pv ps := by
  have hmul : (c + 6) * ns.length ≤ 1006 * 63 := Nat.mul_le_mul (by omega) hn
  have r60 := rgK_n (n := c) (by omega)
  obtain ⟨δ1, e1, ⟨ps, t, c4, c5, c6, c7, rfl, hp, hl⟩, _⟩ := for_thru (IPs c (.scr (ns.map D.int))) (sP0 c hc (.scr (ns.map D.int))) (ns.map D.int) [some (.scr (ns.map D.int)), some (.int c), some (.lst []), some (.int 7), none, none, none, none]
    ⟨⟨[], 7, none, none, none, none, rfl, fun _ h => absurd h (List.not_mem_nil), by simp only [List.length_nil, List.length_map]; omega⟩, fun q hq => by
      obtain ⟨i, _, rfl⟩ := List.mem_map.mp hq
      exact ⟨i, rfl⟩⟩
  obtain ⟨δ2, e2, ps2, t2, d4, d5, d6, d7, rfl, hp2, hl2, h60⟩ := for_thru (IP3 c (.scr (ns.map D.int))) (sP3 c (.scr (ns.map D.int))) (intsFrom 0 c) [some (.scr (ns.map D.int)), some (.int c), some (.lst (ps.map D.int)), some (.int t), c4, c5, c6, c7]
    ⟨ps, t, c4, c5, c6, c7, rfl, hp, by rw [ints_len]; simp at hl; omega, by rw [ints_len]; omega⟩
  have hb : body__law_pool = seqF (setF 2 (lstA nilA)) (seqF (setF 3 (cD (.int 7))) (seqF (forF (itS (nmD 0)) (putD 4) bP0) (seqF (forF (rng1 (consA (nmD 1) nilA)) (putD 5) bP3) (retF (sl3 cutD (nmD 2) noP (someP (nmD 1))))))) := rfl
  refine ⟨ps2.take c, ?_, by simp at h60; simp; omega, fun v hv => hp2 v (List.mem_of_mem_take hv)⟩
  have e3 : sl3 cutD (nmD 2) noP (someP (nmD 1)) [some (.scr (ns.map D.int)), some (.int c), some (.lst (ps2.map D.int)), some (.int t2), d4, d5, d6, d7] = .ok (.lst ((ps2.take c).map D.int)) := by
    show R.ok (D.lst (cutL (ps2.map D.int) none (some (c : Int)))) = _
    rw [cutL_to (n := c) (ps2.map D.int), List.map_take]
  rw [den__law_pool, e_run, hb]
  simp [e1, r60, e2, e3, -e_sl3]
end DL

set_option maxRecDepth 100001
set_option maxHeartbeats 1000001
set_option exponentiation.threshold 2000
namespace DL
open PySem PySem.Spec PyProof.Rows L2
/-- no word is longer than L -/
def WB (L : Nat) (a : List Nat) : Prop := ∀ w ∈ TL.spl [32] 0 [] a, w.length ≤ L
theorem WB.mono {L M : Nat} {a : List Nat} (h : WB L a) (hm : L ≤ M) : WB M a := fun w hw => Nat.le_trans (h w hw) hm
theorem WB.of_len {L : Nat} {a : List Nat} (h : a.length ≤ L) : WB L a := fun w hw => Nat.le_trans (spl_part 32 _ a (Nat.le_refl _) w hw).2.1 h
theorem WB.app : ∀ (n : Nat) {L M : Nat} {x y : List Nat}, x.length ≤ n → WB L x → WB M y → WB (L + M) (x ++ y) := by
  intro n
  induction n with
  | zero =>
    intro L M x y hx _ hy
    have : x = [] := List.length_eq_zero_iff.mp (by omega)
    subst this
    rw [List.nil_append]
    exact hy.mono (by omega)
  | succ n ih =>
    intro L M x y hn hx hy w hw
    by_cases hm : 32 ∈ x
    · obtain ⟨u, v, rfl, hu⟩ := List.eq_append_cons_of_mem hm
      have h1 : (u ++ 32 :: v) ++ y = u ++ 32 :: (v ++ y) := by simp
      rw [h1, spl2 32 hu] at hw
      have e : TL.spl [32] 0 [] (u ++ 32 :: v) = u :: TL.spl [32] 0 [] v := spl2 32 hu
      unfold WB at hx
      rw [e] at hx
      simp only [List.length_append, List.length_cons] at hn
      rcases List.mem_cons.mp hw with rfl | hw
      · have := hx w List.mem_cons_self; omega
      · exact ih (by omega) (fun w' h' => hx w' (List.mem_cons_of_mem _ h')) hy w hw
    · have hx' := hx x (by rw [spl1 32 hm]; exact List.mem_singleton_self _)
      by_cases hy' : 32 ∈ y
      · obtain ⟨u, v, rfl, hu⟩ := List.eq_append_cons_of_mem hy'
        have h1 : x ++ (u ++ 32 :: v) = (x ++ u) ++ 32 :: v := by simp
        have hxu : 32 ∉ x ++ u := by simp [hm, hu]
        rw [h1, spl2 32 hxu] at hw
        unfold WB at hy
        rw [spl2 32 hu] at hy
        rcases List.mem_cons.mp hw with rfl | hw
        · have := hy u List.mem_cons_self
          rw [List.length_append]; omega
        · have := hy w (List.mem_cons_of_mem _ hw); omega
      · have hxy : 32 ∉ x ++ y := by simp [hm, hy']
        rw [spl1 32 hxy] at hw
        rw [List.mem_singleton.mp hw, List.length_append]
        have := hy y (by rw [spl1 32 hy']; exact List.mem_singleton_self _)
        omega
theorem WB.split : ∀ (n : Nat) {L : Nat} {x y : List Nat}, x.length ≤ n → WB L (x ++ y) → WB L x ∧ WB L y := by
  intro n
  induction n with
  | zero =>
    intro L x y hx h
    have : x = [] := List.length_eq_zero_iff.mp (by omega)
    subst this
    exact ⟨WB.of_len (by simp), by simpa using h⟩
  | succ n ih =>
    intro L x y hn h
    by_cases hm : 32 ∈ x
    · obtain ⟨u, v, rfl, hu⟩ := List.eq_append_cons_of_mem hm
      have h1 : (u ++ 32 :: v) ++ y = u ++ 32 :: (v ++ y) := by simp
      unfold WB at h
      rw [h1, spl2 32 hu] at h
      simp only [List.length_append, List.length_cons] at hn
      obtain ⟨i1, i2⟩ := ih (x := v) (y := y) (by omega) (fun w' h' => h w' (List.mem_cons_of_mem _ h'))
      refine ⟨fun w hw => ?_, i2⟩
      rw [spl2 32 hu] at hw
      rcases List.mem_cons.mp hw with rfl | hw
      · exact h w List.mem_cons_self
      · exact i1 w hw
    · by_cases hy' : 32 ∈ y
      · obtain ⟨u, v, rfl, hu⟩ := List.eq_append_cons_of_mem hy'
        have h1 : x ++ (u ++ 32 :: v) = (x ++ u) ++ 32 :: v := by simp
        have hxu : 32 ∉ x ++ u := by simp [hm, hu]
        unfold WB at h
        rw [h1, spl2 32 hxu] at h
        have h0 := h (x ++ u) List.mem_cons_self
        rw [List.length_append] at h0
        refine ⟨fun w hw => ?_, fun w hw => ?_⟩
        · rw [spl1 32 hm] at hw
          rw [List.mem_singleton.mp hw]; omega
        · rw [spl2 32 hu] at hw
          rcases List.mem_cons.mp hw with rfl | hw
          · omega
          · exact h w (List.mem_cons_of_mem _ hw)
      · have hxy : 32 ∉ x ++ y := by simp [hm, hy']
        have h0 := h (x ++ y) (by rw [spl1 32 hxy]; exact List.mem_singleton_self _)
        rw [List.length_append] at h0
        exact ⟨fun w hw => by rw [spl1 32 hm] at hw; rw [List.mem_singleton.mp hw]; omega, fun w hw => by rw [spl1 32 hy'] at hw; rw [List.mem_singleton.mp hw]; omega⟩
theorem WB.take {L : Nat} {a : List Nat} (h : WB L a) (n : Nat) : WB L (a.take n) := (WB.split _ (Nat.le_refl _) (by rw [List.take_append_drop]; exact h : WB L (a.take n ++ a.drop n))).1
theorem WB.drop {L : Nat} {a : List Nat} (h : WB L a) (n : Nat) : WB L (a.drop n) := (WB.split _ (Nat.le_refl _) (by rw [List.take_append_drop]; exact h : WB L (a.take n ++ a.drop n))).2
/-- a text that may be asked -/
structure Tx (L N : Nat) (a : List Nat) : Prop where
  asc : Asc a
  wb : WB L a
  len : a.length ≤ N
theorem Tx.app {L M N K : Nat} {a b : List Nat} (h : Tx L N a) (g : Tx M K b) : Tx (L + M) (N + K) (a ++ b) := ⟨h.asc.app g.asc, WB.app _ (Nat.le_refl _) h.wb g.wb, by rw [List.length_append]; have := h.len; have := g.len; omega⟩
theorem Tx.take {L N : Nat} {a : List Nat} (h : Tx L N a) (n : Nat) : Tx L N (a.take n) := ⟨h.asc.take n, h.wb.take n, by rw [List.length_take]; have := h.len; omega⟩
theorem Tx.drop {L N : Nat} {a : List Nat} (h : Tx L N a) (n : Nat) : Tx L N (a.drop n) := ⟨h.asc.drop n, h.wb.drop n, by rw [List.length_drop]; have := h.len; omega⟩
theorem Tx.mono {L M N K : Nat} {a : List Nat} (h : Tx L N a) (h1 : L ≤ M) (h2 : N ≤ K) : Tx M K a := ⟨h.asc, h.wb.mono h1, Nat.le_trans h.len h2⟩
theorem Tx.small {N : Nat} {a : List Nat} (h : Asc a) (hl : a.length ≤ N) : Tx N N a := ⟨h, WB.of_len hl, hl⟩
theorem Tx.words {L N : Nat} {a : List Nat} (h : Tx L N a) (hL : L ≤ 400) (hN : N ≤ 90000) : (∀ w ∈ words a, Asc w ∧ w.length ≤ 400) ∧ (DL.words a).length ≤ 100000 := by
  refine ⟨fun w hw => ?_, ?_⟩
  · unfold DL.words at hw
    split at hw
    · exact nomatch hw
    · exact ⟨fun c hc => h.asc c ((spl_part 32 _ a (Nat.le_refl _) w hw).1 c hc), Nat.le_trans (h.wb w hw) hL⟩
  · unfold DL.words
    split
    · simp
    · have h1 := joinL_len (TL.spl [32] 0 [] a)
      rw [join_spl 32 _ a (Nat.le_refl _)] at h1
      have := h.len
      omega
theorem values_read {p : Int} (h : Fd p) {L N : Nat} {a : List Nat} (t : Tx L N a) (hL : L ≤ 400) (hN : N ≤ 90000) : den__law_values_read [.int p, .str (TS a)] = .ok (.bl true) :=
  m_values_read h t.asc (by have := t.len; omega) (t.words hL hN).1 (t.words hL hN).2
theorem number_read {p : Int} (h : Fd p) {L N : Nat} {a : List Nat} (t : Tx L N a) (hN : N ≤ 400) : den__law_number_read [.int p, .str (TS a)] = .ok (.bl true) := m_number_read h t.asc (by have := t.len; omega)
/-! the pool -/
def gp (ps : List Int) (i : Nat) : Int := ps.getD i 0
theorem ix_pool {ps : List Int} {i : Nat} (h : i < ps.length) : idxD (.lst (ps.map D.int)) (.int (i : Nat)) = .ok (.int (gp ps i)) := by
  refine idx_lst (by omega) ?_
  have : ((i : Nat) : Int).toNat = i := by omega
  rw [this, List.getElem?_map, List.getElem?_eq_getElem h]
  unfold gp
  rw [List.getD_eq_getElem?_getD, List.getElem?_eq_getElem h]
  rfl
theorem gp_ok {ps : List Int} (hp : Pv ps) (i : Nat) : 0 ≤ gp ps i ∧ gp ps i < 1000 := by
  unfold gp
  rw [List.getD_eq_getElem?_getD]
  cases h : ps[i]? with
  | none => simp
  | some v => exact hp v (List.mem_of_getElem? h)
end DL

set_option maxRecDepth 100001
set_option maxHeartbeats 2000001
set_option exponentiation.threshold 2000
namespace DL
open PySem PySem.Spec PyProof.Rows L2
def sg1 : List Nat := [32, 33, 34, 35, 36, 38, 39, 40, 41, 42, 43, 44, 45, 46, 47, 48, 49, 50, 51, 52, 53, 54, 55, 56, 57, 58, 59, 60, 61, 62, 63, 64, 65, 66, 67, 68, 69, 70, 71, 72, 73, 74, 75, 76, 77, 78, 79, 80, 81, 82, 83, 84, 85, 86, 87, 88, 89, 90, 91, 92, 93, 94, 95, 96]
def sg2 : List Nat := [97, 98, 99, 100, 101, 102, 103, 104, 105, 106, 107, 108, 109, 110, 111, 112, 113, 114, 115, 116, 117, 118, 119, 120, 121, 122, 123, 124, 125, 126]
def sg3 : List Nat := [48, 49, 50, 57, 32, 45, 47, 43]
@[simp] theorem lit_s1 : PySem.Str.ofString " !\"#$&'()*+,-./0123456789:;<=>?@ABCDEFGHIJKLMNOPQRSTUVWXYZ[\\]^_`" = TS sg1 := by decide +kernel
@[simp] theorem lit_s2 : PySem.Str.ofString "abcdefghijklmnopqrstuvwxyz{|}~" = TS sg2 := by decide +kernel
@[simp] theorem lit_s3 : PySem.Str.ofString "0129 -/+" = TS sg3 := by decide +kernel
def oddL : List (List Nat) := [[], [45], [45, 48], [48, 48], [43, 49], [49, 47, 49], [52, 47, 50], [49, 47, 45, 50], [48, 47, 50], [49, 47, 48], [32, 49], [49, 32], [110, 111, 110, 101], [78, 111, 110, 101], [49, 47, 47, 50], [45, 49, 47, 50], [45, 45, 49], [48, 49], [49, 47, 48, 50], [110, 111, 110, 101, 32, 110, 111, 110, 101], [48, 32, 48], [45, 48, 47, 51], [51, 47, 50, 47, 49], [49, 32, 32, 48], [110, 111, 110, 101, 32, 49], [45, 51]]
@[simp] theorem lit_o2 : PySem.Str.ofString "-0" = TS [45, 48] := by decide
@[simp] theorem lit_o3 : PySem.Str.ofString "00" = TS [48, 48] := by decide
@[simp] theorem lit_o4 : PySem.Str.ofString "+1" = TS [43, 49] := by decide
@[simp] theorem lit_o5 : PySem.Str.ofString "1/1" = TS [49, 47, 49] := by decide
@[simp] theorem lit_o6 : PySem.Str.ofString "4/2" = TS [52, 47, 50] := by decide
@[simp] theorem lit_o7 : PySem.Str.ofString "1/-2" = TS [49, 47, 45, 50] := by decide
@[simp] theorem lit_o8 : PySem.Str.ofString "0/2" = TS [48, 47, 50] := by decide
@[simp] theorem lit_o9 : PySem.Str.ofString "1/0" = TS [49, 47, 48] := by decide
@[simp] theorem lit_o10 : PySem.Str.ofString " 1" = TS [32, 49] := by decide
@[simp] theorem lit_o11 : PySem.Str.ofString "1 " = TS [49, 32] := by decide
@[simp] theorem lit_o13 : PySem.Str.ofString "None" = TS [78, 111, 110, 101] := by decide
@[simp] theorem lit_o14 : PySem.Str.ofString "1//2" = TS [49, 47, 47, 50] := by decide
@[simp] theorem lit_o15 : PySem.Str.ofString "-1/2" = TS [45, 49, 47, 50] := by decide
@[simp] theorem lit_o16 : PySem.Str.ofString "--1" = TS [45, 45, 49] := by decide
@[simp] theorem lit_o17 : PySem.Str.ofString "01" = TS [48, 49] := by decide
@[simp] theorem lit_o18 : PySem.Str.ofString "1/02" = TS [49, 47, 48, 50] := by decide
@[simp] theorem lit_o19 : PySem.Str.ofString "none none" = TS [110, 111, 110, 101, 32, 110, 111, 110, 101] := by decide
@[simp] theorem lit_o20 : PySem.Str.ofString "0 0" = TS [48, 32, 48] := by decide
@[simp] theorem lit_o21 : PySem.Str.ofString "-0/3" = TS [45, 48, 47, 51] := by decide
@[simp] theorem lit_o22 : PySem.Str.ofString "3/2/1" = TS [51, 47, 50, 47, 49] := by decide
@[simp] theorem lit_o23 : PySem.Str.ofString "1  0" = TS [49, 32, 32, 48] := by decide
@[simp] theorem lit_o24 : PySem.Str.ofString "none 1" = TS [110, 111, 110, 101, 32, 49] := by decide
@[simp] theorem lit_o25 : PySem.Str.ofString "-3" = TS [45, 51] := by decide
theorem sg_len : (sg1 ++ sg2).length = 94 := by decide
theorem sg3_len : sg3.length = 8 := by decide
theorem sg_all : (sg1 ++ sg2).all (fun c => decide (c < 128)) = true := by decide
theorem sg3_all : sg3.all (fun c => decide (c < 128)) = true := by decide
theorem get_all {l : List Nat} (h : l.all (fun c => decide (c < 128)) = true) {i : Nat} (hi : i < l.length) : ∃ c, l[i]? = some c ∧ Asc [c] := ⟨l[i], List.getElem?_eq_getElem hi, fun d hd => by
  rw [List.mem_singleton.mp hd]
  simpa using List.all_eq_true.mp h _ (List.getElem_mem hi)⟩
theorem Tx.cut {L N : Nat} {a : List Nat} (h : Tx L N a) (lo hi : Option Int) : Tx L N (cutL a lo hi) := by
  unfold cutL
  exact (h.drop _).take _
theorem cut_one (a : List Nat) (p : Nat) : (cutL a (some ((p : Nat) : Int)) (some (((p : Nat) : Int) + 1))).length ≤ 1 := by
  unfold cutL
  rw [show ((p : Nat) : Int) + 1 = ((p + 1 : Nat) : Int) from by simp, HT.sIx_nat, HT.sIx_nat, List.length_take]
  omega
theorem Tx.one {L N : Nat} {a : List Nat} (h : Tx L N a) (p : Nat) : Tx 1 1 (cutL a (some ((p : Nat) : Int)) (some (((p : Nat) : Int) + 1))) := Tx.small (h.cut _ _).asc (cut_one a p)
theorem m_spoilt {L N : Nat} {a : List Nat} (h : Tx L N a) (hN : N ≤ 40000) {ps : List Int} (hp : Pv ps) {t : Nat} (ht : t + 3 < ps.length) : ∃ b, den__law_spoilt [.str (TS a), .lst (ps.map D.int), .int (t : Nat)] = .ok (.str (TS b)) ∧ Tx (2 * L + 2) (2 * N + 2) b := by
  have hlen := h.len
  have i0 := ix_pool (ps := ps) (i := t) (by omega)
  have i1 : idxD (.lst (ps.map D.int)) (.int ((t : Int) + 1)) = .ok (.int (gp ps (t + 1))) := ix_pool (ps := ps) (i := t + 1) (by omega)
  have i2 : idxD (.lst (ps.map D.int)) (.int ((t : Int) + 2)) = .ok (.int (gp ps (t + 2))) := ix_pool (ps := ps) (i := t + 2) (by omega)
  have i3 : idxD (.lst (ps.map D.int)) (.int ((t : Int) + 3)) = .ok (.int (gp ps (t + 3))) := ix_pool (ps := ps) (i := t + 3) (by omega)
  have g0 := gp_ok hp t
  have g3 := gp_ok hp (t + 3)
  have esg : addD (.str (TS sg1)) (.str (TS sg2)) = .ok (.str (TS (sg1 ++ sg2))) := o_addT (by decide)
  obtain ⟨c, hc, ac⟩ := get_all sg_all (i := (gp ps t % 94).toNat) (by rw [sg_len]; omega)
  obtain ⟨c', hc', ac'⟩ := get_all sg3_all (i := (gp ps t % 8).toNat) (by rw [sg3_len]; omega)
  have x1 : idxD (.str (TS (sg1 ++ sg2))) (.int (gp ps t % 94)) = .ok (.str (TS [c])) := by
    have := o_idxT (a := sg1 ++ sg2) (i := (gp ps t % 94).toNat) (by decide) hc
    rwa [show (((gp ps t % 94).toNat : Nat) : Int) = gp ps t % 94 from by omega] at this
  have x2 : idxD (.str (TS sg3)) (.int (gp ps t % 8)) = .ok (.str (TS [c'])) := by
    have := o_idxT (a := sg3) (i := (gp ps t % 8).toNat) (by decide) hc'
    rwa [show (((gp ps t % 8).toNat : Nat) : Int) = gp ps t % 8 from by omega] at this
  -- the sign
  obtain ⟨z, hz, az⟩ : ∃ z, (if gp ps (t + 1) % 2 = 0 then c' else c) = z ∧ Asc [z] := ⟨_, rfl, by split; exact ac'; exact ac⟩
  obtain ⟨q, hq⟩ : ∃ q : Nat, gp ps (t + 3) % ((a.length : Int) + 1) = (q : Int) := ⟨(gp ps (t + 3) % ((a.length : Int) + 1)).toNat, by
    have := Int.emod_nonneg (gp ps (t + 3)) (b := (a.length : Int) + 1) (by omega)
    omega⟩
  have el := o_lenT' (a := a) (by omega)
  have em : modD (.int (gp ps (t + 3))) (.int ((a.length : Int) + 1)) = .ok (.int (q : Int)) := by rw [o_modp (by omega), hq]
  have tz : Tx 1 1 [z] := Tx.small az (by simp)
  generalize hk : gp ps (t + 2) % 5 = k
  have step : ∀ (r : Fl), body__law_spoilt (startD 7 [.str (TS a), .lst (ps.map D.int), .int (t : Nat)]) = r ↔ (seqF (ifF (toB (b2 eqD (nmD 5) (cD (.int 0)))) (retF (b2 addD (b2 addD (sl3 cutD (nmD 0) (noP) (someP (nmD 6))) (nmD 4)) (sl3 cutD (nmD 0) (someP (nmD 6)) (noP)))) (nxD)) (seqF (ifF (toB (b2 eqD (nmD 5) (cD (.int 1)))) (retF (b2 addD (sl3 cutD (nmD 0) (noP) (someP (nmD 6))) (sl3 cutD (nmD 0) (someP (b2 addD (nmD 6) (cD (.int 1)))) (noP)))) (nxD)) (seqF (ifF (toB (b2 eqD (nmD 5) (cD (.int 2)))) (retF (b2 addD (b2 addD (sl3 cutD (nmD 0) (noP) (someP (nmD 6))) (sl3 cutD (nmD 0) (someP (nmD 6)) (someP (b2 addD (nmD 6) (cD (.int 1)))))) (sl3 cutD (nmD 0) (someP (nmD 6)) (noP)))) (nxD)) (seqF (ifF (toB (b2 eqD (nmD 5) (cD (.int 3)))) (retF (b2 addD (b2 addD (b2 addD (sl3 cutD (nmD 0) (noP) (someP (nmD 6))) (sl3 cutD (nmD 0) (someP (b2 addD (nmD 6) (cD (.int 1)))) (someP (b2 addD (nmD 6) (cD (.int 2)))))) (sl3 cutD (nmD 0) (someP (nmD 6)) (someP (b2 addD (nmD 6) (cD (.int 1)))))) (sl3 cutD (nmD 0) (someP (b2 addD (nmD 6) (cD (.int 2)))) (noP)))) (nxD)) (retF (b2 addD (b2 addD (sl3 cutD (nmD 0) (noP) (someP (nmD 6))) (nmD 4)) (sl3 cutD (nmD 0) (someP (b2 addD (nmD 6) (cD (.int 1)))) (noP)))))))) [some (.str (TS a)), some (.lst (ps.map D.int)), some (.int (t : Nat)), some (.str (TS (sg1 ++ sg2))), some (.str (TS [z])), some (.int k), some (.int q)] = r := by
    intro r
    have : body__law_spoilt (startD 7 [.str (TS a), .lst (ps.map D.int), .int (t : Nat)]) = (seqF (ifF (toB (b2 eqD (nmD 5) (cD (.int 0)))) (retF (b2 addD (b2 addD (sl3 cutD (nmD 0) (noP) (someP (nmD 6))) (nmD 4)) (sl3 cutD (nmD 0) (someP (nmD 6)) (noP)))) (nxD)) (seqF (ifF (toB (b2 eqD (nmD 5) (cD (.int 1)))) (retF (b2 addD (sl3 cutD (nmD 0) (noP) (someP (nmD 6))) (sl3 cutD (nmD 0) (someP (b2 addD (nmD 6) (cD (.int 1)))) (noP)))) (nxD)) (seqF (ifF (toB (b2 eqD (nmD 5) (cD (.int 2)))) (retF (b2 addD (b2 addD (sl3 cutD (nmD 0) (noP) (someP (nmD 6))) (sl3 cutD (nmD 0) (someP (nmD 6)) (someP (b2 addD (nmD 6) (cD (.int 1)))))) (sl3 cutD (nmD 0) (someP (nmD 6)) (noP)))) (nxD)) (seqF (ifF (toB (b2 eqD (nmD 5) (cD (.int 3)))) (retF (b2 addD (b2 addD (b2 addD (sl3 cutD (nmD 0) (noP) (someP (nmD 6))) (sl3 cutD (nmD 0) (someP (b2 addD (nmD 6) (cD (.int 1)))) (someP (b2 addD (nmD 6) (cD (.int 2)))))) (sl3 cutD (nmD 0) (someP (nmD 6)) (someP (b2 addD (nmD 6) (cD (.int 1)))))) (sl3 cutD (nmD 0) (someP (b2 addD (nmD 6) (cD (.int 2)))) (noP)))) (nxD)) (retF (b2 addD (b2 addD (sl3 cutD (nmD 0) (noP) (someP (nmD 6))) (nmD 4)) (sl3 cutD (nmD 0) (someP (b2 addD (nmD 6) (cD (.int 1)))) (noP)))))))) [some (.str (TS a)), some (.lst (ps.map D.int)), some (.int (t : Nat)), some (.str (TS (sg1 ++ sg2))), some (.str (TS [z])), some (.int k), some (.int q)] := by
      unfold body__law_spoilt
      by_cases hb : gp ps (t + 1) % 2 = 0
      · rw [if_pos hb] at hz
        subst hz
        simp [esg, i0, i1, i2, i3, o_modp, x1, x2, hb, hk, el, em, -e_sl3]
      · rw [if_neg hb] at hz
        subst hz
        simp [esg, i0, i1, i2, i3, o_modp, x1, x2, hb, hk, el, em, -e_sl3]
    rw [this]
  have hcut : ∀ lo hi, cutD (.str (TS a)) lo hi = .ok (.str (TS (cutL a lo hi))) := fun lo hi => o_cutT (by omega) lo hi
  have cl : ∀ lo hi, (cutL a lo hi).length ≤ N := fun lo hi => (h.cut lo hi).len
  have ad : ∀ {x y : List Nat}, x.length + y.length ≤ 100000 → addD (.str (TS x)) (.str (TS y)) = .ok (.str (TS (x ++ y))) := fun hh => o_addT hh
  have c1 := cut_one a q
  have c2 := cut_one a (q + 1)
  have p2 : ((q : Int) + 2) = (((q + 1 : Nat) : Int) + 1) := by omega
  have p1 : ((q : Int) + 1) = ((q + 1 : Nat) : Int) := by omega
  rw [den__law_spoilt, e_run]
  have k0 : 0 ≤ k ∧ k < 5 := by omega
  have fin : ∀ {b : List Nat} , body__law_spoilt (startD 7 [.str (TS a), .lst (ps.map D.int), .int (t : Nat)]) = .rt (.str (TS b)) → Tx (2 * L + 2) (2 * N + 2) b → ∃ b, fnRes (body__law_spoilt (startD 7 [.str (TS a), .lst (ps.map D.int), .int (t : Nat)])) = .ok (.str (TS b)) ∧ Tx (2 * L + 2) (2 * N + 2) b := fun {b} e tb => ⟨b, by rw [e]; rfl, tb⟩
  have l0 := cl none (some (q : Int))
  have l1 := cl (some (q : Int)) none
  have l2 := cl (some ((q : Int) + 1)) none
  have l3 := cl (some ((q : Int) + 2)) none
  rcases (show k = 0 ∨ k = 1 ∨ k = 2 ∨ k = 3 ∨ k = 4 by omega) with rfl | rfl | rfl | rfl | rfl
  · refine fin (b := (cutL a none (some (q : Int)) ++ [z]) ++ cutL a (some (q : Int)) none) ((step _).mpr ?_) ((((h.cut _ _).app tz).app (h.cut _ _)).mono (by omega) (by omega))
    simp [hcut]
    rw [ad (by simp; omega)]
    simp
    rw [ad (by simp; omega)]
    simp
  · refine fin (b := cutL a none (some (q : Int)) ++ cutL a (some ((q : Int) + 1)) none) ((step _).mpr ?_) (((h.cut _ _).app (h.cut _ _)).mono (by omega) (by omega))
    simp [hcut]
    rw [ad (by omega)]
    simp
  · refine fin (b := (cutL a none (some (q : Int)) ++ cutL a (some (q : Int)) (some ((q : Int) + 1))) ++ cutL a (some (q : Int)) none) ((step _).mpr ?_) ((((h.cut _ _).app (h.one q)).app (h.cut _ _)).mono (by omega) (by omega))
    simp [hcut]
    rw [ad (by omega)]
    simp
    rw [ad (by simp; omega)]
    simp
  · refine fin (b := ((cutL a none (some (q : Int)) ++ cutL a (some ((q : Int) + 1)) (some ((q : Int) + 2))) ++ cutL a (some (q : Int)) (some ((q : Int) + 1))) ++ cutL a (some ((q : Int) + 2)) none) ((step _).mpr ?_) (((((h.cut _ _).app (by rw [p1, p2]; exact h.one (q + 1) : Tx 1 1 _)).app (h.one q)).app (h.cut _ _)).mono (by omega) (by omega))
    have c2' : (cutL a (some ((q : Int) + 1)) (some ((q : Int) + 2))).length ≤ 1 := by rw [p1, p2]; exact c2
    simp [hcut]
    rw [ad (by omega)]
    simp
    rw [ad (by simp; omega)]
    simp
    rw [ad (by simp; omega)]
    simp
  · refine fin (b := (cutL a none (some (q : Int)) ++ [z]) ++ cutL a (some ((q : Int) + 1)) none) ((step _).mpr ?_) ((((h.cut _ _).app tz).app (h.cut _ _)).mono (by omega) (by omega))
    simp [hcut]
    rw [ad (by simp; omega)]
    simp
    rw [ad (by simp; omega)]
    simp
theorem odd_all : oddL.all (fun l => l.all (fun c => decide (c < 128)) && decide (l.length ≤ 10)) = true := by decide
theorem odd_len : oddL.length = 26 := by decide
theorem m_odd {i : Int} (h : 0 ≤ i) : ∃ b, den__law_odd [.int i] = .ok (.str (TS b)) ∧ Tx 10 10 b := by
  obtain ⟨j, hj⟩ : ∃ j : Nat, i % 26 = (j : Int) := ⟨(i % 26).toNat, by omega⟩
  have hlt : j < oddL.length := by rw [odd_len]; omega
  have ho := List.all_eq_true.mp odd_all _ (List.getElem_mem hlt)
  rw [Bool.and_eq_true, decide_eq_true_eq] at ho
  have hi : idxD (.lst (oddL.map dT)) (.int (j : Int)) = .ok (dT oddL[j]) := by
    refine idx_lst (by omega) ?_
    have : ((j : Nat) : Int).toNat = j := by omega
    rw [this, List.getElem?_map, List.getElem?_eq_getElem hlt]
    rfl
  refine ⟨oddL[j], ?_, Tx.small (Asc.of _ ho.1) ho.2⟩
  have lk16 : ∀ {l : List D}, l.length ≤ 100 → lstK l = .ok (.lst l) := fun hh => lstK_ok (by omega)
  have e : (oddL.map dT) = oddL.map dT := rfl
  unfold oddL at hi
  simp only [List.map_cons, List.map_nil, dT] at hi
  rw [den__law_odd, e_run]
  unfold body__law_odd
  simp
  rw [lk16 (by simp)]
  simp
  rw [lk16 (by simp)]
  simp [catD, o_modp, hj, sizeLine_eq, hi]
  rfl
end DL

set_option maxRecDepth 100001
set_option maxHeartbeats 2000001
set_option exponentiation.threshold 2000
namespace DL
open PySem PySem.Spec PyProof.Rows L2
theorem d3 : divOk 3 = true := by decide
/-- lowest terms -/
theorem low_q {n d : Int} (hd : 0 < d) {k : Nat} (hk : 0 < k) (hk2 : k ≤ 100) (hn : n.natAbs < 10 ^ k) (hd2 : d.natAbs < 10 ^ k) :
    ∃ n' d' : Int, fdivD (.int n) (.int ((Nat.gcd n.natAbs d.natAbs : Nat) : Int)) = .ok (.int n') ∧ fdivD (.int d) (.int ((Nat.gcd n.natAbs d.natAbs : Nat) : Int)) = .ok (.int d') ∧ n'.natAbs < 10 ^ k ∧ d'.natAbs < 10 ^ k := by
  have hg : Nat.gcd n.natAbs d.natAbs ≠ 0 := by
    intro e
    have := Nat.eq_zero_of_gcd_eq_zero_right e
    omega
  have hle : Nat.gcd n.natAbs d.natAbs ≤ d.natAbs := Nat.gcd_le_right _ (by omega)
  have hb : Bz 9000 ((Nat.gcd n.natAbs d.natAbs : Nat) : Int) := by
    unfold Bz
    rw [Int.natAbs_natCast]
    refine Nat.lt_of_le_of_lt hle (Nat.lt_of_lt_of_le hd2 ?_)
    exact Nat.le_trans (Nat.pow_le_pow_right (by decide) hk2) (by decide +kernel)
  have dk : divOk ((Nat.gcd n.natAbs d.natAbs : Nat) : Int) = true := hb.divOk (by omega)
  refine ⟨_, _, o_fdiv dk, o_fdiv dk, ?_, ?_⟩
  · rw [Int.fdiv_eq_ediv_of_nonneg _ (by omega)]
    exact Nat.lt_of_le_of_lt (Int.natAbs_ediv_le_natAbs _ _) hn
  · rw [Int.fdiv_eq_ediv_of_nonneg _ (by omega)]
    exact Nat.lt_of_le_of_lt (Int.natAbs_ediv_le_natAbs _ _) hd2
theorem lt_400 {n : Nat} {k : Nat} (hk : k ≤ 400) (h : n < 10 ^ k) : n < 10 ^ 400 := Nat.lt_of_lt_of_le h (Nat.pow_le_pow_right (by decide) hk)
theorem wr_len {n d : Int} {k : Nat} (hk : 0 < k) (hn : n.natAbs < 10 ^ k) (hd : d.natAbs < 10 ^ k) : (wr n d).length ≤ 2 * k + 3 := by
  have h1 := numS_len hk hn
  have h2 := numS_len hk hd
  unfold wr
  split
  · omega
  · simp; omega
theorem wr_free (n d : Int) : 32 ∉ wr n d := by
  have h1 := Ci_free (Ci_num n).1 (s := 32) (by decide)
  have h2 := Ci_free (Ci_num d).1 (s := 32) (by decide)
  unfold wr
  split
  · exact h1
  · simp [h1, h2]
/-- a number as it is drawn: its text is short and has no blank -/
def Draw (p : Int) (L : Nat) (d : D) : Prop := ∃ w, Num p w d ∧ w.length ≤ L ∧ 32 ∉ w ∧ w ≠ []
theorem numS_ne (i : Int) : numS i ≠ [] := by
  unfold numS
  split
  · simp
  · exact TL.numL_ne _
theorem wr_ne (n d : Int) : wr n d ≠ [] := by
  unfold wr
  split
  · exact numS_ne n
  · simp
theorem m_number {p : Int} (h : Fd p) {ps : List Int} (hp : Pv ps) {t : Nat} (ht : t + 3 < ps.length) : ∃ d, den__law_number [.lst (ps.map D.int), .int (t : Nat), .int p] = .ok d ∧ Draw p 11 d := by
  have i0 := ix_pool (ps := ps) (i := t) (by omega)
  have i1 : idxD (.lst (ps.map D.int)) (.int ((t : Int) + 1)) = .ok (.int (gp ps (t + 1))) := ix_pool (ps := ps) (i := t + 1) (by omega)
  have i2 : idxD (.lst (ps.map D.int)) (.int ((t : Int) + 2)) = .ok (.int (gp ps (t + 2))) := ix_pool (ps := ps) (i := t + 2) (by omega)
  have i3 : idxD (.lst (ps.map D.int)) (.int ((t : Int) + 3)) = .ok (.int (gp ps (t + 3))) := ix_pool (ps := ps) (i := t + 3) (by omega)
  have g0 := gp_ok hp t
  have g1 := gp_ok hp (t + 1)
  have g2 := gp_ok hp (t + 2)
  rcases h with rfl | h
  · generalize hn : (gp ps t + 1000 * gp ps (t + 1)) % 1999 - 999 = n
    have bn : n.natAbs < 10 ^ 3 := by omega
    have hm : mulOk 1000 (gp ps (t + 1)) = true := mulOk_l (by omega) (by omega)
    by_cases h3 : gp ps (t + 3) % 3 = 0
    · obtain ⟨n', d', e1, e2, b1, b2'⟩ := low_q (n := n) (d := 1) (k := 3) (by decide) (by decide) (by decide) bn (by decide)
      have ec := m_common n 1
      refine ⟨.tup [.int n', .int d'], ?_, wr n' d', .q _ _ rfl (lt_400 (k := 3) (by decide) b1) (lt_400 (k := 3) (by decide) b2') rfl, ?_, wr_free _ _, wr_ne _ _⟩
      · have ec' : den__law_common [.int n, .int 1] = .ok (.int ((Nat.gcd n.natAbs (1 : Int).natAbs : Nat) : Int)) := ec
        generalize ((Nat.gcd n.natAbs (1 : Int).natAbs : Nat) : Int) = g at *
        simp [den__law_number, e_run, body__law_number, i0, i1, i2, i3, o_modp, o_mul, hm, h3, hn, ec', e1, e2]
      · have := wr_len (by decide : 0 < 3) b1 b2'; omega
    · generalize hd : 1 + gp ps (t + 2) % 99 = d
      obtain ⟨n', d', e1, e2, b1, b2'⟩ := low_q (n := n) (d := d) (k := 3) (by omega) (by decide) (by decide) bn (by omega)
      have ec := m_common n d
      refine ⟨.tup [.int n', .int d'], ?_, wr n' d', .q _ _ rfl (lt_400 (k := 3) (by decide) b1) (lt_400 (k := 3) (by decide) b2') rfl, ?_, wr_free _ _, wr_ne _ _⟩
      · generalize ((Nat.gcd n.natAbs d.natAbs : Nat) : Int) = g at *
        simp [den__law_number, e_run, body__law_number, i0, i1, i2, i3, o_modp, o_mul, hm, h3, hn, hd, ec, e1, e2]
      · have := wr_len (by decide : 0 < 3) b1 b2'; omega
  · have hpos := h.pos
    have hle := h.le
    have h1 := Int.emod_nonneg (gp ps t) (show p ≠ 0 by omega)
    have h2 := Int.emod_lt_of_pos (gp ps t) hpos
    refine ⟨.int (gp ps t % p), ?_, numS (gp ps t % p), .p _ hpos (lt_400 (k := 3) (by decide) (by omega)) rfl, ?_, Ci_free (Ci_num _).1 (s := 32) (by decide), numS_ne _⟩
    · simp [den__law_number, e_run, body__law_number, i0, hpos, o_modp]
    · have := numS_len (i := gp ps t % p) (k := 3) (by decide) (by omega); omega
/-! large numbers -/
noncomputable def bLg : DEnv → Fl := seqF (setF 6 (b2 addD (b2 mulD (nmD 6) (cD (.int 1000))) (callF intAD (consA (b2 idxD (nmD 0) (b2 addD (nmD 1) (nmD 3))) (nilA))))) (seqF (setF 4 (b2 addD (b2 mulD (nmD 4) (cD (.int 1000))) (callF intAD (consA (b2 idxD (nmD 0) (b2 addD (b2 addD (nmD 1) (nmD 2)) (nmD 3))) (nilA))))) (nxD))
theorem lg_loop {ps : List Int} (hp : Pv ps) {t m : Nat} (ht : t + 2 * m ≤ ps.length) (hm : m ≤ 20) : ∀ (j k : Nat) (n d : Int) (x : Option D), j + k = m → (0 ≤ n ∧ n.natAbs < 1000 ^ k) → (0 ≤ d ∧ d.natAbs < 1000 ^ k) →
    ∃ (n' d' : Int) (x' : Option D), forD (putD 3) bLg ((List.range' k j).map fun i : Nat => D.int i) [some (.lst (ps.map D.int)), some (.int (t : Nat)), some (.int (m : Nat)), x, some (.int d), none, some (.int n)] = .nx [some (.lst (ps.map D.int)), some (.int (t : Nat)), some (.int (m : Nat)), x', some (.int d'), none, some (.int n')] ∧ (0 ≤ n' ∧ n'.natAbs < 1000 ^ m) ∧ (0 ≤ d' ∧ d'.natAbs < 1000 ^ m) := by
  intro j
  induction j with
  | zero => intro k n d x hk h1 h2; exact ⟨n, d, x, rfl, by rw [← hk, Nat.zero_add]; exact h1, by rw [← hk, Nat.zero_add]; exact h2⟩
  | succ j ih =>
    intro k n d x hk h1 h2
    have g1 := gp_ok hp (t + k)
    have g2 := gp_ok hp (t + m + k)
    have e1 : (1000 : Nat) ^ (k + 1) = 1000 ^ k * 1000 := Nat.pow_succ ..
    obtain ⟨n', d', x', e', r1, r2⟩ := ih (k + 1) (n * 1000 + gp ps (t + k)) (d * 1000 + gp ps (t + m + k)) (some (.int k)) (by omega) ⟨by omega, by rw [e1]; omega⟩ ⟨by omega, by rw [e1]; omega⟩
    refine ⟨n', d', x', ?_, r1, r2⟩
    have i1 : idxD (.lst (ps.map D.int)) (.int ((t : Int) + (k : Int))) = .ok (.int (gp ps (t + k))) := ix_pool (ps := ps) (i := t + k) (by omega)
    have i2 : idxD (.lst (ps.map D.int)) (.int ((t : Int) + (m : Int) + (k : Int))) = .ok (.int (gp ps (t + m + k))) := ix_pool (ps := ps) (i := t + m + k) (by omega)
    rw [List.range'_succ, List.map_cons]
    unfold forD
    have hput : putD 3 (D.int k) [some (.lst (ps.map D.int)), some (.int (t : Nat)), some (.int (m : Nat)), x, some (.int d), none, some (.int n)] = .ok [some (.lst (ps.map D.int)), some (.int (t : Nat)), some (.int (m : Nat)), some (.int k), some (.int d), none, some (.int n)] := by simp
    have m1 : mulOk n 1000 = true := mulOk_r (by decide) (by decide)
    have m2 : mulOk d 1000 = true := mulOk_r (by decide) (by decide)
    have hb : bLg [some (.lst (ps.map D.int)), some (.int (t : Nat)), some (.int (m : Nat)), some (.int k), some (.int d), none, some (.int n)] = .nx [some (.lst (ps.map D.int)), some (.int (t : Nat)), some (.int (m : Nat)), some (.int k), some (.int (d * 1000 + gp ps (t + m + k))), none, some (.int (n * 1000 + gp ps (t + k)))] := by
      simp [bLg, o_mul, m1, m2, i1, i2]
    rw [hput]
    simp only [hb]
    exact e'
theorem d10 : divOk 10 = true := by decide
theorem d100 : divOk 100 = true := by decide
theorem m_large {ps : List Int} (hp : Pv ps) {t m : Nat} (ht : t + 2 * m ≤ ps.length) (hm0 : 0 < m) (hm : m ≤ 20) : ∃ d n dd, den__law_large [.lst (ps.map D.int), .int (t : Nat), .int (m : Nat)] = .ok d ∧ Draw 0 130 d ∧ d = .tup [.int n, .int dd] ∧ n.natAbs < 10 ^ 70 := by
  obtain ⟨n, d, x, e, r1, r2⟩ := lg_loop hp ht hm m 0 0 0 none (by omega) ⟨by decide, by decide⟩ ⟨by decide, by decide⟩
  have er := rgK_nat (n := m) (by omega)
  rw [ints_range] at er
  have i0 := ix_pool (ps := ps) (i := t) (by omega)
  have hb : body__law_large = seqF (asgF (tupA (consA (cD (.int 0)) (consA (cD (.int 0)) (nilA)))) (tupT (consT (putD 6) (consT (putD 4) (nilT))))) (seqF (forF (rng1 (consA (nmD 2) (nilA))) (putD 3) bLg) (seqF (ifF (toB (b2 gtD (nmD 2) (cD (.int 9)))) (seqF (parF 6 4 (consA (b2 fdivD (nmD 6) (cD (.int 10))) (consA (b2 fdivD (nmD 4) (cD (.int 100))) (nilA)))) (nxD)) (nxD)) (seqF (ifF (toB (b2 eqD (b2 modD (callF intAD (consA (b2 idxD (nmD 0) (nmD 1)) (nilA))) (cD (.int 2))) (cD (.int 1)))) (seqF (setF 6 (u1 negD (nmD 6))) (nxD)) (nxD)) (seqF (setF 4 (b2 addD (nmD 4) (cD (.int 1)))) (seqF (setF 5 (callF den__law_common (consA (nmD 6) (consA (nmD 4) (nilA))))) (retF (tupA (consA (b2 fdivD (nmD 6) (nmD 5)) (consA (b2 fdivD (nmD 4) (nmD 5)) (nilA)))))))))) := rfl
  have hpow : (1000 : Nat) ^ m ≤ 10 ^ 60 := by
    rw [show (1000 : Nat) = 10 ^ 3 from rfl, ← Nat.pow_mul]
    exact Nat.pow_le_pow_right (by decide) (by omega)
  have h61 : (10 : Nat) ^ 60 < 10 ^ 61 := Nat.pow_lt_pow_right (by decide) (by decide)
  obtain ⟨n1, d1, b1, b2', hs⟩ : ∃ n1 d1 : Int, (0 ≤ n1 ∧ n1.natAbs < 10 ^ 60) ∧ (0 ≤ d1 ∧ d1.natAbs < 10 ^ 60) ∧ ifF (toB (b2 gtD (nmD 2) (cD (.int 9)))) (seqF (parF 6 4 (consA (b2 fdivD (nmD 6) (cD (.int 10))) (consA (b2 fdivD (nmD 4) (cD (.int 100))) (nilA)))) (nxD)) (nxD) [some (.lst (ps.map D.int)), some (.int (t : Nat)), some (.int (m : Nat)), x, some (.int d), none, some (.int n)] = .nx [some (.lst (ps.map D.int)), some (.int (t : Nat)), some (.int (m : Nat)), x, some (.int d1), none, some (.int n1)] := by
    by_cases h9 : (9 : Int) < (m : Int)
    · refine ⟨n / 10, d / 100, ⟨by omega, by omega⟩, ⟨by omega, by omega⟩, ?_⟩
      simp [h9, o_fdivp, d10, d100]
    · exact ⟨n, d, ⟨r1.1, by omega⟩, ⟨r2.1, by omega⟩, by simp [h9]⟩
  obtain ⟨n2, b3, hs2⟩ : ∃ n2 : Int, n2.natAbs < 10 ^ 61 ∧ ifF (toB (b2 eqD (b2 modD (callF intAD (consA (b2 idxD (nmD 0) (nmD 1)) (nilA))) (cD (.int 2))) (cD (.int 1)))) (seqF (setF 6 (u1 negD (nmD 6))) (nxD)) (nxD) [some (.lst (ps.map D.int)), some (.int (t : Nat)), some (.int (m : Nat)), x, some (.int d1), none, some (.int n1)] = .nx [some (.lst (ps.map D.int)), some (.int (t : Nat)), some (.int (m : Nat)), x, some (.int d1), none, some (.int n2)] := by
    by_cases h2 : gp ps t % 2 = 1
    · exact ⟨-n1, by omega, by simp [i0, o_modp, h2]⟩
    · exact ⟨n1, by omega, by simp [i0, o_modp, h2]⟩
  obtain ⟨n', d', e1, e2, c1, c2⟩ := low_q (n := n2) (d := d1 + 1) (k := 61) (by omega) (by decide) (by decide) b3 (by omega)
  have ec := m_common n2 (d1 + 1)
  refine ⟨.tup [.int n', .int d'], n', d', ?_, ⟨wr n' d', .q _ _ rfl (lt_400 (k := 61) (by decide) c1) (lt_400 (k := 61) (by decide) c2) rfl, ?_, wr_free _ _, wr_ne _ _⟩, rfl, Nat.lt_of_lt_of_le c1 (Nat.pow_le_pow_right (by decide) (by decide))⟩
  · generalize ((Nat.gcd n2.natAbs (d1 + 1).natAbs : Nat) : Int) = g at *
    rw [den__law_large, e_run, hb]
    rw [e_seq]
    have s1 : asgF (tupA (consA (cD (.int 0)) (consA (cD (.int 0)) (nilA)))) (tupT (consT (putD 6) (consT (putD 4) (nilT)))) (startD 7 [.lst (ps.map D.int), .int (t : Nat), .int (m : Nat)]) = .nx [some (.lst (ps.map D.int)), some (.int (t : Nat)), some (.int (m : Nat)), none, some (.int 0), none, some (.int 0)] := by simp
    rw [s1, sq_nx, e_seq]
    have s2 : forF (rng1 (consA (nmD 2) (nilA))) (putD 3) bLg [some (.lst (ps.map D.int)), some (.int (t : Nat)), some (.int (m : Nat)), none, some (.int 0), none, some (.int 0)] = .nx [some (.lst (ps.map D.int)), some (.int (t : Nat)), some (.int (m : Nat)), x, some (.int d), none, some (.int n)] := by
      rw [e_for, e_rng1]
      simp only [e_cons, e_nm, List.getElem?_cons_succ, List.getElem?_cons_zero, e_nmK, e_nil, cons_ok, R.bind_ok, er, fr_ok, e]
    rw [s2, sq_nx, e_seq, hs, sq_nx, e_seq, hs2, sq_nx]
    simp [ec, e1, e2]
  · have := wr_len (by decide : 0 < 61) c1 c2; omega
end DL

set_option maxRecDepth 100001
set_option maxHeartbeats 2000001
set_option exponentiation.threshold 2000
namespace DL
open PySem PySem.Spec PyProof.Rows L2
theorem draws {p : Int} {L : Nat} : ∀ {ds : List D}, (∀ d ∈ ds, Draw p L d) → ∃ ws, Nums p ws ds ∧ ∀ w ∈ ws, w.length ≤ L ∧ 32 ∉ w ∧ w ≠ []
  | [], _ => ⟨[], .nil, fun w hw => nomatch hw⟩
  | d :: ds, h => by
    obtain ⟨w, h1, h2⟩ := h d List.mem_cons_self
    obtain ⟨ws, h3, h4⟩ := draws fun e he => h e (List.mem_cons_of_mem _ he)
    refine ⟨w :: ws, .cons h1 h3, fun u hu => ?_⟩
    rcases List.mem_cons.mp hu with rfl | hu
    · exact h2
    · exact h4 u hu
theorem joinL_le {L : Nat} : ∀ {ws : List (List Nat)}, (∀ w ∈ ws, w.length ≤ L) → (TL.joinL [32] ws).length ≤ (L + 1) * ws.length
  | [], _ => by simp [TL.joinL]
  | [w], h => by
    have := h w (by simp)
    simp [TL.joinL]; omega
  | w :: u :: r, h => by
    have ih := joinL_le (ws := u :: r) fun v hv => h v (List.mem_cons_of_mem _ hv)
    have h1 := h w List.mem_cons_self
    show (w ++ ([32] ++ TL.joinL [32] (u :: r))).length ≤ _
    rw [List.length_cons, Nat.mul_succ]
    simp only [List.length_append, List.length_singleton]
    omega
theorem joinL_asc : ∀ {ws : List (List Nat)}, (∀ w ∈ ws, Asc w) → Asc (TL.joinL [32] ws)
  | [], _ => Asc.nil
  | [w], h => h w (by simp)
  | w :: u :: r, h => by
    show Asc (w ++ ([32] ++ TL.joinL [32] (u :: r)))
    exact (h w List.mem_cons_self).app ((Asc.of _ (by decide)).app (joinL_asc fun v hv => h v (List.mem_cons_of_mem _ hv)))
theorem text_tx {L : Nat} (hL : 4 ≤ L) {ws : List (List Nat)} (ha : ∀ w ∈ ws, Asc w) (h : ∀ w ∈ ws, w.length ≤ L ∧ 32 ∉ w) : Tx L ((L + 1) * ws.length + 4) (textOf ws) := by
  unfold textOf
  by_cases hn : ws = []
  · rw [if_pos hn]
    exact (Tx.small (N := 4) asc_none (by decide)).mono hL (by omega)
  · rw [if_neg hn]
    refine ⟨joinL_asc ha, fun w hw => ?_, Nat.le_trans (joinL_le fun w hw => (h w hw).1) (by omega)⟩
    rw [SX.spl_join hn fun w hw => (h w hw).2] at hw
    exact (h w hw).1
theorem Nums.ascs {p : Int} {ws : List (List Nat)} {ds : List D} (h : Nums p ws ds) : ∀ w ∈ ws, Asc w := by
  induction h with
  | nil => intro w hw; exact nomatch hw
  | cons h _ ih =>
    intro w hw
    rcases List.mem_cons.mp hw with rfl | hw
    · exact h.asc
    · exact ih w hw
theorem mxI_le {M : Int} : ∀ (r : List Int) (a : Int), a ≤ M → (∀ x ∈ r, x ≤ M) → mxI a r ≤ M
  | [], a, h, _ => h
  | b :: r, a, h, hr => by
    unfold mxI
    refine mxI_le r _ ?_ fun x hx => hr x (List.mem_cons_of_mem _ hx)
    split
    · exact hr b List.mem_cons_self
    · exact h
theorem asInts_map : ∀ l : List Int, asInts (l.map D.int) = some l
  | [] => rfl
  | i :: r => by
    rw [List.map_cons]
    show (asInts (r.map D.int)).map (i :: ·) = _
    rw [asInts_map r]; rfl
theorem o_max {M : Int} {l : List Int} (hne : l ≠ []) (h : ∀ x ∈ l, 1 ≤ x ∧ x ≤ M) : ∃ m, maxD [.lst (l.map D.int)] = .ok (.int m) ∧ 1 ≤ m ∧ m ≤ M ∧ ∀ x ∈ l, x ≤ m := by
  cases l with
  | nil => exact absurd rfl hne
  | cons a r =>
    refine ⟨mxI a r, ?_, ?_, mxI_le r a (h a List.mem_cons_self).2 (fun x hx => (h x (List.mem_cons_of_mem _ hx)).2), fun x hx => ?_⟩
    · unfold maxD
      simp only
      rw [asInts_map]
    · have := (mxI_ge r a).1
      have := (h a List.mem_cons_self).1
      omega
    · rcases List.mem_cons.mp hx with rfl | hx
      · exact (mxI_ge r _).1
      · exact (mxI_ge r a).2 x hx
theorem lens_comp {p : Int} {P B W : Option D} : ∀ {ws : List (List Nat)} {bs : List D}, Nums p ws bs → (∀ w ∈ ws, w.length ≤ 400) → compD [6] (putD 6) yesB (callF lenD (consA (callF den__law_text (consA (nmD 1) (consA (nmD 6) (nilA)))) (nilA))) [P, some (.int p), B, W, none, none, none] bs = .ok ((ws.map fun w => (w.length : Int)).map D.int) := by
  intro ws bs hh
  induction hh with
  | nil => intro _; rfl
  | cons h1 _ ih =>
    rename_i w ws d bs _
    intro hw
    have hwl := hw w List.mem_cons_self
    have hput : putD 6 d (wipeD [P, some (.int p), B, W, none, none, none] [6]) = .ok [P, some (.int p), B, W, none, none, some d] := by simp [wipeD]
    have hel : callF lenD (consA (callF den__law_text (consA (nmD 1) (consA (nmD 6) (nilA)))) (nilA)) [P, some (.int p), B, W, none, none, some d] = .ok (.int w.length) := by simp [h1.tx, o_lenT' (a := w) (by omega)]
    unfold compD
    rw [hput]
    simp only [R.bind_ok, yesB, if_true]
    rw [hel]
    simp only [R.bind_ok]
    rw [ih fun u hu => hw u (List.mem_cons_of_mem _ hu)]
    simp
theorem Nums.mem {p : Int} {ws : List (List Nat)} {ds : List D} (h : Nums p ws ds) : ∀ d ∈ ds, ∃ w ∈ ws, Num p w d := by
  induction h with
  | nil => intro d hd; exact nomatch hd
  | cons h _ ih =>
    intro e he
    rcases List.mem_cons.mp he with rfl | he
    · exact ⟨_, List.mem_cons_self, h⟩
    · obtain ⟨w, h1, h2⟩ := ih e he
      exact ⟨w, List.mem_cons_of_mem _ h1, h2⟩
theorem pick_comp {bs : List D} (hb : bs ≠ []) {P A B W5 : Option D} : ∀ (n k : Nat), ∃ es : List D, compD [5] (putD 5) yesB (b2 idxD (nmD 3) (b2 modD (nmD 5) (callF lenD (consA (nmD 3) (nilA))))) [P, A, B, some (.lst bs), W5, none, none] ((List.range' k n).map fun i : Nat => D.int i) = .ok es ∧ es.length = n ∧ ∀ e ∈ es, e ∈ bs := by
  intro n
  induction n with
  | zero => intro k; exact ⟨[], rfl, rfl, fun e he => nomatch he⟩
  | succ n ih =>
    intro k
    obtain ⟨es, i1, i2, i3⟩ := ih (k + 1)
    have hl : 0 < bs.length := by
      cases bs with
      | nil => exact absurd rfl hb
      | cons _ _ => simp
    have hlt : k % bs.length < bs.length := Nat.mod_lt _ hl
    refine ⟨bs[k % bs.length] :: es, ?_, by simp [i2], fun e he => ?_⟩
    · rw [List.range'_succ, List.map_cons]
      have hput : putD 5 (D.int k) (wipeD [P, A, B, some (.lst bs), W5, none, none] [5]) = .ok [P, A, B, some (.lst bs), W5, some (.int k), none] := by simp [wipeD]
      have hm : modD (.int k) (.int bs.length) = .ok (.int ((k % bs.length : Nat) : Int)) := by
        rw [o_modp (by omega)]
        congr 2
      have hi : idxD (.lst bs) (.int ((k % bs.length : Nat) : Int)) = .ok bs[k % bs.length] := idx_lst (by omega) (by
        have : (((k % bs.length : Nat) : Int)).toNat = k % bs.length := by omega
        rw [this, List.getElem?_eq_getElem hlt])
      have hel : b2 idxD (nmD 3) (b2 modD (nmD 5) (callF lenD (consA (nmD 3) (nilA)))) [P, A, B, some (.lst bs), W5, some (.int k), none] = .ok bs[k % bs.length] := by
        simp only [e_b2, e_nm, List.getElem?_cons_succ, List.getElem?_cons_zero, e_nmK, e_call, e_cons, e_nil, cons_ok, R.bind_ok, o_lenL, b2_ok, hm, hi]
      unfold compD
      rw [hput]
      simp only [R.bind_ok, yesB, if_true]
      rw [hel]
      simp only [R.bind_ok]
      rw [i1]
      simp
    · rcases List.mem_cons.mp he with rfl | he
      · exact List.getElem_mem hlt
      · exact i3 e he
theorem m_many {p : Int} (h : Fd p) {ps : List Int} (hp : Pv ps) (hl : ps.length = 150) {ds : List D} (hd : ∀ d ∈ ds, Draw p 11 d) (hdl : ds.length ≤ 100) : ∃ es M, den__law_many [.lst (ps.map D.int), .int p, .lst ds] = .ok (.lst es) ∧ (∀ d ∈ es, Draw p M d) ∧ es ≠ [] ∧ M ≤ 11 ∧ (M + 1) * es.length ≤ 9900 := by
  obtain ⟨d0, hd0, hD0⟩ := m_number h hp (t := 60) (by omega)
  obtain ⟨bs, hbs, hne, hB, hbl⟩ : ∃ bs : List D, DL.ifV (toB (b2 gtD (callF lenD (consA (nmD 2) (nilA))) (cD (.int 0)))) (nmD 2) (lstA (consA (callF den__law_number (consA (nmD 0) (consA (cD (.int 60)) (consA (nmD 1) (nilA))))) (nilA))) [some (.lst (ps.map D.int)), some (.int p), some (.lst ds), none, none, none, none] = .ok (.lst bs) ∧ bs ≠ [] ∧ (∀ d ∈ bs, Draw p 11 d) ∧ bs.length ≤ 100 := by
    cases ds with
    | nil =>
      have hd0' : den__law_number [.lst (ps.map D.int), .int 60, .int p] = .ok d0 := hd0
      exact ⟨[d0], by simp [hd0'], by simp, (fun d hh => by rw [List.mem_singleton.mp hh]; exact hD0), by simp⟩
    | cons a r =>
      have : (0 : Int) < (r.length : Int) + 1 := by omega
      exact ⟨a :: r, by simp [this], by simp, hd, hdl⟩
  obtain ⟨bw, hbN, hbW⟩ := draws hB
  have l1 := lens_comp (p := p) (P := some (.lst (ps.map D.int))) (B := some (.lst ds)) (W := some (.lst bs)) hbN (fun w hw => by have := (hbW w hw).1; omega)
  have l2 := hbN.len
  obtain ⟨ls, hls⟩ : ∃ ls, ls = bw.map fun w => (w.length : Int) := ⟨_, rfl⟩
  rw [← hls] at l1
  have l2' : ls.length = bs.length := by rw [hls, List.length_map]; omega
  have l3 : ∀ l ∈ ls, 1 ≤ l ∧ l ≤ 11 := fun l hl => by
    rw [hls] at hl
    obtain ⟨w, hw, rfl⟩ := List.mem_map.mp hl
    obtain ⟨h1, _, h3⟩ := hbW w hw
    have : w.length ≠ 0 := fun z => h3 (List.length_eq_zero_iff.mp z)
    omega
  obtain ⟨m, hm, m1, m2, m3⟩ := o_max (M := 11) (l := ls) (fun z => hne (List.length_eq_zero_iff.mp (by rw [← l2', z]; rfl))) l3
  have hBM : ∀ d ∈ bs, Draw p m.toNat d := fun d hd => by
    obtain ⟨w, hw, hN⟩ := hbN.mem d hd
    obtain ⟨_, h2, h3⟩ := hbW w hw
    have := m3 (w.length : Int) (by rw [hls]; exact List.mem_map.mpr ⟨w, hw, rfl⟩)
    exact ⟨w, hN, by omega, h2, h3⟩
  have e4 : callF maxD (consA (lcD [6] (itS (nmD 3)) (putD 6) (yesB) (callF lenD (consA (callF den__law_text (consA (nmD 1) (consA (nmD 6) (nilA)))) (nilA)))) (nilA)) [some (.lst (ps.map D.int)), some (.int p), some (.lst ds), some (.lst bs), none, none, none] = .ok (.int m) := by
    have e5 : lcD [6] (itS (nmD 3)) (putD 6) (yesB) (callF lenD (consA (callF den__law_text (consA (nmD 1) (consA (nmD 6) (nilA)))) (nilA))) [some (.lst (ps.map D.int)), some (.int p), some (.lst ds), some (.lst bs), none, none, none] = .ok (.lst (ls.map D.int)) := by
      have hi : itS (nmD 3) [some (.lst (ps.map D.int)), some (.int p), some (.lst ds), some (.lst bs), none, none, none] = .ok bs := by simp
      unfold lcD
      rw [hi]
      simp only [R.bind_ok]
      rw [l1]
      simp only [R.ne_ok, R.bind_ok, List.length_map]
      rw [if_pos (sl_le (by omega))]
    rw [e_call, e_cons, e5, e_nil, cons_ok, R.bind_ok, hm]
  have hdk : divOk (m + 1) = true := by
    refine Bz.divOk (by omega) ?_
    exact (Bz.lit (k := 4) (m := 13) (by omega) (by decide)).mono (by decide)
  obtain ⟨n, hn⟩ : ∃ n : Nat, 9900 / (m + 1) = (n : Int) := ⟨(9900 / (m + 1)).toNat, by
    have : 0 ≤ 9900 / (m + 1) := Int.ediv_nonneg (by decide) (by omega)
    omega⟩
  have hn5 : n ≤ 5000 := by
    have : 9900 / (m + 1) < 5000 := Int.ediv_lt_of_lt_mul (by omega) (by omega)
    omega
  have hn0 : 0 < n := by
    have : 1 ≤ 9900 / (m + 1) := (Int.le_ediv_iff_mul_le (by omega)).mpr (by omega)
    omega
  obtain ⟨es, i1, i2, i3⟩ := pick_comp hne (P := some (.lst (ps.map D.int))) (A := some (.int p)) (B := some (.lst ds)) (W5 := some (.int m)) n 0
  have er := rgK_nat (n := n) (by omega)
  rw [ints_range] at er
  have e6 : lcD [5] (rng1 (consA (b2 fdivD (cD (.int 9900)) (b2 addD (nmD 4) (cD (.int 1)))) (nilA))) (putD 5) (yesB) (b2 idxD (nmD 3) (b2 modD (nmD 5) (callF lenD (consA (nmD 3) (nilA))))) [some (.lst (ps.map D.int)), some (.int p), some (.lst ds), some (.lst bs), some (.int m), none, none] = .ok (.lst es) := by
    have hi : rng1 (consA (b2 fdivD (cD (.int 9900)) (b2 addD (nmD 4) (cD (.int 1)))) (nilA)) [some (.lst (ps.map D.int)), some (.int p), some (.lst ds), some (.lst bs), some (.int m), none, none] = .ok ((List.range' 0 n).map fun i : Nat => D.int i) := by
      have hf : fdivD (.int 9900) (.int (m + 1)) = .ok (.int n) := by rw [o_fdivp hdk (by omega), hn]
      simp only [e_rng1, e_cons, e_b2, e_c, e_nm, List.getElem?_cons_succ, List.getElem?_cons_zero, e_nmK, b2_ok, o_add, hf, e_nil, cons_ok, R.bind_ok, er]
    unfold lcD
    rw [hi]
    simp only [R.bind_ok]
    rw [i1]
    simp only [R.ne_ok, R.bind_ok]
    rw [if_pos (sl_le (by omega))]
  have hprod : (m + 1) * (n : Int) ≤ 9900 := by rw [← hn]; exact Int.mul_ediv_self_le (by omega)
  refine ⟨es, m.toNat, ?_, (fun d hh => hBM d (i3 d hh)), (fun z => by rw [z] at i2; simp at i2; omega), by omega, ?_⟩
  rotate_left
  · have e1 : ((m.toNat + 1 : Nat) : Int) = m + 1 := by omega
    have e2 : (((m.toNat + 1) * es.length : Nat) : Int) = (m + 1) * (n : Int) := by rw [Int.natCast_mul, e1, i2]
    omega
  rw [den__law_many, e_run]
  unfold body__law_many
  have s0 : startD 7 [.lst (ps.map D.int), .int p, .lst ds] = [some (.lst (ps.map D.int)), some (.int p), some (.lst ds), none, none, none, none] := rfl
  rw [s0, e_seq, e_set, hbs, wi_ok, e_stK]
  simp only [List.length_cons, List.length_nil, List.set_cons_succ, List.set_cons_zero]
  rw [if_pos (by decide), sq_nx, e_seq, e_set, e4, wi_ok, e_stK]
  simp only [List.length_cons, List.length_nil, List.set_cons_succ, List.set_cons_zero]
  rw [if_pos (by decide), sq_nx, e_ret, e6]
  rfl
end DL

set_option maxRecDepth 100001
set_option maxHeartbeats 4000001
set_option exponentiation.threshold 2000
namespace DL
open PySem PySem.Spec PyProof.Rows L2
theorem seq_nx {g h : DEnv → Fl} {δ δ' : DEnv} {r : Fl} (h1 : g δ = .nx δ') (h2 : h δ' = r) : seqF g h δ = r := by rw [e_seq, h1]; exact h2
theorem run_rt {m : Nat} {g : DEnv → Fl} {ds : List D} {d : D} (h : g (startD m ds) = .rt d) : runD m g ds = .ok d := by rw [e_run, h]; rfl
theorem prime_of (i : Int) (h0 : 0 ≤ i) (h1 : i < 6) : ∃ p, Fd p ∧ idxD (.tup [.int 2, .int 3, .int 5, .int 7, .int 11, .int 0]) (.int i) = .ok (.int p) := by
  rcases (show i = 0 ∨ i = 1 ∨ i = 2 ∨ i = 3 ∨ i = 4 ∨ i = 5 by omega) with rfl | rfl | rfl | rfl | rfl | rfl
  · exact ⟨2, .inr (by unfold Pm; omega), idx_tup (by decide) rfl⟩
  · exact ⟨3, .inr (by unfold Pm; omega), idx_tup (by decide) rfl⟩
  · exact ⟨5, .inr (by unfold Pm; omega), idx_tup (by decide) rfl⟩
  · exact ⟨7, .inr (by unfold Pm; omega), idx_tup (by decide) rfl⟩
  · exact ⟨11, .inr (by unfold Pm; omega), idx_tup (by decide) rfl⟩
  · exact ⟨0, .inl rfl, idx_tup (by decide) rfl⟩
noncomputable def bK1 : DEnv → Fl := seqF (setF 7 (callF den_write_number (consA (nmD 2) (consA (b2 idxD (nmD 3) (nmD 8)) (nilA))))) (seqF (ifF (orB (notB (toT (u1 (isiD "str") (nmD 7)))) (orB (toB (b2 neD (nmD 7) (b2 idxD (nmD 5) (nmD 8)))) (notB (toT (callF den__law_number_read (consA (nmD 2) (consA (b2 idxD (nmD 5) (nmD 8)) (nilA)))))))) (retF (cD (.bl false))) (nxD)) (nxD))
noncomputable def bK2 : DEnv → Fl := seqF (setF 14 (callF den__law_odd (consA (b2 idxD (nmD 1) (b2 addD (cD (.int 2)) (nmD 8))) (nilA)))) (seqF (ifF (orB (notB (toT (callF den__law_number_read (consA (nmD 2) (consA (nmD 14) (nilA)))))) (notB (toT (callF den__law_values_read (consA (nmD 2) (consA (nmD 14) (nilA))))))) (retF (cD (.bl false))) (nxD)) (seqF (ifF (notB (toT (callF den__law_values_read (consA (nmD 2) (consA (callF den__law_spoilt (consA (nmD 6) (consA (nmD 1) (consA (b2 addD (cD (.int 74)) (b2 mulD (cD (.int 4)) (nmD 8))) (nilA))))) (nilA)))))) (retF (cD (.bl false))) (nxD)) (seqF (ifF (andB (toB (b2 ltD (nmD 8) (callF lenD (consA (nmD 5) (nilA))))) (notB (toT (callF den__law_number_read (consA (nmD 2) (consA (callF den__law_spoilt (consA (b2 idxD (nmD 5) (nmD 8)) (consA (nmD 1) (consA (b2 addD (cD (.int 75)) (b2 mulD (cD (.int 4)) (nmD 8))) (nilA))))) (nilA))))))) (retF (cD (.bl false))) (nxD)) (nxD))))

theorem num_comp {p : Int} (h : Fd p) {ps : List Int} (hp : Pv ps) (hl : ps.length = 150) {a0 a3 a4 a5 a6 a7 a9 a10 a11 a12 a13 a14 a15 : Option D} : ∀ (n k : Nat), k + n ≤ 8 → ∃ es : List D, compD [8] (putD 8) yesB (callF den__law_number (consA (nmD 1) (consA (b2 addD (cD (.int 10)) (b2 mulD (cD (.int 4)) (nmD 8))) (consA (nmD 2) (nilA))))) [a0, some (.lst (ps.map D.int)), some (.int p), a3, a4, a5, a6, a7, none, a9, a10, a11, a12, a13, a14, a15] ((List.range' k n).map fun i : Nat => D.int i) = .ok es ∧ es.length = n ∧ ∀ e ∈ es, Draw p 11 e := by
  intro n
  induction n with
  | zero => intro k _; exact ⟨[], rfl, rfl, fun e he => nomatch he⟩
  | succ n ih =>
    intro k hk
    obtain ⟨es, i1, i2, i3⟩ := ih (k + 1) (by omega)
    obtain ⟨d, hd, hD⟩ := m_number h hp (t := 10 + 4 * k) (by omega)
    have hd' : den__law_number [.lst (ps.map D.int), .int (10 + 4 * (k : Int)), .int p] = .ok d := by
      have : ((10 + 4 * k : Nat) : Int) = 10 + 4 * (k : Int) := by omega
      rw [← this]; exact hd
    refine ⟨d :: es, ?_, by simp [i2], fun e he => ?_⟩
    · rw [List.range'_succ, List.map_cons]
      have hput : putD 8 (D.int k) (wipeD [a0, some (.lst (ps.map D.int)), some (.int p), a3, a4, a5, a6, a7, none, a9, a10, a11, a12, a13, a14, a15] [8]) = .ok [a0, some (.lst (ps.map D.int)), some (.int p), a3, a4, a5, a6, a7, some (.int k), a9, a10, a11, a12, a13, a14, a15] := by simp [wipeD]
      have hm : mulOk 4 (k : Int) = true := mulOk_l (by decide) (by decide)
      have hel : callF den__law_number (consA (nmD 1) (consA (b2 addD (cD (.int 10)) (b2 mulD (cD (.int 4)) (nmD 8))) (consA (nmD 2) (nilA)))) [a0, some (.lst (ps.map D.int)), some (.int p), a3, a4, a5, a6, a7, some (.int k), a9, a10, a11, a12, a13, a14, a15] = .ok d := by
        simp [o_mul hm, hd']
      unfold compD
      rw [hput]
      simp only [R.bind_ok, yesB, if_true]
      rw [hel]
      simp only [R.bind_ok]
      rw [i1]
      simp
    · rcases List.mem_cons.mp he with rfl | he
      · exact hD
      · exact i3 e he
theorem txt_comp {p : Int} {a0 a1 a3 a4 a5 a6 a7 a8 a9 a10 a11 a12 a13 a14 : Option D} : ∀ {ws : List (List Nat)} {es : List D}, Nums p ws es → compD [15] (putD 15) yesB (callF den__law_text (consA (nmD 2) (consA (nmD 15) (nilA)))) [a0, a1, some (.int p), a3, a4, a5, a6, a7, a8, a9, a10, a11, a12, a13, a14, none] es = .ok (ws.map dT) := by
  intro ws es hh
  induction hh with
  | nil => rfl
  | cons h _ ih =>
    rename_i w ws d es _
    have hput : putD 15 d (wipeD [a0, a1, some (.int p), a3, a4, a5, a6, a7, a8, a9, a10, a11, a12, a13, a14, none] [15]) = .ok [a0, a1, some (.int p), a3, a4, a5, a6, a7, a8, a9, a10, a11, a12, a13, a14, some d] := by simp [wipeD]
    unfold compD
    rw [hput]
    simp only [R.bind_ok, yesB, if_true]
    have hel : callF den__law_text (consA (nmD 2) (consA (nmD 15) (nilA))) [a0, a1, some (.int p), a3, a4, a5, a6, a7, a8, a9, a10, a11, a12, a13, a14, some d] = .ok (dT w) := by simp [h.tx, dT]
    rw [hel]
    simp only [R.bind_ok, ih]
    rfl
theorem lc_txt {p : Int} {a0 a1 a3 a4 a5 a6 a7 a8 a9 a10 a11 a12 a13 a14 : Option D} {ws : List (List Nat)} {es : List D} (h : Nums p ws es) (hl : ws.length ≤ 100000) {f : DEnv → R (List D)} (hf : f [a0, a1, some (.int p), a3, a4, a5, a6, a7, a8, a9, a10, a11, a12, a13, a14, none] = .ok es) : lcD [15] f (putD 15) yesB (callF den__law_text (consA (nmD 2) (consA (nmD 15) (nilA)))) [a0, a1, some (.int p), a3, a4, a5, a6, a7, a8, a9, a10, a11, a12, a13, a14, none] = .ok (.lst (ws.map dT)) := by
  unfold lcD
  rw [hf]
  simp only [R.bind_ok]
  rw [txt_comp h]
  simp only [R.ne_ok, R.bind_ok, List.length_map]
  rw [if_pos (sl_le hl)]
theorem k1_loop {p : Int} (hf : Fd p) {ws : List (List Nat)} {ds : List D} (h : Nums p ws ds) (hw : ∀ w ∈ ws, w.length ≤ 400) {a0 a1 a4 a6 a9 a10 a11 a12 a13 a14 a15 : Option D} : ∀ (n k : Nat) (x y : Option D), n + k = ds.length → ∃ x' y', forD (putD 8) bK1 ((List.range' k n).map fun i : Nat => D.int i) [a0, a1, some (.int p), some (.lst ds), a4, some (.lst (ws.map dT)), a6, x, y, a9, a10, a11, a12, a13, a14, a15] = .nx [a0, a1, some (.int p), some (.lst ds), a4, some (.lst (ws.map dT)), a6, x', y', a9, a10, a11, a12, a13, a14, a15] := by
  intro n
  induction n with
  | zero => intro k x y _; exact ⟨x, y, rfl⟩
  | succ n ih =>
    intro k x y hk
    obtain ⟨w, d, h1, h2, h3⟩ := h.at k (by omega)
    obtain ⟨x', y', e'⟩ := ih (k + 1) (some (.str (TS w))) (some (.int k)) (by omega)
    refine ⟨x', y', ?_⟩
    rw [List.range'_succ, List.map_cons]
    unfold forD
    have hput : putD 8 (D.int k) [a0, a1, some (.int p), some (.lst ds), a4, some (.lst (ws.map dT)), a6, x, y, a9, a10, a11, a12, a13, a14, a15] = .ok [a0, a1, some (.int p), some (.lst ds), a4, some (.lst (ws.map dT)), a6, x, some (.int k), a9, a10, a11, a12, a13, a14, a15] := by simp
    have hi : idxD (.lst ds) (.int k) = .ok d := idx_lst (by omega) (by simpa using h1)
    have hi2 : idxD (.lst (ws.map dT)) (.int k) = .ok (.str (TS w)) := idx_lst (by omega) (by
      have : ((k : Nat) : Int).toNat = k := by omega
      rw [this, List.getElem?_map, h2]; rfl)
    have hr := m_number_read hf h3.asc (hw w (List.mem_of_getElem? h2))
    have hb : bK1 [a0, a1, some (.int p), some (.lst ds), a4, some (.lst (ws.map dT)), a6, x, some (.int k), a9, a10, a11, a12, a13, a14, a15] = .nx [a0, a1, some (.int p), some (.lst ds), a4, some (.lst (ws.map dT)), a6, some (.str (TS w)), some (.int k), a9, a10, a11, a12, a13, a14, a15] := by
      simp [bK1, hi, hi2, h3.wr, hr, o_neT h3.asc h3.asc]
    rw [hput]
    simp only [hb]
    exact e'
theorem k2_loop {p : Int} (hf : Fd p) {ps : List Int} (hp : Pv ps) (hl : ps.length = 150) {ws : List (List Nat)} (hwa : ∀ w ∈ ws, Asc w ∧ w.length ≤ 11) {tx : List Nat} (ht : Tx 100 5000 tx) {a0 a3 a4 a7 a9 a10 a11 a12 a13 a15 : Option D} : ∀ (n k : Nat) (x y : Option D), n + k = 4 → ∃ x' y', forD (putD 8) bK2 ((List.range' k n).map fun i : Nat => D.int i) [a0, some (.lst (ps.map D.int)), some (.int p), a3, a4, some (.lst (ws.map dT)), some (.str (TS tx)), a7, x, a9, a10, a11, a12, a13, y, a15] = .nx [a0, some (.lst (ps.map D.int)), some (.int p), a3, a4, some (.lst (ws.map dT)), some (.str (TS tx)), a7, x', a9, a10, a11, a12, a13, y', a15] := by
  intro n
  induction n with
  | zero => intro k x y _; exact ⟨x, y, rfl⟩
  | succ n ih =>
    intro k x y hk
    have i2 : idxD (.lst (ps.map D.int)) (.int (2 + (k : Int))) = .ok (.int (gp ps (2 + k))) := by
      have : (2 + (k : Int)) = ((2 + k : Nat) : Int) := by omega
      rw [this]; exact ix_pool (by omega)
    obtain ⟨o, ho, to⟩ := m_odd (gp_ok hp (2 + k)).1
    obtain ⟨x', y', e'⟩ := ih (k + 1) (some (.int k)) (some (.str (TS o))) (by omega)
    refine ⟨x', y', ?_⟩
    rw [List.range'_succ, List.map_cons]
    unfold forD
    have hput : putD 8 (D.int k) [a0, some (.lst (ps.map D.int)), some (.int p), a3, a4, some (.lst (ws.map dT)), some (.str (TS tx)), a7, x, a9, a10, a11, a12, a13, y, a15] = .ok [a0, some (.lst (ps.map D.int)), some (.int p), a3, a4, some (.lst (ws.map dT)), some (.str (TS tx)), a7, some (.int k), a9, a10, a11, a12, a13, y, a15] := by simp
    have hm : mulOk 4 (k : Int) = true := mulOk_l (by decide) (by decide)
    obtain ⟨b1, s1, t1⟩ := m_spoilt ht (by decide) hp (t := 74 + 4 * k) (by omega)
    have s1' : den__law_spoilt [.str (TS tx), .lst (ps.map D.int), .int (74 + 4 * (k : Int))] = .ok (.str (TS b1)) := by
      have : ((74 + 4 * k : Nat) : Int) = 74 + 4 * (k : Int) := by omega
      rw [← this]; exact s1
    have r1 := number_read hf to (by decide)
    have r2 := values_read hf to (by decide) (by decide)
    have r3 := values_read hf t1 (by decide) (by decide)
    have hb : bK2 [a0, some (.lst (ps.map D.int)), some (.int p), a3, a4, some (.lst (ws.map dT)), some (.str (TS tx)), a7, some (.int k), a9, a10, a11, a12, a13, y, a15] = .nx [a0, some (.lst (ps.map D.int)), some (.int p), a3, a4, some (.lst (ws.map dT)), some (.str (TS tx)), a7, some (.int k), a9, a10, a11, a12, a13, some (.str (TS o)), a15] := by
      by_cases hlt : (k : Int) < (ws.length : Int)
      · have hk2 : k < ws.length := by omega
        obtain ⟨wa, wl⟩ := hwa _ (List.getElem_mem hk2)
        have hi2 : idxD (.lst (ws.map dT)) (.int k) = .ok (.str (TS ws[k])) := idx_lst (by omega) (by
          have : ((k : Nat) : Int).toNat = k := by omega
          rw [this, List.getElem?_map, List.getElem?_eq_getElem hk2]; rfl)
        obtain ⟨b2', s2, t2⟩ := m_spoilt (Tx.small wa wl) (by decide) hp (t := 75 + 4 * k) (by omega)
        have s2' : den__law_spoilt [.str (TS ws[k]), .lst (ps.map D.int), .int (75 + 4 * (k : Int))] = .ok (.str (TS b2')) := by
          have : ((75 + 4 * k : Nat) : Int) = 75 + 4 * (k : Int) := by omega
          rw [← this]; exact s2
        have r4 := number_read hf t2 (by decide)
        simp [bK2, i2, ho, r1, r2, s1', o_mul hm, r3, hlt, hi2, s2', r4]
      · simp [bK2, i2, ho, r1, r2, s1', o_mul hm, r3, hlt]
    rw [hput]
    simp only [hb]
    exact e'
end DL

set_option maxRecDepth 100001
set_option maxHeartbeats 8000001
set_option exponentiation.threshold 2000
namespace DL
open PySem PySem.Spec PyProof.Rows L2
theorem den_law_true (ns : List Int) (hn : ns.length ≤ 63) : den_law [.scr (ns.map D.int)] = .ok (.bl true) := by
  obtain ⟨ps, e1, hl, hp⟩ := m_pool (c := 150) (by decide) hn
  have e1 : den__law_pool [.scr (ns.map D.int), .int 150] = .ok (.lst (ps.map D.int)) := e1
  have ix : ∀ {i : Nat}, i < 150 → idxD (.lst (ps.map D.int)) (.int (i : Nat)) = .ok (.int (gp ps i)) := fun h => ix_pool (by omega)
  have i0 : idxD (.lst (ps.map D.int)) (.int 0) = .ok (.int (gp ps 0)) := ix (i := 0) (by decide)
  have i1 : idxD (.lst (ps.map D.int)) (.int 1) = .ok (.int (gp ps 1)) := ix (i := 1) (by decide)
  have i95 : idxD (.lst (ps.map D.int)) (.int 95) = .ok (.int (gp ps 95)) := ix (i := 95) (by decide)
  have g := gp_ok hp
  obtain ⟨p, hf, e2⟩ := prime_of (gp ps 0 % 6) (by omega) (by omega)
  obtain ⟨n, hnn⟩ : ∃ n : Nat, gp ps 1 % 8 = (n : Int) := ⟨(gp ps 1 % 8).toNat, by omega⟩
  have hn8 : n ≤ 7 := by omega
  obtain ⟨ds, c1, c2, c3⟩ := num_comp hf hp hl (a0 := some (.scr (ns.map D.int))) (a3 := none) (a4 := none) (a5 := none) (a6 := none) (a7 := none) (a9 := none) (a10 := none) (a11 := none) (a12 := none) (a13 := none) (a14 := none) (a15 := none) n 0 (by omega)
  obtain ⟨ws, hN, hW⟩ := draws c3
  have hlen := hN.len
  have hasc := hN.ascs
  have tT := text_tx (L := 11) (by decide) hasc (fun w hw => ⟨(hW w hw).1, (hW w hw).2.1⟩)
  have tT := tT.mono (M := 100) (K := 5000) (by decide) (by omega)
  have hgood := hN.good
  have er := rgK_nat (n := n) (by omega)
  rw [ints_range] at er
  -- numbers written
  have ew := m_write_values hN (by have := tT.len; omega) (by omega)
  have eself : neD (.lst ds) (.lst ds) = .ok (.bl false) := neD_refl (by rw [shp]; exact hgood.2.2)
  -- large numbers
  obtain ⟨d1, n1, q1, L1, ⟨w1, N1, l1, _, _⟩, D1, B1⟩ := m_large hp (t := 40) (m := 9) (by omega) (by decide) (by decide)
  obtain ⟨d2, n2, q2, L2, ⟨w2, N2, l2, _, _⟩, D2, B2⟩ := m_large hp (t := 100) (m := 20) (by omega) (by decide) (by decide)
  have L1 : den__law_large [.lst (ps.map D.int), .int 40, .int 9] = .ok d1 := L1
  have L2 : den__law_large [.lst (ps.map D.int), .int 100, .int 20] = .ok d2 := L2
  have wtx : ∀ {d : D} {m q : Int} {w : List Nat}, Num 0 w d → w.length ≤ 130 → d = .tup [.int m, .int q] → m.natAbs < 10 ^ 70 → ∃ v, (∀ δ : DEnv, ∀ f : DEnv → R D, δ[2]? = some (some (.int p)) → f δ = .ok d → DL.ifV (toB (b2 eqD (nmD 2) (cD (.int 0)))) (callF den__law_text (consA (cD (.int 0)) (consA f (nilA)))) (callF strD (consA (b2 idxD f (cD (.int 0))) (nilA))) δ = .ok (.str (TS v))) ∧ Tx 130 130 v := by
    intro d m q w hw hwl hd hm
    by_cases hp0 : p = 0
    · refine ⟨w, fun δ f h2 hfd => ?_, Tx.small hw.asc hwl⟩
      have ht := hw.tx
      simp [h2, hfd, hp0, ht]
    · refine ⟨numS m, fun δ f h2 hfd => ?_, Tx.small (Asc.num m) (by have := numS_len (k := 70) (by decide) hm; omega)⟩
      have hb : Bz 1920 m := bz_of (Nat.lt_of_lt_of_le hm (Nat.pow_le_pow_right (by decide) (by decide)))
      subst hd
      simp [h2, hfd, hp0, o_str hb]
  obtain ⟨v1, V1, T1⟩ := wtx N1 l1 D1 B1
  obtain ⟨v2, V2, T2⟩ := wtx N2 l2 D2 B2
  have rT := values_read hf tT (by decide) (by decide)
  have rv1 := number_read hf T1 (by decide)
  have rv2 := number_read hf T2 (by decide)
  obtain ⟨b90, s90, t90⟩ := m_spoilt T1 (by decide) hp (t := 90) (by omega)
  have s90 : den__law_spoilt [.str (TS v1), .lst (ps.map D.int), .int 90] = .ok (.str (TS b90)) := s90
  have r90 := number_read hf t90 (by decide)
  have hb : body_law = seqF (setF 1 (callF den__law_pool (consA (nmD 0) (consA (cD (.int 150)) (nilA))))) (seqF (setF 2 (b2 idxD (tupA (consA (cD (.int 2)) (consA (cD (.int 3)) (consA (cD (.int 5)) (consA (cD (.int 7)) (consA (cD (.int 11)) (consA (cD (.int 0)) (nilA)))))))) (b2 modD (callF intAD (consA (b2 idxD (nmD 1) (cD (.int 0))) (nilA))) (cD (.int 6))))) (seqF (setF 3 (lcD [8] (rng1 (consA (b2 modD (callF intAD (consA (b2 idxD (nmD 1) (cD (.int 1))) (nilA))) (cD (.int 8))) (nilA))) (putD 8) (yesB) (callF den__law_number (consA (nmD 1) (consA (b2 addD (cD (.int 10)) (b2 mulD (cD (.int 4)) (nmD 8))) (consA (nmD 2) (nilA))))))) (seqF (setF 4 (callF listD (consA (nmD 3) (nilA)))) (seqF (setF 5 (lcD [15] (itS (nmD 3)) (putD 15) (yesB) (callF den__law_text (consA (nmD 2) (consA (nmD 15) (nilA)))))) (seqF (setF 6 (ifV (toB (b2 gtD (callF lenD (consA (nmD 5) (nilA))) (cD (.int 0)))) (m1D joiD (cD (.str (PySem.Str.ofString " "))) (nmD 5)) (cD (.str (PySem.Str.ofString "none"))))) (seqF (setF 7 (callF den_write_values (consA (nmD 2) (consA (nmD 3) (nilA))))) (seqF (ifF (orB (notB (toT (u1 (isiD "str") (nmD 7)))) (orB (toB (b2 neD (nmD 7) (nmD 6))) (toB (b2 neD (nmD 3) (nmD 4))))) (retF (cD (.bl false))) (nxD)) (seqF (forF (rng1 (consA (callF lenD (consA (nmD 3) (nilA))) (nilA))) (putD 8) bK1) (seqF (parF 10 11 (consA (callF den__law_large (consA (nmD 1) (consA (cD (.int 40)) (consA (cD (.int 9)) (nilA))))) (consA (callF den__law_large (consA (nmD 1) (consA (cD (.int 100)) (consA (cD (.int 20)) (nilA))))) (nilA)))) (seqF (setF 9 (ifV (toB (b2 eqD (nmD 2) (cD (.int 0)))) (callF den__law_text (consA (cD (.int 0)) (consA (nmD 10) (nilA)))) (callF strD (consA (b2 idxD (nmD 10) (cD (.int 0))) (nilA))))) (seqF (ifF (orB (notB (toT (callF den__law_values_read (consA (nmD 2) (consA (nmD 6) (nilA)))))) (notB (toT (callF den__law_number_read (consA (nmD 2) (consA (nmD 9) (nilA))))))) (retF (cD (.bl false))) (nxD)) (seqF (ifF (notB (toT (callF den__law_number_read (consA (nmD 2) (consA (ifV (toB (b2 eqD (nmD 2) (cD (.int 0)))) (callF den__law_text (consA (cD (.int 0)) (consA (nmD 11) (nilA)))) (callF strD (consA (b2 idxD (nmD 11) (cD (.int 0))) (nilA)))) (nilA)))))) (retF (cD (.bl false))) (nxD)) (seqF (ifF (toB (b2 eqD (b2 modD (callF intAD (consA (b2 idxD (nmD 1) (cD (.int 95))) (nilA))) (cD (.int 8))) (cD (.int 0)))) (seqF (setF 12 (callF den__law_many (consA (nmD 1) (consA (nmD 2) (consA (nmD 3) (nilA)))))) (seqF (setF 13 (m1D joiD (cD (.str (PySem.Str.ofString " "))) (lcD [15] (itS (nmD 12)) (putD 15) (yesB) (callF den__law_text (consA (nmD 2) (consA (nmD 15) (nilA))))))) (seqF (ifF (orB (toB (b2 neD (callF den_write_values (consA (nmD 2) (consA (nmD 12) (nilA)))) (nmD 13))) (notB (toT (callF den__law_values_read (consA (nmD 2) (consA (nmD 13) (nilA))))))) (retF (cD (.bl false))) (nxD)) (seqF (ifF (notB (toT (callF den__law_values_read (consA (nmD 2) (consA (callF den__law_spoilt (consA (nmD 13) (consA (nmD 1) (consA (cD (.int 70)) (nilA))))) (nilA)))))) (retF (cD (.bl false))) (nxD)) (nxD))))) (nxD)) (seqF (forF (rng1 (consA (cD (.int 4)) (nilA))) (putD 8) bK2) (retF (callF den__law_number_read (consA (nmD 2) (consA (callF den__law_spoilt (consA (nmD 9) (consA (nmD 1) (consA (cD (.int 90)) (nilA))))) (nilA))))))))))))))))))) := rfl
  rw [den_law]
  apply run_rt
  rw [hb]
  have s0 : startD 16 [.scr (ns.map D.int)] = [some (.scr (ns.map D.int)), none, none, none, none, none, none, none, none, none, none, none, none, none, none, none] := rfl
  rw [s0]
  refine seq_nx (by simp [e1]; rfl) ?_
  refine seq_nx (by simp [i0, o_modp, e2]; rfl) ?_
  have f3 : lcD [8] (rng1 (consA (b2 modD (callF intAD (consA (b2 idxD (nmD 1) (cD (.int 1))) (nilA))) (cD (.int 8))) (nilA))) (putD 8) (yesB) (callF den__law_number (consA (nmD 1) (consA (b2 addD (cD (.int 10)) (b2 mulD (cD (.int 4)) (nmD 8))) (consA (nmD 2) (nilA))))) [some (.scr (ns.map D.int)), some (.lst (ps.map D.int)), some (.int p), none, none, none, none, none, none, none, none, none, none, none, none, none] = .ok (.lst ds) := by
    have hi : rng1 (consA (b2 modD (callF intAD (consA (b2 idxD (nmD 1) (cD (.int 1))) (nilA))) (cD (.int 8))) (nilA)) [some (.scr (ns.map D.int)), some (.lst (ps.map D.int)), some (.int p), none, none, none, none, none, none, none, none, none, none, none, none, none] = .ok ((List.range' 0 n).map fun i : Nat => D.int i) := by
      simp [i1, o_modp, hnn, er]
    unfold lcD
    rw [hi]
    simp only [R.bind_ok]
    rw [c1]
    simp only [R.ne_ok, R.bind_ok]
    rw [if_pos (sl_le (by omega))]
  refine seq_nx (by simp [f3, -e_lc]; rfl) ?_
  refine seq_nx (by simp; rfl) ?_
  refine seq_nx (by rw [e_set, lc_txt hN (by omega) (by simp)]; simp; rfl) ?_
  -- the text
  have f6 : ∀ (δ : DEnv), δ[5]? = some (some (.lst (ws.map dT))) → DL.ifV (toB (b2 gtD (callF lenD (consA (nmD 5) (nilA))) (cD (.int 0)))) (m1D joiD (cD (.str (PySem.Str.ofString " "))) (nmD 5)) (cD (.str (PySem.Str.ofString "none"))) δ = .ok (.str (TS (textOf ws))) := by
    intro δ hδ
    cases hws : ws with
    | nil => rw [hws] at hδ; simp [hδ, textOf]
    | cons w r =>
      rw [← hws]
      have hpos : 0 < ws.length := by rw [hws]; simp
      have hne : ¬ ws = [] := by rw [hws]; simp
      have hj := o_join (ws := ws) (by have := tT.len; unfold textOf at this; rw [if_neg hne] at this; omega)
      simp [hδ, hpos, hj, textOf, hne]
  refine seq_nx (by rw [e_set, f6 _ (by simp)]; simp; rfl) ?_
  refine seq_nx (by simp [ew]; rfl) ?_
  refine seq_nx (by simp [eself, o_neT tT.asc tT.asc]; rfl) ?_
  -- each number
  have ern := rgK_nat (n := ds.length) (by omega)
  rw [ints_range] at ern
  obtain ⟨x7, x8, k1⟩ := k1_loop hf hN (fun w hw => by have := (hW w hw).1; omega) (a0 := some (.scr (ns.map D.int))) (a1 := some (.lst (ps.map D.int))) (a4 := some (.lst ds)) (a6 := some (.str (TS (textOf ws)))) (a9 := none) (a10 := none) (a11 := none) (a12 := none) (a13 := none) (a14 := none) (a15 := none) ds.length 0 (some (.str (TS (textOf ws)))) none (by omega)
  refine seq_nx (by simp [ern, k1]; rfl) ?_
  refine seq_nx (by simp [L1, L2]; rfl) ?_
  refine seq_nx (by rw [e_set, V1 _ (nmD 10) (by simp) (by simp)]; simp; rfl) ?_
  refine seq_nx (by simp [rT, rv1]; rfl) ?_
  refine seq_nx (by
    have := V2 [some (.scr (ns.map D.int)), some (.lst (ps.map D.int)), some (.int p), some (.lst ds), some (.lst ds), some (.lst (ws.map dT)), some (.str (TS (textOf ws))), x7, x8, some (.str (TS v1)), some d1, some d2, none, none, none, none] (nmD 11) (by simp) (by simp)
    rw [e_if, e_notB, e_toT, e_call, e_cons, e_cons, this]
    simp [rv2]
    rfl) ?_
  -- many numbers
  have fm : ∃ y12 y13, ifF (toB (b2 eqD (b2 modD (callF intAD (consA (b2 idxD (nmD 1) (cD (.int 95))) (nilA))) (cD (.int 8))) (cD (.int 0)))) (seqF (setF 12 (callF den__law_many (consA (nmD 1) (consA (nmD 2) (consA (nmD 3) (nilA)))))) (seqF (setF 13 (m1D joiD (cD (.str (PySem.Str.ofString " "))) (lcD [15] (itS (nmD 12)) (putD 15) (yesB) (callF den__law_text (consA (nmD 2) (consA (nmD 15) (nilA))))))) (seqF (ifF (orB (toB (b2 neD (callF den_write_values (consA (nmD 2) (consA (nmD 12) (nilA)))) (nmD 13))) (notB (toT (callF den__law_values_read (consA (nmD 2) (consA (nmD 13) (nilA))))))) (retF (cD (.bl false))) (nxD)) (seqF (ifF (notB (toT (callF den__law_values_read (consA (nmD 2) (consA (callF den__law_spoilt (consA (nmD 13) (consA (nmD 1) (consA (cD (.int 70)) (nilA))))) (nilA)))))) (retF (cD (.bl false))) (nxD)) (nxD))))) (nxD) [some (.scr (ns.map D.int)), some (.lst (ps.map D.int)), some (.int p), some (.lst ds), some (.lst ds), some (.lst (ws.map dT)), some (.str (TS (textOf ws))), x7, x8, some (.str (TS v1)), some d1, some d2, none, none, none, none] = .nx [some (.scr (ns.map D.int)), some (.lst (ps.map D.int)), some (.int p), some (.lst ds), some (.lst ds), some (.lst (ws.map dT)), some (.str (TS (textOf ws))), x7, x8, some (.str (TS v1)), some d1, some d2, y12, y13, none, none] := by
    by_cases h95 : gp ps 95 % 8 = 0
    · obtain ⟨es, M, M1, M2, M3, M4, M5⟩ := m_many hf hp hl c3 (by omega)
      obtain ⟨us, hU, hUW⟩ := draws M2
      have hUl := hU.len
      have une : ¬ us = [] := fun z => M3 (List.length_eq_zero_iff.mp (by rw [hUl, z]; rfl))
      rw [hUl] at M5
      have hus : us.length ≤ 9900 := Nat.le_trans (Nat.le_mul_of_pos_left _ (by omega)) M5
      have tUe : textOf us = TL.joinL [32] us := by unfold textOf; rw [if_neg une]
      have tU : Tx 11 9900 (textOf us) := by
        rw [tUe]
        refine ⟨joinL_asc hU.ascs, fun w hw => ?_, Nat.le_trans (joinL_le fun w hw => (hUW w hw).1) M5⟩
        rw [SX.spl_join une fun w hw => (hUW w hw).2.1] at hw
        exact Nat.le_trans (hUW w hw).1 M4
      have hj := o_join (ws := us) (by rw [← tUe]; have := tU.len; omega)
      rw [← tUe] at hj
      have wU := m_write_values hU (by have := tU.len; omega) (by omega)
      have rU := values_read hf tU (by decide) (by decide)
      obtain ⟨b70, s70, t70⟩ := m_spoilt tU (by decide) hp (t := 70) (by omega)
      have s70 : den__law_spoilt [.str (TS (textOf us)), .lst (ps.map D.int), .int 70] = .ok (.str (TS b70)) := s70
      have r70 := values_read hf t70 (by decide) (by decide)
      refine ⟨some (.lst es), some (.str (TS (textOf us))), ?_⟩
      rw [e_if]
      have hc : toB (b2 eqD (b2 modD (callF intAD (consA (b2 idxD (nmD 1) (cD (.int 95))) (nilA))) (cD (.int 8))) (cD (.int 0))) [some (.scr (ns.map D.int)), some (.lst (ps.map D.int)), some (.int p), some (.lst ds), some (.lst ds), some (.lst (ws.map dT)), some (.str (TS (textOf ws))), x7, x8, some (.str (TS v1)), some d1, some d2, none, none, none, none] = .ok true := by simp [i95, o_modp, h95]
      rw [hc, ite_t]
      refine seq_nx (by simp [M1]; rfl) ?_
      refine seq_nx (by rw [e_set, e_m1, lc_txt hU (by omega) (by simp)]; simp [hj]; rfl) ?_
      refine seq_nx (by simp [wU, rU, o_neT tU.asc tU.asc]; rfl) ?_
      simp [s70, r70]
    · exact ⟨none, none, by simp [i95, o_modp, h95]⟩
  obtain ⟨y12, y13, fm⟩ := fm
  refine seq_nx fm ?_
  have er4 := rgK_nat (n := 4) (by decide)
  rw [ints_range] at er4
  have er4 : rgK [.int 4] = .ok ((List.range' 0 4).map fun i : Nat => D.int i) := er4
  obtain ⟨z8, z14, k2⟩ := k2_loop hf hp hl (fun w hw => ⟨hasc w hw, (hW w hw).1⟩) tT (a0 := some (.scr (ns.map D.int))) (a3 := some (.lst ds)) (a4 := some (.lst ds)) (a7 := x7) (a9 := some (.str (TS v1))) (a10 := some d1) (a11 := some d2) (a12 := y12) (a13 := y13) (a15 := none) 4 0 x8 none (by omega)
  refine seq_nx (by
    rw [e_for, e_rng1]
    simp only [e_cons, e_c, e_nil, cons_ok, R.bind_ok, er4, fr_ok]
    exact k2) ?_
  simp [s90, r90]
end DL

set_option maxRecDepth 100001
set_option maxHeartbeats 4000001
namespace DL
open PySem PySem.Spec PyProof.Rows L2

/-! ### the end -/
def spLaw (K : PySem.W.Frag) : Sp := fun vs H Q _ => ∃ (a : Addr) (ns : List Int), vs = [.ref a] ∧ SqL K H a (ns.map V.int) ∧ ns.length ≤ 63 ∧ ∀ H', Q (.bl true) H'
theorem exI {K : PySem.W.Frag} {C : Addr} (h1 : PySem.W.findIn K (.ref C) "__getattribute__" = some (some (.builtin "BaseException.__getattribute__"))) (h2 : PySem.W.findIn K (.ref C) "__getattr__" = some none) (h3 : PySem.W.subIn K (.ref C) (.type "BaseException") = some true) (h4 : PySem.W.hasDictIn K C = true)
    (h5 : PySem.W.findIn K (.ref C) "__class__" = some (some (.builtin "object.__class__"))) (h6 : PySem.W.specialIn K (.builtin "object.__class__") "__get__" = some (some (.builtin "getset_descriptor.__get__"))) (h7 : PySem.W.takesIn K (.builtin "object.__class__") = some true) (h8 : PySem.W.mroIn K C (.type "object") = some true) : ExcC K C := ⟨h1, h2, h3, h4, h5, h6, h7, h8⟩

theorem all_mk (hden : ∀ ns : List Int, ns.length ≤ 63 → den_law [.scr (ns.map D.int)] = .ok (.bl true)) {l : PySem.W.OpenLaw} {w : World} {K : PySem.W.Frag} {h : Heap} {mg : PySem.Str → Option Value} {fa f0 f1 f2 f3 f4 f5 f6 f7 f8 f9 f10 f11 f12 f13 f14 f15 f16 f17 f18 f19 f20 f21 f22 f23 f24 f25 e0 e1 e2 e3 e4 e5 : Addr} (X : K.In h) (G : h.Ns mainGlobals mg) (hfa : mg (PySem.Str.ofString "law") = some (.ref fa))
    {od0 an0 od1 an1 od2 an2 od3 an3 od4 an4 od5 an5 od6 an6 od7 an7 od8 an8 od9 an9 od10 an10 od11 an11 od12 an12 od13 an13 od14 an14 od15 an15 od16 an16 od17 an17 od18 an18 od19 an19 od20 an20 od21 an21 od22 an22 od23 an23 od24 an24 od25 an25 : Option Addr} {sl0 sl1 sl2 sl3 sl4 sl5 sl6 sl7 sl8 sl9 sl10 sl11 sl12 sl13 sl14 sl15 sl16 sl17 sl18 sl19 sl20 sl21 sl22 sl23 sl24 sl25 : Array (Option Value)} {oc0 kV0 dc0 pm0 cd0 ct0 oc1 kV1 dc1 pm1 cd1 ct1 oc2 kV2 dc2 pm2 cd2 ct2 oc3 kV3 dc3 pm3 cd3 ct3 oc4 kV4 dc4 pm4 cd4 ct4 oc5 kV5 dc5 pm5 cd5 ct5 oc6 kV6 dc6 pm6 cd6 ct6 oc7 kV7 dc7 pm7 cd7 ct7 oc8 kV8 dc8 pm8 cd8 ct8 oc9 kV9 dc9 pm9 cd9 ct9 oc10 kV10 dc10 pm10 cd10 ct10 oc11 kV11 dc11 pm11 cd11 ct11 oc12 kV12 dc12 pm12 cd12 ct12 oc13 kV13 dc13 pm13 cd13 ct13 oc14 kV14 dc14 pm14 cd14 ct14 oc15 kV15 dc15 pm15 cd15 ct15 oc16 kV16 dc16 pm16 cd16 ct16 oc17 kV17 dc17 pm17 cd17 ct17 oc18 kV18 dc18 pm18 cd18 ct18 oc19 kV19 dc19 pm19 cd19 ct19 oc20 kV20 dc20 pm20 cd20 ct20 oc21 kV21 dc21 pm21 cd21 ct21 oc22 kV22 dc22 pm22 cd22 ct22 oc23 kV23 dc23 pm23 cd23 ct23 oc24 kV24 dc24 pm24 cd24 ct24 oc25 kV25 dc25 pm25 cd25 ct25 : Value}
    (a0 : PySem.W.nsIn K mainGlobals (PySem.Str.ofString "is_integer") = some (some (.ref f0)))
    (l0 : K.lookup f0 = some ⟨oc0, od0, .func (PySem.W.fnOf (PySem.Str.ofString "is_integer") (PySem.Str.ofString "is_integer") (defArgs s_is_integer) (defBody s_is_integer) (defScope s_is_integer) .none kV0 dc0 pm0 an0 cd0 ct0), sl0⟩)
    (c0 : PySem.W.codeIn K cd0 (PySem.Str.ofString "is_integer") = true)
    (k0 : PySem.W.keepIn K (.ref f0) = true)
    (a1 : PySem.W.nsIn K mainGlobals (PySem.Str.ofString "is_number") = some (some (.ref f1)))
    (l1 : K.lookup f1 = some ⟨oc1, od1, .func (PySem.W.fnOf (PySem.Str.ofString "is_number") (PySem.Str.ofString "is_number") (defArgs s_is_number) (defBody s_is_number) (defScope s_is_number) .none kV1 dc1 pm1 an1 cd1 ct1), sl1⟩)
    (c1 : PySem.W.codeIn K cd1 (PySem.Str.ofString "is_number") = true)
    (k1 : PySem.W.keepIn K (.ref f1) = true)
    (a2 : PySem.W.nsIn K mainGlobals (PySem.Str.ofString "write_number") = some (some (.ref f2)))
    (l2 : K.lookup f2 = some ⟨oc2, od2, .func (PySem.W.fnOf (PySem.Str.ofString "write_number") (PySem.Str.ofString "write_number") (defArgs s_write_number) (defBody s_write_number) (defScope s_write_number) .none kV2 dc2 pm2 an2 cd2 ct2), sl2⟩)
    (c2 : PySem.W.codeIn K cd2 (PySem.Str.ofString "write_number") = true)
    (k2 : PySem.W.keepIn K (.ref f2) = true)
    (a3 : PySem.W.nsIn K mainGlobals (PySem.Str.ofString "write_words") = some (some (.ref f3)))
    (l3 : K.lookup f3 = some ⟨oc3, od3, .func (PySem.W.fnOf (PySem.Str.ofString "write_words") (PySem.Str.ofString "write_words") (defArgs s_write_words) (defBody s_write_words) (defScope s_write_words) .none kV3 dc3 pm3 an3 cd3 ct3), sl3⟩)
    (c3 : PySem.W.codeIn K cd3 (PySem.Str.ofString "write_words") = true)
    (k3 : PySem.W.keepIn K (.ref f3) = true)
    (a4 : PySem.W.nsIn K mainGlobals (PySem.Str.ofString "write_values") = some (some (.ref f4)))
    (l4 : K.lookup f4 = some ⟨oc4, od4, .func (PySem.W.fnOf (PySem.Str.ofString "write_values") (PySem.Str.ofString "write_values") (defArgs s_write_values) (defBody s_write_values) (defScope s_write_values) .none kV4 dc4 pm4 an4 cd4 ct4), sl4⟩)
    (c4 : PySem.W.codeIn K cd4 (PySem.Str.ofString "write_values") = true)
    (k4 : PySem.W.keepIn K (.ref f4) = true)
    (a5 : PySem.W.nsIn K mainGlobals (PySem.Str.ofString "read_integer") = some (some (.ref f5)))
    (l5 : K.lookup f5 = some ⟨oc5, od5, .func (PySem.W.fnOf (PySem.Str.ofString "read_integer") (PySem.Str.ofString "read_integer") (defArgs s_read_integer) (defBody s_read_integer) (defScope s_read_integer) .none kV5 dc5 pm5 an5 cd5 ct5), sl5⟩)
    (c5 : PySem.W.codeIn K cd5 (PySem.Str.ofString "read_integer") = true)
    (k5 : PySem.W.keepIn K (.ref f5) = true)
    (a6 : PySem.W.nsIn K mainGlobals (PySem.Str.ofString "read_number") = some (some (.ref f6)))
    (l6 : K.lookup f6 = some ⟨oc6, od6, .func (PySem.W.fnOf (PySem.Str.ofString "read_number") (PySem.Str.ofString "read_number") (defArgs s_read_number) (defBody s_read_number) (defScope s_read_number) .none kV6 dc6 pm6 an6 cd6 ct6), sl6⟩)
    (c6 : PySem.W.codeIn K cd6 (PySem.Str.ofString "read_number") = true)
    (k6 : PySem.W.keepIn K (.ref f6) = true)
    (a7 : PySem.W.nsIn K mainGlobals (PySem.Str.ofString "words_of") = some (some (.ref f7)))
    (l7 : K.lookup f7 = some ⟨oc7, od7, .func (PySem.W.fnOf (PySem.Str.ofString "words_of") (PySem.Str.ofString "words_of") (defArgs s_words_of) (defBody s_words_of) (defScope s_words_of) .none kV7 dc7 pm7 an7 cd7 ct7), sl7⟩)
    (c7 : PySem.W.codeIn K cd7 (PySem.Str.ofString "words_of") = true)
    (k7 : PySem.W.keepIn K (.ref f7) = true)
    (a8 : PySem.W.nsIn K mainGlobals (PySem.Str.ofString "read_values") = some (some (.ref f8)))
    (l8 : K.lookup f8 = some ⟨oc8, od8, .func (PySem.W.fnOf (PySem.Str.ofString "read_values") (PySem.Str.ofString "read_values") (defArgs s_read_values) (defBody s_read_values) (defScope s_read_values) .none kV8 dc8 pm8 an8 cd8 ct8), sl8⟩)
    (c8 : PySem.W.codeIn K cd8 (PySem.Str.ofString "read_values") = true)
    (k8 : PySem.W.keepIn K (.ref f8) = true)
    (a9 : PySem.W.nsIn K mainGlobals (PySem.Str.ofString "_law_pool") = some (some (.ref f9)))
    (l9 : K.lookup f9 = some ⟨oc9, od9, .func (PySem.W.fnOf (PySem.Str.ofString "_law_pool") (PySem.Str.ofString "_law_pool") (defArgs s__law_pool) (defBody s__law_pool) (defScope s__law_pool) .none kV9 dc9 pm9 an9 cd9 ct9), sl9⟩)
    (c9 : PySem.W.codeIn K cd9 (PySem.Str.ofString "_law_pool") = true)
    (k9 : PySem.W.keepIn K (.ref f9) = true)
    (a10 : PySem.W.nsIn K mainGlobals (PySem.Str.ofString "_law_common") = some (some (.ref f10)))
    (l10 : K.lookup f10 = some ⟨oc10, od10, .func (PySem.W.fnOf (PySem.Str.ofString "_law_common") (PySem.Str.ofString "_law_common") (defArgs s__law_common) (defBody s__law_common) (defScope s__law_common) .none kV10 dc10 pm10 an10 cd10 ct10), sl10⟩)
    (c10 : PySem.W.codeIn K cd10 (PySem.Str.ofString "_law_common") = true)
    (k10 : PySem.W.keepIn K (.ref f10) = true)
    (a11 : PySem.W.nsIn K mainGlobals (PySem.Str.ofString "_law_number") = some (some (.ref f11)))
    (l11 : K.lookup f11 = some ⟨oc11, od11, .func (PySem.W.fnOf (PySem.Str.ofString "_law_number") (PySem.Str.ofString "_law_number") (defArgs s__law_number) (defBody s__law_number) (defScope s__law_number) .none kV11 dc11 pm11 an11 cd11 ct11), sl11⟩)
    (c11 : PySem.W.codeIn K cd11 (PySem.Str.ofString "_law_number") = true)
    (k11 : PySem.W.keepIn K (.ref f11) = true)
    (a12 : PySem.W.nsIn K mainGlobals (PySem.Str.ofString "_law_large") = some (some (.ref f12)))
    (l12 : K.lookup f12 = some ⟨oc12, od12, .func (PySem.W.fnOf (PySem.Str.ofString "_law_large") (PySem.Str.ofString "_law_large") (defArgs s__law_large) (defBody s__law_large) (defScope s__law_large) .none kV12 dc12 pm12 an12 cd12 ct12), sl12⟩)
    (c12 : PySem.W.codeIn K cd12 (PySem.Str.ofString "_law_large") = true)
    (k12 : PySem.W.keepIn K (.ref f12) = true)
    (a13 : PySem.W.nsIn K mainGlobals (PySem.Str.ofString "_law_text") = some (some (.ref f13)))
    (l13 : K.lookup f13 = some ⟨oc13, od13, .func (PySem.W.fnOf (PySem.Str.ofString "_law_text") (PySem.Str.ofString "_law_text") (defArgs s__law_text) (defBody s__law_text) (defScope s__law_text) .none kV13 dc13 pm13 an13 cd13 ct13), sl13⟩)
    (c13 : PySem.W.codeIn K cd13 (PySem.Str.ofString "_law_text") = true)
    (k13 : PySem.W.keepIn K (.ref f13) = true)
    (a14 : PySem.W.nsIn K mainGlobals (PySem.Str.ofString "_law_digits") = some (some (.ref f14)))
    (l14 : K.lookup f14 = some ⟨oc14, od14, .func (PySem.W.fnOf (PySem.Str.ofString "_law_digits") (PySem.Str.ofString "_law_digits") (defArgs s__law_digits) (defBody s__law_digits) (defScope s__law_digits) .none kV14 dc14 pm14 an14 cd14 ct14), sl14⟩)
    (c14 : PySem.W.codeIn K cd14 (PySem.Str.ofString "_law_digits") = true)
    (k14 : PySem.W.keepIn K (.ref f14) = true)
    (a15 : PySem.W.nsIn K mainGlobals (PySem.Str.ofString "_law_due") = some (some (.ref f15)))
    (l15 : K.lookup f15 = some ⟨oc15, od15, .func (PySem.W.fnOf (PySem.Str.ofString "_law_due") (PySem.Str.ofString "_law_due") (defArgs s__law_due) (defBody s__law_due) (defScope s__law_due) .none kV15 dc15 pm15 an15 cd15 ct15), sl15⟩)
    (c15 : PySem.W.codeIn K cd15 (PySem.Str.ofString "_law_due") = true)
    (k15 : PySem.W.keepIn K (.ref f15) = true)
    (a16 : PySem.W.nsIn K mainGlobals (PySem.Str.ofString "_law_dues") = some (some (.ref f16)))
    (l16 : K.lookup f16 = some ⟨oc16, od16, .func (PySem.W.fnOf (PySem.Str.ofString "_law_dues") (PySem.Str.ofString "_law_dues") (defArgs s__law_dues) (defBody s__law_dues) (defScope s__law_dues) .none kV16 dc16 pm16 an16 cd16 ct16), sl16⟩)
    (c16 : PySem.W.codeIn K cd16 (PySem.Str.ofString "_law_dues") = true)
    (k16 : PySem.W.keepIn K (.ref f16) = true)
    (a17 : PySem.W.nsIn K mainGlobals (PySem.Str.ofString "_law_many") = some (some (.ref f17)))
    (l17 : K.lookup f17 = some ⟨oc17, od17, .func (PySem.W.fnOf (PySem.Str.ofString "_law_many") (PySem.Str.ofString "_law_many") (defArgs s__law_many) (defBody s__law_many) (defScope s__law_many) .none kV17 dc17 pm17 an17 cd17 ct17), sl17⟩)
    (c17 : PySem.W.codeIn K cd17 (PySem.Str.ofString "_law_many") = true)
    (k17 : PySem.W.keepIn K (.ref f17) = true)
    (a18 : PySem.W.nsIn K mainGlobals (PySem.Str.ofString "_law_same") = some (some (.ref f18)))
    (l18 : K.lookup f18 = some ⟨oc18, od18, .func (PySem.W.fnOf (PySem.Str.ofString "_law_same") (PySem.Str.ofString "_law_same") (defArgs s__law_same) (defBody s__law_same) (defScope s__law_same) .none kV18 dc18 pm18 an18 cd18 ct18), sl18⟩)
    (c18 : PySem.W.codeIn K cd18 (PySem.Str.ofString "_law_same") = true)
    (k18 : PySem.W.keepIn K (.ref f18) = true)
    (a19 : PySem.W.nsIn K mainGlobals (PySem.Str.ofString "_law_number_told") = some (some (.ref f19)))
    (l19 : K.lookup f19 = some ⟨oc19, od19, .func (PySem.W.fnOf (PySem.Str.ofString "_law_number_told") (PySem.Str.ofString "_law_number_told") (defArgs s__law_number_told) (defBody s__law_number_told) (defScope s__law_number_told) .none kV19 dc19 pm19 an19 cd19 ct19), sl19⟩)
    (c19 : PySem.W.codeIn K cd19 (PySem.Str.ofString "_law_number_told") = true)
    (k19 : PySem.W.keepIn K (.ref f19) = true)
    (a20 : PySem.W.nsIn K mainGlobals (PySem.Str.ofString "_law_values_told") = some (some (.ref f20)))
    (l20 : K.lookup f20 = some ⟨oc20, od20, .func (PySem.W.fnOf (PySem.Str.ofString "_law_values_told") (PySem.Str.ofString "_law_values_told") (defArgs s__law_values_told) (defBody s__law_values_told) (defScope s__law_values_told) .none kV20 dc20 pm20 an20 cd20 ct20), sl20⟩)
    (c20 : PySem.W.codeIn K cd20 (PySem.Str.ofString "_law_values_told") = true)
    (k20 : PySem.W.keepIn K (.ref f20) = true)
    (a21 : PySem.W.nsIn K mainGlobals (PySem.Str.ofString "_law_number_read") = some (some (.ref f21)))
    (l21 : K.lookup f21 = some ⟨oc21, od21, .func (PySem.W.fnOf (PySem.Str.ofString "_law_number_read") (PySem.Str.ofString "_law_number_read") (defArgs s__law_number_read) (defBody s__law_number_read) (defScope s__law_number_read) .none kV21 dc21 pm21 an21 cd21 ct21), sl21⟩)
    (c21 : PySem.W.codeIn K cd21 (PySem.Str.ofString "_law_number_read") = true)
    (k21 : PySem.W.keepIn K (.ref f21) = true)
    (a22 : PySem.W.nsIn K mainGlobals (PySem.Str.ofString "_law_values_read") = some (some (.ref f22)))
    (l22 : K.lookup f22 = some ⟨oc22, od22, .func (PySem.W.fnOf (PySem.Str.ofString "_law_values_read") (PySem.Str.ofString "_law_values_read") (defArgs s__law_values_read) (defBody s__law_values_read) (defScope s__law_values_read) .none kV22 dc22 pm22 an22 cd22 ct22), sl22⟩)
    (c22 : PySem.W.codeIn K cd22 (PySem.Str.ofString "_law_values_read") = true)
    (k22 : PySem.W.keepIn K (.ref f22) = true)
    (a23 : PySem.W.nsIn K mainGlobals (PySem.Str.ofString "_law_spoilt") = some (some (.ref f23)))
    (l23 : K.lookup f23 = some ⟨oc23, od23, .func (PySem.W.fnOf (PySem.Str.ofString "_law_spoilt") (PySem.Str.ofString "_law_spoilt") (defArgs s__law_spoilt) (defBody s__law_spoilt) (defScope s__law_spoilt) .none kV23 dc23 pm23 an23 cd23 ct23), sl23⟩)
    (c23 : PySem.W.codeIn K cd23 (PySem.Str.ofString "_law_spoilt") = true)
    (k23 : PySem.W.keepIn K (.ref f23) = true)
    (a24 : PySem.W.nsIn K mainGlobals (PySem.Str.ofString "_law_odd") = some (some (.ref f24)))
    (l24 : K.lookup f24 = some ⟨oc24, od24, .func (PySem.W.fnOf (PySem.Str.ofString "_law_odd") (PySem.Str.ofString "_law_odd") (defArgs s__law_odd) (defBody s__law_odd) (defScope s__law_odd) .none kV24 dc24 pm24 an24 cd24 ct24), sl24⟩)
    (c24 : PySem.W.codeIn K cd24 (PySem.Str.ofString "_law_odd") = true)
    (k24 : PySem.W.keepIn K (.ref f24) = true)
    (a25 : PySem.W.nsIn K mainGlobals (PySem.Str.ofString "law") = some (some (.ref f25)))
    (l25 : K.lookup f25 = some ⟨oc25, od25, .func (PySem.W.fnOf (PySem.Str.ofString "law") (PySem.Str.ofString "law") (defArgs s_law) (defBody s_law) (defScope s_law) .none kV25 dc25 pm25 an25 cd25 ct25), sl25⟩)
    (c25 : PySem.W.codeIn K cd25 (PySem.Str.ofString "law") = true)
    (k25 : PySem.W.keepIn K (.ref f25) = true)
    (ea0 : PySem.W.nsIn K mainGlobals (PySem.Str.ofString "GridError") = some (some (.ref e0)))
    (ex0 : PySem.W.excIn K e0 [.type "ValueError", .type "Exception", .type "BaseException", .type "object"] "ValueError.__new__" = true)
    (ek0 : PySem.W.keepIn K (.ref e0) = true)
    (eb0 : PySem.W.subIn K (.ref e0) (.type "BaseException") = some true)
    (et0 : PySem.W.typeIn K (.ref e0) = some (.type "type"))
    (eh0 : PySem.W.hasDictIn K e0 = true)
    (eg0 : PySem.W.findIn K (.ref e0) "__getattribute__" = some (some (.builtin "BaseException.__getattribute__")))
    (er0 : PySem.W.findIn K (.ref e0) "__getattr__" = some none)
    (ec0 : PySem.W.findIn K (.ref e0) "__class__" = some (some (.builtin "object.__class__")))
    (em0 : PySem.W.mroIn K e0 (.type "object") = some true)
    (ea1 : PySem.W.nsIn K mainGlobals (PySem.Str.ofString "InvalidField") = some (some (.ref e1)))
    (ex1 : PySem.W.excIn K e1 [.type "ValueError", .type "Exception", .type "BaseException", .type "object"] "ValueError.__new__" = true)
    (ek1 : PySem.W.keepIn K (.ref e1) = true)
    (eb1 : PySem.W.subIn K (.ref e1) (.type "BaseException") = some true)
    (et1 : PySem.W.typeIn K (.ref e1) = some (.type "type"))
    (eh1 : PySem.W.hasDictIn K e1 = true)
    (eg1 : PySem.W.findIn K (.ref e1) "__getattribute__" = some (some (.builtin "BaseException.__getattribute__")))
    (er1 : PySem.W.findIn K (.ref e1) "__getattr__" = some none)
    (ec1 : PySem.W.findIn K (.ref e1) "__class__" = some (some (.builtin "object.__class__")))
    (em1 : PySem.W.mroIn K e1 (.type "object") = some true)
    (ea2 : PySem.W.nsIn K mainGlobals (PySem.Str.ofString "InvalidNumber") = some (some (.ref e2)))
    (ex2 : PySem.W.excIn K e2 [.type "ValueError", .type "Exception", .type "BaseException", .type "object"] "ValueError.__new__" = true)
    (ek2 : PySem.W.keepIn K (.ref e2) = true)
    (eb2 : PySem.W.subIn K (.ref e2) (.type "BaseException") = some true)
    (et2 : PySem.W.typeIn K (.ref e2) = some (.type "type"))
    (eh2 : PySem.W.hasDictIn K e2 = true)
    (eg2 : PySem.W.findIn K (.ref e2) "__getattribute__" = some (some (.builtin "BaseException.__getattribute__")))
    (er2 : PySem.W.findIn K (.ref e2) "__getattr__" = some none)
    (ec2 : PySem.W.findIn K (.ref e2) "__class__" = some (some (.builtin "object.__class__")))
    (em2 : PySem.W.mroIn K e2 (.type "object") = some true)
    (ea3 : PySem.W.nsIn K mainGlobals (PySem.Str.ofString "NoInverse") = some (some (.ref e3)))
    (ex3 : PySem.W.excIn K e3 [.type "ValueError", .type "Exception", .type "BaseException", .type "object"] "ValueError.__new__" = true)
    (ek3 : PySem.W.keepIn K (.ref e3) = true)
    (eb3 : PySem.W.subIn K (.ref e3) (.type "BaseException") = some true)
    (et3 : PySem.W.typeIn K (.ref e3) = some (.type "type"))
    (eh3 : PySem.W.hasDictIn K e3 = true)
    (eg3 : PySem.W.findIn K (.ref e3) "__getattribute__" = some (some (.builtin "BaseException.__getattribute__")))
    (er3 : PySem.W.findIn K (.ref e3) "__getattr__" = some none)
    (ec3 : PySem.W.findIn K (.ref e3) "__class__" = some (some (.builtin "object.__class__")))
    (em3 : PySem.W.mroIn K e3 (.type "object") = some true)
    (ea4 : PySem.W.nsIn K mainGlobals (PySem.Str.ofString "InvalidGrid") = some (some (.ref e4)))
    (ex4 : PySem.W.excIn K e4 [.type "ValueError", .type "Exception", .type "BaseException", .type "object"] "ValueError.__new__" = true)
    (ek4 : PySem.W.keepIn K (.ref e4) = true)
    (eb4 : PySem.W.subIn K (.ref e4) (.type "BaseException") = some true)
    (et4 : PySem.W.typeIn K (.ref e4) = some (.type "type"))
    (eh4 : PySem.W.hasDictIn K e4 = true)
    (eg4 : PySem.W.findIn K (.ref e4) "__getattribute__" = some (some (.builtin "BaseException.__getattribute__")))
    (er4 : PySem.W.findIn K (.ref e4) "__getattr__" = some none)
    (ec4 : PySem.W.findIn K (.ref e4) "__class__" = some (some (.builtin "object.__class__")))
    (em4 : PySem.W.mroIn K e4 (.type "object") = some true)
    (ea5 : PySem.W.nsIn K mainGlobals (PySem.Str.ofString "InvalidText") = some (some (.ref e5)))
    (ex5 : PySem.W.excIn K e5 [.type "ValueError", .type "Exception", .type "BaseException", .type "object"] "ValueError.__new__" = true)
    (ek5 : PySem.W.keepIn K (.ref e5) = true)
    (eb5 : PySem.W.subIn K (.ref e5) (.type "BaseException") = some true)
    (et5 : PySem.W.typeIn K (.ref e5) = some (.type "type"))
    (eh5 : PySem.W.hasDictIn K e5 = true)
    (eg5 : PySem.W.findIn K (.ref e5) "__getattribute__" = some (some (.builtin "BaseException.__getattribute__")))
    (er5 : PySem.W.findIn K (.ref e5) "__getattr__" = some none)
    (ec5 : PySem.W.findIn K (.ref e5) "__class__" = some (some (.builtin "object.__class__")))
    (em5 : PySem.W.mroIn K e5 (.type "object") = some true)
    (esp : PySem.W.specialIn K (.builtin "object.__class__") "__get__" = some (some (.builtin "getset_descriptor.__get__")))
    (etk : PySem.W.takesIn K (.builtin "object.__class__") = some true)
    (xm_InvalidText_GridError : PySem.W.exmOne K (.ref e5) (.ref e0) = some true)
    (xm_InvalidText_InvalidText : PySem.W.exmOne K (.ref e5) (.ref e5) = some true)
    (kt_InvalidText_GridError : PySem.W.kitOne K (.ref e5) (.ref e0) = some true)
    (kt_InvalidText_InvalidText : PySem.W.kitOne K (.ref e5) (.ref e5) = some true)
    (kt_InvalidText_ValueError : PySem.W.kitOne K (.ref e5) (.type "ValueError") = some true)
    (ka_InvalidText_InvalidGrid_InvalidNumber : PySem.W.kitAny K (.ref e5) [(.ref e4), (.ref e2)] = some false)
    (ka_InvalidText_InvalidField_InvalidNumber_NoInverse : PySem.W.kitAny K (.ref e5) [(.ref e1), (.ref e2), (.ref e3)] = some false)
    (z0 : PySem.W.nsIn K mainGlobals (PySem.Str.ofString "ValueError") = some none)
    (z1 : PySem.W.nsIn K mainGlobals (PySem.Str.ofString "abs") = some none)
    (z2 : PySem.W.nsIn K mainGlobals (PySem.Str.ofString "bool") = some none)
    (z3 : PySem.W.nsIn K mainGlobals (PySem.Str.ofString "int") = some none)
    (z4 : PySem.W.nsIn K mainGlobals (PySem.Str.ofString "isinstance") = some none)
    (z5 : PySem.W.nsIn K mainGlobals (PySem.Str.ofString "len") = some none)
    (z6 : PySem.W.nsIn K mainGlobals (PySem.Str.ofString "list") = some none)
    (z7 : PySem.W.nsIn K mainGlobals (PySem.Str.ofString "max") = some none)
    (z8 : PySem.W.nsIn K mainGlobals (PySem.Str.ofString "range") = some none)
    (z9 : PySem.W.nsIn K mainGlobals (PySem.Str.ofString "str") = some none)
    (z10 : PySem.W.nsIn K mainGlobals (PySem.Str.ofString "tuple") = some none)
    (g_gcd : PySem.W.nsIn K mainGlobals (PySem.Str.ofString "gcd") = some (some (.builtin "math.gcd")))
    : ∃ fd : FuncData, (∀ (s : Shared) (v : Value), BindsTo s fd ⟨[v], []⟩ [("script", v)]) ∧ ∀ base : Heap, K.In base → base.Ns mainGlobals mg → FnOk l.prog w K mg base (L2.CX l.prog w) 7 fa fd ["script"] (spLaw K) := by
  have e := hfa.symm.trans (PySem.W.mg_of X G a25)
  cases e
  have F0 := fun_mk (st := s_is_integer) l0 c0 k0
  have F1 := fun_mk (st := s_is_number) l1 c1 k1
  have F2 := fun_mk (st := s_write_number) l2 c2 k2
  have F3 := fun_mk (st := s_write_words) l3 c3 k3
  have F4 := fun_mk (st := s_write_values) l4 c4 k4
  have F5 := fun_mk (st := s_read_integer) l5 c5 k5
  have F6 := fun_mk (st := s_read_number) l6 c6 k6
  have F7 := fun_mk (st := s_words_of) l7 c7 k7
  have F8 := fun_mk (st := s_read_values) l8 c8 k8
  have F9 := fun_mk (st := s__law_pool) l9 c9 k9
  have F10 := fun_mk (st := s__law_common) l10 c10 k10
  have F11 := fun_mk (st := s__law_number) l11 c11 k11
  have F12 := fun_mk (st := s__law_large) l12 c12 k12
  have F13 := fun_mk (st := s__law_text) l13 c13 k13
  have F14 := fun_mk (st := s__law_digits) l14 c14 k14
  have F15 := fun_mk (st := s__law_due) l15 c15 k15
  have F16 := fun_mk (st := s__law_dues) l16 c16 k16
  have F17 := fun_mk (st := s__law_many) l17 c17 k17
  have F18 := fun_mk (st := s__law_same) l18 c18 k18
  have F19 := fun_mk (st := s__law_number_told) l19 c19 k19
  have F20 := fun_mk (st := s__law_values_told) l20 c20 k20
  have F21 := fun_mk (st := s__law_number_read) l21 c21 k21
  have F22 := fun_mk (st := s__law_values_read) l22 c22 k22
  have F23 := fun_mk (st := s__law_spoilt) l23 c23 k23
  have F24 := fun_mk (st := s__law_odd) l24 c24 k24
  have F25 := fun_mk (st := s_law) l25 c25 k25
  have b0 := F0.binds (ps := ["value"]) fun _ _ _ _ _ _ us hl => match us, hl with | [_], _ => rfl
  have b1 := F1.binds (ps := ["prime", "value"]) fun _ _ _ _ _ _ us hl => match us, hl with | [_, _], _ => rfl
  have b2 := F2.binds (ps := ["prime", "number"]) fun _ _ _ _ _ _ us hl => match us, hl with | [_, _], _ => rfl
  have b3 := F3.binds (ps := ["words"]) fun _ _ _ _ _ _ us hl => match us, hl with | [_], _ => rfl
  have b4 := F4.binds (ps := ["prime", "numbers"]) fun _ _ _ _ _ _ us hl => match us, hl with | [_, _], _ => rfl
  have b5 := F5.binds (ps := ["text"]) fun _ _ _ _ _ _ us hl => match us, hl with | [_], _ => rfl
  have b6 := F6.binds (ps := ["prime", "text"]) fun _ _ _ _ _ _ us hl => match us, hl with | [_, _], _ => rfl
  have b7 := F7.binds (ps := ["text"]) fun _ _ _ _ _ _ us hl => match us, hl with | [_], _ => rfl
  have b8 := F8.binds (ps := ["prime", "text"]) fun _ _ _ _ _ _ us hl => match us, hl with | [_, _], _ => rfl
  have b9 := F9.binds (ps := ["script", "count"]) fun _ _ _ _ _ _ us hl => match us, hl with | [_, _], _ => rfl
  have b10 := F10.binds (ps := ["a", "b"]) fun _ _ _ _ _ _ us hl => match us, hl with | [_, _], _ => rfl
  have b11 := F11.binds (ps := ["pool", "at", "prime"]) fun _ _ _ _ _ _ us hl => match us, hl with | [_, _, _], _ => rfl
  have b12 := F12.binds (ps := ["pool", "at", "many"]) fun _ _ _ _ _ _ us hl => match us, hl with | [_, _, _], _ => rfl
  have b13 := F13.binds (ps := ["prime", "number"]) fun _ _ _ _ _ _ us hl => match us, hl with | [_, _], _ => rfl
  have b14 := F14.binds (ps := ["word"]) fun _ _ _ _ _ _ us hl => match us, hl with | [_], _ => rfl
  have b15 := F15.binds (ps := ["prime", "word"]) fun _ _ _ _ _ _ us hl => match us, hl with | [_, _], _ => rfl
  have b16 := F16.binds (ps := ["prime", "text"]) fun _ _ _ _ _ _ us hl => match us, hl with | [_, _], _ => rfl
  have b17 := F17.binds (ps := ["pool", "prime", "numbers"]) fun _ _ _ _ _ _ us hl => match us, hl with | [_, _, _], _ => rfl
  have b18 := F18.binds (ps := ["prime", "actual", "due"]) fun _ _ _ _ _ _ us hl => match us, hl with | [_, _, _], _ => rfl
  have b19 := F19.binds (ps := ["prime", "text"]) fun _ _ _ _ _ _ us hl => match us, hl with | [_, _], _ => rfl
  have b20 := F20.binds (ps := ["prime", "text"]) fun _ _ _ _ _ _ us hl => match us, hl with | [_, _], _ => rfl
  have b21 := F21.binds (ps := ["prime", "text"]) fun _ _ _ _ _ _ us hl => match us, hl with | [_, _], _ => rfl
  have b22 := F22.binds (ps := ["prime", "text"]) fun _ _ _ _ _ _ us hl => match us, hl with | [_, _], _ => rfl
  have b23 := F23.binds (ps := ["text", "pool", "at"]) fun _ _ _ _ _ _ us hl => match us, hl with | [_, _, _], _ => rfl
  have b24 := F24.binds (ps := ["cell"]) fun _ _ _ _ _ _ us hl => match us, hl with | [_], _ => rfl
  refine ⟨PySem.W.fnOf (PySem.Str.ofString "law") (PySem.Str.ofString "law") (defArgs s_law) (defBody s_law) (defScope s_law) .none kV25 dc25 pm25 an25 cd25 ct25, fun s v => .of_eq rfl, fun base _ _ => ?_⟩
  let GG : Cfg := { P := l.prog, w := w, K := K, mg := mg, base := base, cv := fun c => if c = "GridError" then .ref e0 else if c = "InvalidField" then .ref e1 else if c = "InvalidNumber" then .ref e2 else if c = "NoInverse" then .ref e3 else if c = "InvalidGrid" then .ref e4 else if c = "InvalidText" then .ref e5 else .none, xi := fun _ => True }
  have hc_GridError : GG.cv "GridError" = .ref e0 := by simp [GG]
  have ha_GridError : ca GG "GridError" = e0 := by unfold ca; rw [hc_GridError]
  have hc_InvalidField : GG.cv "InvalidField" = .ref e1 := by simp [GG]
  have ha_InvalidField : ca GG "InvalidField" = e1 := by unfold ca; rw [hc_InvalidField]
  have hc_InvalidNumber : GG.cv "InvalidNumber" = .ref e2 := by simp [GG]
  have ha_InvalidNumber : ca GG "InvalidNumber" = e2 := by unfold ca; rw [hc_InvalidNumber]
  have hc_NoInverse : GG.cv "NoInverse" = .ref e3 := by simp [GG]
  have ha_NoInverse : ca GG "NoInverse" = e3 := by unfold ca; rw [hc_NoInverse]
  have hc_InvalidGrid : GG.cv "InvalidGrid" = .ref e4 := by simp [GG]
  have ha_InvalidGrid : ca GG "InvalidGrid" = e4 := by unfold ca; rw [hc_InvalidGrid]
  have hc_InvalidText : GG.cv "InvalidText" = .ref e5 := by simp [GG]
  have ha_InvalidText : ca GG "InvalidText" = e5 := by unfold ca; rw [hc_InvalidText]
  have T : Tp GG := {
    xi := fun _ => trivial
    b_ValueError := PySem.W.mg_none_of X G z0
    b_abs := PySem.W.mg_none_of X G z1
    b_bool := PySem.W.mg_none_of X G z2
    b_int := PySem.W.mg_none_of X G z3
    b_isinstance := PySem.W.mg_none_of X G z4
    b_len := PySem.W.mg_none_of X G z5
    b_list := PySem.W.mg_none_of X G z6
    b_max := PySem.W.mg_none_of X G z7
    b_range := PySem.W.mg_none_of X G z8
    b_str := PySem.W.mg_none_of X G z9
    b_tuple := PySem.W.mg_none_of X G z10
    g_gcd := PySem.W.mg_of X G g_gcd
    e_GridError := by rw [ha_GridError]; exact ⟨PySem.W.mg_of X G ea0, hc_GridError, ex0, ek0, eb0, et0, eh0, exI eg0 er0 eb0 eh0 ec0 esp etk em0⟩
    e_InvalidField := by rw [ha_InvalidField]; exact ⟨PySem.W.mg_of X G ea1, hc_InvalidField, ex1, ek1, eb1, et1, eh1, exI eg1 er1 eb1 eh1 ec1 esp etk em1⟩
    e_InvalidNumber := by rw [ha_InvalidNumber]; exact ⟨PySem.W.mg_of X G ea2, hc_InvalidNumber, ex2, ek2, eb2, et2, eh2, exI eg2 er2 eb2 eh2 ec2 esp etk em2⟩
    e_NoInverse := by rw [ha_NoInverse]; exact ⟨PySem.W.mg_of X G ea3, hc_NoInverse, ex3, ek3, eb3, et3, eh3, exI eg3 er3 eb3 eh3 ec3 esp etk em3⟩
    e_InvalidGrid := by rw [ha_InvalidGrid]; exact ⟨PySem.W.mg_of X G ea4, hc_InvalidGrid, ex4, ek4, eb4, et4, eh4, exI eg4 er4 eb4 eh4 ec4 esp etk em4⟩
    e_InvalidText := by rw [ha_InvalidText]; exact ⟨PySem.W.mg_of X G ea5, hc_InvalidText, ex5, ek5, eb5, et5, eh5, exI eg5 er5 eb5 eh5 ec5 esp etk em5⟩
    x_InvalidText_GridError := by rw [ha_GridError, ha_InvalidText]; exact xm_InvalidText_GridError
    x_InvalidText_InvalidText := by rw [ha_InvalidText]; exact xm_InvalidText_InvalidText
    k1_InvalidText_GridError := by rw [hc_InvalidText, ha_GridError]; exact kt_InvalidText_GridError
    k1_InvalidText_InvalidText := by rw [hc_InvalidText, ha_InvalidText]; exact kt_InvalidText_InvalidText
    k1_InvalidText_ValueError := by rw [hc_InvalidText]; exact kt_InvalidText_ValueError
    k2_InvalidText_InvalidGrid_InvalidNumber := by rw [hc_InvalidText, ha_InvalidGrid, ha_InvalidNumber]; exact ka_InvalidText_InvalidGrid_InvalidNumber
    k3_InvalidText_InvalidField_InvalidNumber_NoInverse := by rw [hc_InvalidText, ha_InvalidField, ha_InvalidNumber, ha_NoInverse]; exact ka_InvalidText_InvalidField_InvalidNumber_NoInverse
  }
  have D0 : FnD GG 1 (PySem.Str.ofString "is_integer") 1 false den_is_integer := fnd_mk (G := GG) F0 (PySem.W.mg_of X G a0) b0 (ok_is_integer (G := GG) T  F0)
  have D1 : FnD GG 2 (PySem.Str.ofString "is_number") 2 false den_is_number := fnd_mk (G := GG) F1 (PySem.W.mg_of X G a1) b1 (ok_is_number (G := GG) T D0 F1)
  have D2 : FnD GG 1 (PySem.Str.ofString "write_number") 2 false den_write_number := fnd_mk (G := GG) F2 (PySem.W.mg_of X G a2) b2 (ok_write_number (G := GG) T  F2)
  have D3 : FnD GG 1 (PySem.Str.ofString "write_words") 1 false den_write_words := fnd_mk (G := GG) F3 (PySem.W.mg_of X G a3) b3 (ok_write_words (G := GG) T  F3)
  have D4 : FnD GG 2 (PySem.Str.ofString "write_values") 2 false den_write_values := fnd_mk (G := GG) F4 (PySem.W.mg_of X G a4) b4 (ok_write_values (G := GG) T D2 D3 F4)
  have D5 : FnD GG 1 (PySem.Str.ofString "read_integer") 1 false den_read_integer := fnd_mk (G := GG) F5 (PySem.W.mg_of X G a5) b5 (ok_read_integer (G := GG) T  F5)
  have D6 : FnD GG 3 (PySem.Str.ofString "read_number") 2 false den_read_number := fnd_mk (G := GG) F6 (PySem.W.mg_of X G a6) b6 (ok_read_number (G := GG) T D1 D2 D5 F6)
  have D7 : FnD GG 1 (PySem.Str.ofString "words_of") 1 false den_words_of := fnd_mk (G := GG) F7 (PySem.W.mg_of X G a7) b7 (ok_words_of (G := GG) T  F7)
  have D8 : FnD GG 4 (PySem.Str.ofString "read_values") 2 true den_read_values := fnd_mk (G := GG) F8 (PySem.W.mg_of X G a8) b8 (ok_read_values (G := GG) T D6 D7 F8)
  have D9 : FnD GG 1 (PySem.Str.ofString "_law_pool") 2 false den__law_pool := fnd_mk (G := GG) F9 (PySem.W.mg_of X G a9) b9 (ok__law_pool (G := GG) T  F9)
  have D10 : FnD GG 1 (PySem.Str.ofString "_law_common") 2 false den__law_common := fnd_mk (G := GG) F10 (PySem.W.mg_of X G a10) b10 (ok__law_common (G := GG) T  F10)
  have D11 : FnD GG 2 (PySem.Str.ofString "_law_number") 3 false den__law_number := fnd_mk (G := GG) F11 (PySem.W.mg_of X G a11) b11 (ok__law_number (G := GG) T D10 F11)
  have D12 : FnD GG 2 (PySem.Str.ofString "_law_large") 3 false den__law_large := fnd_mk (G := GG) F12 (PySem.W.mg_of X G a12) b12 (ok__law_large (G := GG) T D10 F12)
  have D13 : FnD GG 1 (PySem.Str.ofString "_law_text") 2 false den__law_text := fnd_mk (G := GG) F13 (PySem.W.mg_of X G a13) b13 (ok__law_text (G := GG) T  F13)
  have D14 : FnD GG 1 (PySem.Str.ofString "_law_digits") 1 false den__law_digits := fnd_mk (G := GG) F14 (PySem.W.mg_of X G a14) b14 (ok__law_digits (G := GG) T  F14)
  have D15 : FnD GG 2 (PySem.Str.ofString "_law_due") 2 false den__law_due := fnd_mk (G := GG) F15 (PySem.W.mg_of X G a15) b15 (ok__law_due (G := GG) T D10 D14 F15)
  have D16 : FnD GG 3 (PySem.Str.ofString "_law_dues") 2 false den__law_dues := fnd_mk (G := GG) F16 (PySem.W.mg_of X G a16) b16 (ok__law_dues (G := GG) T D15 F16)
  have D17 : FnD GG 3 (PySem.Str.ofString "_law_many") 3 false den__law_many := fnd_mk (G := GG) F17 (PySem.W.mg_of X G a17) b17 (ok__law_many (G := GG) T D11 D13 F17)
  have D18 : FnD GG 1 (PySem.Str.ofString "_law_same") 3 false den__law_same := fnd_mk (G := GG) F18 (PySem.W.mg_of X G a18) b18 (ok__law_same (G := GG) T  F18)
  have D19 : FnD GG 4 (PySem.Str.ofString "_law_number_told") 2 false den__law_number_told := fnd_mk (G := GG) F19 (PySem.W.mg_of X G a19) b19 (ok__law_number_told (G := GG) T D6 F19)
  have D20 : FnD GG 5 (PySem.Str.ofString "_law_values_told") 2 true den__law_values_told := fnd_mk (G := GG) F20 (PySem.W.mg_of X G a20) b20 (ok__law_values_told (G := GG) T D8 F20)
  have D21 : FnD GG 5 (PySem.Str.ofString "_law_number_read") 2 false den__law_number_read := fnd_mk (G := GG) F21 (PySem.W.mg_of X G a21) b21 (ok__law_number_read (G := GG) T D2 D15 D18 D19 F21)
  have D22 : FnD GG 6 (PySem.Str.ofString "_law_values_read") 2 false den__law_values_read := fnd_mk (G := GG) F22 (PySem.W.mg_of X G a22) b22 (ok__law_values_read (G := GG) T D4 D8 D16 D18 D20 F22)
  have D23 : FnD GG 1 (PySem.Str.ofString "_law_spoilt") 3 false den__law_spoilt := fnd_mk (G := GG) F23 (PySem.W.mg_of X G a23) b23 (ok__law_spoilt (G := GG) T  F23)
  have D24 : FnD GG 1 (PySem.Str.ofString "_law_odd") 1 false den__law_odd := fnd_mk (G := GG) F24 (PySem.W.mg_of X G a24) b24 (ok__law_odd (G := GG) T  F24)
  refine (ok_law (G := GG) T D2 D4 D9 D11 D12 D13 D17 D21 D22 D23 D24 F25).imp fun vs H Q E q => ?_
  obtain ⟨a, ns, rfl, hS, hl, q⟩ := q
  obtain ⟨Z, ds, h1, h2, h3, h4, h5, h6⟩ := law_sp (G := GG) hS (hden ns hl)
  exact ⟨Z, ds, h1, h2, h3, fun d v H' x y z => by
    have e := h4 d v H' x y z
    subst e
    exact q H', fun x H' y z => (h5 x H' y z).elim, h6⟩
end DL

set_option maxRecDepth 100001
open PySem PySem.W PyProof.Rows

set_option maxHeartbeats 0 in
theorem PySem.Challenge.cw_weighedgrids_k04_numbers_written_and_rea_holds : PySem.Challenge.rw_weighedgrids_k04_numbers_written_and_rea.Holds := by
  w_on; o_law; k_head; (case hw => w_witness2)
  k_fill
  refine L2.walk_of (l := PySem.Challenge.rw_weighedgrids_k04_numbers_written_and_rea) (n := 63) (k := 7) (x := "script") (CX := fun w => L2.CX PySem.Challenge.rw_weighedgrids_k04_numbers_written_and_rea.prog w) (sp := fun w => DL.spLaw _) rfl (by decide) rfl ⟨rfl, by decide, by decide⟩ (fun w h Y => PySem.W.kIn_of Y) ?F (fun _ _ a ns hl _ hS => ⟨a, ns, rfl, hS, hl, fun _ => rfl⟩) ?X
  case F =>
    intro w mg fa h KX G hmg
    refine' DL.all_mk DL.den_law_true KX G hmg ?a0 ?l0 ?c0 ?k0 ?a1 ?l1 ?c1 ?k1 ?a2 ?l2 ?c2 ?k2 ?a3 ?l3 ?c3 ?k3 ?a4 ?l4 ?c4 ?k4 ?a5 ?l5 ?c5 ?k5 ?a6 ?l6 ?c6 ?k6 ?a7 ?l7 ?c7 ?k7 ?a8 ?l8 ?c8 ?k8 ?a9 ?l9 ?c9 ?k9 ?a10 ?l10 ?c10 ?k10 ?a11 ?l11 ?c11 ?k11 ?a12 ?l12 ?c12 ?k12 ?a13 ?l13 ?c13 ?k13 ?a14 ?l14 ?c14 ?k14 ?a15 ?l15 ?c15 ?k15 ?a16 ?l16 ?c16 ?k16 ?a17 ?l17 ?c17 ?k17 ?a18 ?l18 ?c18 ?k18 ?a19 ?l19 ?c19 ?k19 ?a20 ?l20 ?c20 ?k20 ?a21 ?l21 ?c21 ?k21 ?a22 ?l22 ?c22 ?k22 ?a23 ?l23 ?c23 ?k23 ?a24 ?l24 ?c24 ?k24 ?a25 ?l25 ?c25 ?k25 ?ea0 ?ex0 ?ek0 ?eb0 ?et0 ?eh0 ?eg0 ?er0 ?ec0 ?em0 ?ea1 ?ex1 ?ek1 ?eb1 ?et1 ?eh1 ?eg1 ?er1 ?ec1 ?em1 ?ea2 ?ex2 ?ek2 ?eb2 ?et2 ?eh2 ?eg2 ?er2 ?ec2 ?em2 ?ea3 ?ex3 ?ek3 ?eb3 ?et3 ?eh3 ?eg3 ?er3 ?ec3 ?em3 ?ea4 ?ex4 ?ek4 ?eb4 ?et4 ?eh4 ?eg4 ?er4 ?ec4 ?em4 ?ea5 ?ex5 ?ek5 ?eb5 ?et5 ?eh5 ?eg5 ?er5 ?ec5 ?em5 ?esp ?etk ?xm_InvalidText_GridError ?xm_InvalidText_InvalidText ?kt_InvalidText_GridError ?kt_InvalidText_InvalidText ?kt_InvalidText_ValueError ?ka_InvalidText_InvalidGrid_InvalidNumber ?ka_InvalidText_InvalidField_InvalidNumber_NoInverse ?z0 ?z1 ?z2 ?z3 ?z4 ?z5 ?z6 ?z7 ?z8 ?z9 ?z10 ?g_gcd
    (case a0 => first | k_is | rfl | decide +kernel)
    (case l0 => first | k_is | rfl | decide +kernel)
    (case c0 => first | k_is | rfl | decide +kernel)
    (case k0 => first | k_is | rfl | decide +kernel)
    (case a1 => first | k_is | rfl | decide +kernel)
    (case l1 => first | k_is | rfl | decide +kernel)
    (case c1 => first | k_is | rfl | decide +kernel)
    (case k1 => first | k_is | rfl | decide +kernel)
    (case a2 => first | k_is | rfl | decide +kernel)
    (case l2 => first | k_is | rfl | decide +kernel)
    (case c2 => first | k_is | rfl | decide +kernel)
    (case k2 => first | k_is | rfl | decide +kernel)
    (case a3 => first | k_is | rfl | decide +kernel)
    (case l3 => first | k_is | rfl | decide +kernel)
    (case c3 => first | k_is | rfl | decide +kernel)
    (case k3 => first | k_is | rfl | decide +kernel)
    (case a4 => first | k_is | rfl | decide +kernel)
    (case l4 => first | k_is | rfl | decide +kernel)
    (case c4 => first | k_is | rfl | decide +kernel)
    (case k4 => first | k_is | rfl | decide +kernel)
    (case a5 => first | k_is | rfl | decide +kernel)
    (case l5 => first | k_is | rfl | decide +kernel)
    (case c5 => first | k_is | rfl | decide +kernel)
    (case k5 => first | k_is | rfl | decide +kernel)
    (case a6 => first | k_is | rfl | decide +kernel)
    (case l6 => first | k_is | rfl | decide +kernel)
    (case c6 => first | k_is | rfl | decide +kernel)
    (case k6 => first | k_is | rfl | decide +kernel)
    (case a7 => first | k_is | rfl | decide +kernel)
    (case l7 => first | k_is | rfl | decide +kernel)
    (case c7 => first | k_is | rfl | decide +kernel)
    (case k7 => first | k_is | rfl | decide +kernel)
    (case a8 => first | k_is | rfl | decide +kernel)
    (case l8 => first | k_is | rfl | decide +kernel)
    (case c8 => first | k_is | rfl | decide +kernel)
    (case k8 => first | k_is | rfl | decide +kernel)
    (case a9 => first | k_is | rfl | decide +kernel)
    (case l9 => first | k_is | rfl | decide +kernel)
    (case c9 => first | k_is | rfl | decide +kernel)
    (case k9 => first | k_is | rfl | decide +kernel)
    (case a10 => first | k_is | rfl | decide +kernel)
    (case l10 => first | k_is | rfl | decide +kernel)
    (case c10 => first | k_is | rfl | decide +kernel)
    (case k10 => first | k_is | rfl | decide +kernel)
    (case a11 => first | k_is | rfl | decide +kernel)
    (case l11 => first | k_is | rfl | decide +kernel)
    (case c11 => first | k_is | rfl | decide +kernel)
    (case k11 => first | k_is | rfl | decide +kernel)
    (case a12 => first | k_is | rfl | decide +kernel)
    (case l12 => first | k_is | rfl | decide +kernel)
    (case c12 => first | k_is | rfl | decide +kernel)
    (case k12 => first | k_is | rfl | decide +kernel)
    (case a13 => first | k_is | rfl | decide +kernel)
    (case l13 => first | k_is | rfl | decide +kernel)
    (case c13 => first | k_is | rfl | decide +kernel)
    (case k13 => first | k_is | rfl | decide +kernel)
    (case a14 => first | k_is | rfl | decide +kernel)
    (case l14 => first | k_is | rfl | decide +kernel)
    (case c14 => first | k_is | rfl | decide +kernel)
    (case k14 => first | k_is | rfl | decide +kernel)
    (case a15 => first | k_is | rfl | decide +kernel)
    (case l15 => first | k_is | rfl | decide +kernel)
    (case c15 => first | k_is | rfl | decide +kernel)
    (case k15 => first | k_is | rfl | decide +kernel)
    (case a16 => first | k_is | rfl | decide +kernel)
    (case l16 => first | k_is | rfl | decide +kernel)
    (case c16 => first | k_is | rfl | decide +kernel)
    (case k16 => first | k_is | rfl | decide +kernel)
    (case a17 => first | k_is | rfl | decide +kernel)
    (case l17 => first | k_is | rfl | decide +kernel)
    (case c17 => first | k_is | rfl | decide +kernel)
    (case k17 => first | k_is | rfl | decide +kernel)
    (case a18 => first | k_is | rfl | decide +kernel)
    (case l18 => first | k_is | rfl | decide +kernel)
    (case c18 => first | k_is | rfl | decide +kernel)
    (case k18 => first | k_is | rfl | decide +kernel)
    (case a19 => first | k_is | rfl | decide +kernel)
    (case l19 => first | k_is | rfl | decide +kernel)
    (case c19 => first | k_is | rfl | decide +kernel)
    (case k19 => first | k_is | rfl | decide +kernel)
    (case a20 => first | k_is | rfl | decide +kernel)
    (case l20 => first | k_is | rfl | decide +kernel)
    (case c20 => first | k_is | rfl | decide +kernel)
    (case k20 => first | k_is | rfl | decide +kernel)
    (case a21 => first | k_is | rfl | decide +kernel)
    (case l21 => first | k_is | rfl | decide +kernel)
    (case c21 => first | k_is | rfl | decide +kernel)
    (case k21 => first | k_is | rfl | decide +kernel)
    (case a22 => first | k_is | rfl | decide +kernel)
    (case l22 => first | k_is | rfl | decide +kernel)
    (case c22 => first | k_is | rfl | decide +kernel)
    (case k22 => first | k_is | rfl | decide +kernel)
    (case a23 => first | k_is | rfl | decide +kernel)
    (case l23 => first | k_is | rfl | decide +kernel)
    (case c23 => first | k_is | rfl | decide +kernel)
    (case k23 => first | k_is | rfl | decide +kernel)
    (case a24 => first | k_is | rfl | decide +kernel)
    (case l24 => first | k_is | rfl | decide +kernel)
    (case c24 => first | k_is | rfl | decide +kernel)
    (case k24 => first | k_is | rfl | decide +kernel)
    (case a25 => first | k_is | rfl | decide +kernel)
    (case l25 => first | k_is | rfl | decide +kernel)
    (case c25 => first | k_is | rfl | decide +kernel)
    (case k25 => first | k_is | rfl | decide +kernel)
    (case ea0 => first | k_is | rfl | decide +kernel)
    (case ex0 => k_exc)
    (case ek0 => first | k_is | rfl | decide +kernel)
    (case eb0 => first | k_is | rfl | decide +kernel)
    (case et0 => first | k_is | rfl | decide +kernel)
    (case eh0 => first | k_is | rfl | decide +kernel)
    (case eg0 => first | k_is | rfl | decide +kernel)
    (case er0 => first | k_is | rfl | decide +kernel)
    (case ec0 => first | k_is | rfl | decide +kernel)
    (case em0 => first | k_is | rfl | decide +kernel)
    (case ea1 => first | k_is | rfl | decide +kernel)
    (case ex1 => k_exc)
    (case ek1 => first | k_is | rfl | decide +kernel)
    (case eb1 => first | k_is | rfl | decide +kernel)
    (case et1 => first | k_is | rfl | decide +kernel)
    (case eh1 => first | k_is | rfl | decide +kernel)
    (case eg1 => first | k_is | rfl | decide +kernel)
    (case er1 => first | k_is | rfl | decide +kernel)
    (case ec1 => first | k_is | rfl | decide +kernel)
    (case em1 => first | k_is | rfl | decide +kernel)
    (case ea2 => first | k_is | rfl | decide +kernel)
    (case ex2 => k_exc)
    (case ek2 => first | k_is | rfl | decide +kernel)
    (case eb2 => first | k_is | rfl | decide +kernel)
    (case et2 => first | k_is | rfl | decide +kernel)
    (case eh2 => first | k_is | rfl | decide +kernel)
    (case eg2 => first | k_is | rfl | decide +kernel)
    (case er2 => first | k_is | rfl | decide +kernel)
    (case ec2 => first | k_is | rfl | decide +kernel)
    (case em2 => first | k_is | rfl | decide +kernel)
    (case ea3 => first | k_is | rfl | decide +kernel)
    (case ex3 => k_exc)
    (case ek3 => first | k_is | rfl | decide +kernel)
    (case eb3 => first | k_is | rfl | decide +kernel)
    (case et3 => first | k_is | rfl | decide +kernel)
    (case eh3 => first | k_is | rfl | decide +kernel)
    (case eg3 => first | k_is | rfl | decide +kernel)
    (case er3 => first | k_is | rfl | decide +kernel)
    (case ec3 => first | k_is | rfl | decide +kernel)
    (case em3 => first | k_is | rfl | decide +kernel)
    (case ea4 => first | k_is | rfl | decide +kernel)
    (case ex4 => k_exc)
    (case ek4 => first | k_is | rfl | decide +kernel)
    (case eb4 => first | k_is | rfl | decide +kernel)
    (case et4 => first | k_is | rfl | decide +kernel)
    (case eh4 => first | k_is | rfl | decide +kernel)
    (case eg4 => first | k_is | rfl | decide +kernel)
    (case er4 => first | k_is | rfl | decide +kernel)
    (case ec4 => first | k_is | rfl | decide +kernel)
    (case em4 => first | k_is | rfl | decide +kernel)
    (case ea5 => first | k_is | rfl | decide +kernel)
    (case ex5 => k_exc)
    (case ek5 => first | k_is | rfl | decide +kernel)
    (case eb5 => first | k_is | rfl | decide +kernel)
    (case et5 => first | k_is | rfl | decide +kernel)
    (case eh5 => first | k_is | rfl | decide +kernel)
    (case eg5 => first | k_is | rfl | decide +kernel)
    (case er5 => first | k_is | rfl | decide +kernel)
    (case ec5 => first | k_is | rfl | decide +kernel)
    (case em5 => first | k_is | rfl | decide +kernel)
    (case esp => first | k_is | rfl | decide +kernel)
    (case etk => first | k_is | rfl | decide +kernel)
    (case xm_InvalidText_GridError => first | k_is | rfl | decide +kernel)
    (case xm_InvalidText_InvalidText => first | k_is | rfl | decide +kernel)
    (case kt_InvalidText_GridError => first | k_is | rfl | decide +kernel)
    (case kt_InvalidText_InvalidText => first | k_is | rfl | decide +kernel)
    (case kt_InvalidText_ValueError => first | k_is | rfl | decide +kernel)
    (case ka_InvalidText_InvalidGrid_InvalidNumber => first | k_is | rfl | decide +kernel)
    (case ka_InvalidText_InvalidField_InvalidNumber_NoInverse => first | k_is | rfl | decide +kernel)
    (case z0 => first | k_is | rfl | decide +kernel)
    (case z1 => first | k_is | rfl | decide +kernel)
    (case z2 => first | k_is | rfl | decide +kernel)
    (case z3 => first | k_is | rfl | decide +kernel)
    (case z4 => first | k_is | rfl | decide +kernel)
    (case z5 => first | k_is | rfl | decide +kernel)
    (case z6 => first | k_is | rfl | decide +kernel)
    (case z7 => first | k_is | rfl | decide +kernel)
    (case z8 => first | k_is | rfl | decide +kernel)
    (case z9 => first | k_is | rfl | decide +kernel)
    (case z10 => first | k_is | rfl | decide +kernel)
    (case g_gcd => first | k_is | rfl | decide +kernel)
  case X =>
    intro w H s e s' h
    obtain ⟨_, _, _, _, _, _, _, _, _, _, _, _, z⟩ := h
    exact z

